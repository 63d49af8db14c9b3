import PyProof.Rows.All
import Wide.All
import OpenK.AllK
import Wide.FinOn
import KE.KDictKeyed
import HandS.ForMost
import HandS.DictComp
import HandS.IsInst
import HandS.Wide
import HandS.Style
import HandS.Walk
import HandS.TupAny
import HandS.SortInts
import HandS.Conv
import HandS.Zip
import HandS.NoneIn
import HandS.Deep
import HandS.Defaults
import HandS.Strs
import HandS.SetBool
import KE.GoesMore
import KE.GoesZip
import KE.GoesEnum
import KE.KDictZip
import KE.KItemsList
import KE.KStateDown
import Lean
import HandS.Ends
import HandS.More
import HandS.WordsExc
import HandS.Head0
import HandS.Head1
import HandS.Head2
import HandS.HeadEnd
import HandS.HeadHook1
import HandS.HeadHook2
import PySem.Challenge.RW_tillnextship_k77_whole_chains_of_many_ni
set_option Elab.async false
set_option linter.all false
set_option maxRecDepth 100000
set_option maxHeartbeats 2000000
/-! A dict whose keys are nested tuples: its object is told exactly; membership, comprehension. -/
namespace ML
open PySem PySem.Spec PyProof.Rows L2
def ExO (a : Addr) (od : Obj) : HO := .ext fun h => h.get? a = some od
abbrev KXs := List (NestedKey × Addr × Value)
def KeyedO (w : World) (a : Addr) (od : Obj) (xs : KXs) : Prop :=
  (a == sysModules) = false ∧ xs.length ≤ sizeLine ∧ od.ExactDict ∧ (xs.map (·.1)).Nodup ∧ ∃ es ep, od.data = .dict es ep ∧ es.toList = xs.map fun x => (⟨x.1.hash w, .ref x.2.1, x.2.2⟩ : DictEntry)
mutual
inductive NkV (K : PySem.W.Frag) (H : Hp) : NestedKey → V → Prop
  | none : NkV K H .none .non
  | bool (b : Bool) : NkV K H (.num (if b = true then 1 else 0)) (.bl b)
  | int (i : Int) : NkV K H (.num i) (.int i)
  | text (x : Str) : NkV K H (.text x) (.str x)
  | tup {a : Addr} {xs : List V} {ks : List NestedKey} : SqT K H a xs → NkAll K H ks xs → NkV K H (.tup ks) (.ref a)
inductive NkAll (K : PySem.W.Frag) (H : Hp) : List NestedKey → List V → Prop
  | nil : NkAll K H [] []
  | cons {k : NestedKey} {v : V} {ks : List NestedKey} {vs : List V} : NkV K H k v → NkAll K H ks vs → NkAll K H (k :: ks) (v :: vs)
end
section
variable {X : Cx} {pins : List (Addr × Obj)} {σ : L2.St} {H : Hp} {s : Shared}
mutual
theorem NkV.is (I : Inv X pins σ H s) : ∀ (k : NestedKey) (v : V) (u : Value), NkV X.K H k v → RelV v u → NestedIs s.heap k u
  | .none, _, _, h, r => by cases h; cases r; exact .none
  | .num _, _, _, h, r => by
    cases h with
    | bool b => cases r; exact .bool rfl
    | int i => obtain ⟨t, rfl⟩ := r; exact .int _ _
  | .text _, _, _, h, r => by cases h; obtain ⟨t, rfl⟩ := r; exact .text _ _
  | .tup ks, _, _, h, r => by
    cases h with
    | tup hx ha =>
      cases r
      obtain ⟨its, rv, ⟨o, ho, hc, n, hd⟩, _⟩ := I.tuple hx
      exact .tup ho hc hd (by simpa using NkAll.is I ks _ its ha rv)
theorem NkAll.is (I : Inv X pins σ H s) : ∀ (ks : List NestedKey) (vs : List V) (us : List Value), NkAll X.K H ks vs → Vals vs us → NestedAll s.heap ks us
  | [], _, _, h, r => by cases h; cases r; exact .nil
  | k :: ks, _, _, h, r => by
    cases h with
    | cons h1 h2 => cases r with
      | cons r1 r2 => exact .cons (NkV.is I k _ _ h1 r1) (NkAll.is I ks _ _ h2 r2)
end
def KeysV (K : PySem.W.Frag) (H : Hp) (xs : KXs) : Prop := ∀ z ∈ xs, NkV K H z.1 (.ref z.2.1) ∧ z.1.depth ≤ 8
theorem exO_get (I : Inv X pins σ H s) {a : Addr} {od : Obj} (h : H a = some (ExO a od)) : s.heap.get? a = some od := (I.hok a _ h).1
theorem keyed_heap (I : Inv X pins σ H s) {d : Addr} {od : Obj} {xs : KXs} (h : H d = some (ExO d od)) (k : KeyedO X.w d od xs) (ks : KeysV X.K H xs) : s.heap.DictOfH (nestedKind X.prog X.w) d xs := by
  obtain ⟨_, _, hx, hn, es, ep, hd, he⟩ := k
  exact ⟨od, es, ep, exO_get I h, hx, hd, he, fun z hz => ⟨NkV.is I _ _ _ (ks z hz).1 rfl, (ks z hz).2⟩, hn⟩
theorem atKey_in (xs : KXs) (k : NestedKey) : (atKey xs k).isSome = decide (k ∈ xs.map (·.1)) := by
  unfold atKey
  rw [Option.isSome_map, Bool.eq_iff_iff, List.find?_isSome, decide_eq_true_eq, List.mem_map]
  constructor
  · rintro ⟨x, hx, e⟩
    exact ⟨x, hx, of_decide_eq_true e⟩
  · rintro ⟨x, hx, e⟩
    exact ⟨x, hx, decide_eq_true e⟩
/-- k in d, k not in d -/
def rInN (w : World) (K : PySem.W.Frag) (neg : Bool) : R2 := fun x y H Q => ∃ (a d : Addr) (od : Obj) (xs : KXs) (k : NestedKey), x = .ref a ∧ y = .ref d ∧ H d = some (ExO d od) ∧ KeyedO w d od xs ∧ KeysV K H xs ∧ NkV K H k (.ref a) ∧ k.depth ≤ 8 ∧
  Q (.bl (if neg then !decide (k ∈ xs.map (·.1)) else decide (k ∈ xs.map (·.1)))) H
theorem op_inN (hv : X.A.units + 65 < cLine) : OpR X (compareOp .In) (rInN X.w X.K false) := by
  intro pins s σ H x y v u Q I rx ry h
  obtain ⟨a, d, od, xs, k, rfl, rfl, hd, ko, kv, hk, h8, q⟩ := h
  cases rx
  cases ry
  refine wpAny_in_heap (knd := nestedKind X.prog X.w) (by show X.A.units + 1 + 8 < cLine; omega) ⟨NkV.is I _ _ _ hk rfl, h8⟩ ko.1 (keyed_heap I hd ko kv) ?_
  exact ⟨.bl _, H, I.tok _, rfl, by rw [atKey_in]; exact q⟩
theorem op_notInN (hv : X.A.units + 65 < cLine) : OpR X (compareOp .NotIn) (rInN X.w X.K true) := by
  intro pins s σ H x y v u Q I rx ry h
  obtain ⟨a, d, od, xs, k, rfl, rfl, hd, ko, kv, hk, h8, q⟩ := h
  cases rx
  cases ry
  show wpAny (model X.prog X.w) X.A (do return Value.bool (!(← contains (.ref d) (.ref a)))) _ _ s
  refine wpAny_bind (wpAny_contains_heap (knd := nestedKind X.prog X.w) (by show X.A.units + 1 + 8 < cLine; omega) ⟨NkV.is I _ _ _ hk rfl, h8⟩ ko.1 (keyed_heap I hd ko kv) (wpAny_pure ?_))
  exact ⟨.bl _, H, I.tok _, rfl, by rw [atKey_in]; exact q⟩
/-! ### the comprehension -/
/-- one more entry -/
def KAdd (w : World) (K : PySem.W.Frag) (D : Addr) (y z : V) (H : Hp) (Nx : Hp → Prop) : Prop := ∃ (a : Addr) (od : Obj) (xs : KXs) (k : NestedKey), y = .ref a ∧ H D = some (ExO D od) ∧ KeyedO w D od xs ∧ KeysV K H xs ∧ NkV K H k (.ref a) ∧ k.depth ≤ 8 ∧ xs.length < sizeLine ∧
  ∀ (od' : Obj) (v : Value), RelV z v → KeyedO w D od' (storedH xs k a v) → Nx (upd H D (ExO D od'))
def tDcN (w : World) (K : PySem.W.Frag) (wi : TI) (g : TG) (tt : TT) (tk tv : TE) (vs : List Nat) : TE := fun σ H Q => wi σ H fun J H1 => ∀ D od0, H1 D = none → KeyedO w D od0 [] → ∃ W : Nat → Nat → Hp → Prop, (∃ m, W 0 m (upd H1 D (ExO D od0))) ∧ ∀ i m H, W i m H →
  (J.stop i H ∧ Q (.ref D) H) ∨ (J.go i H ∧ ∃ Nx : Hp → Prop, (∀ H', Nx H' → ∃ m', m' < m ∧ W (i + 1) m' H') ∧ ∀ x H', J.yld i H x H' → g x (wipe σ vs) H' fun σ2 H2 => wipe σ2 vs = wipe σ vs ∧ tt σ2 H2 fun b H3 =>
    if b = true then tk σ2 H3 fun y H4 => tv σ2 H4 fun z H5 => KAdd w K D y z H5 Nx else Nx H3)
theorem exO_new {P : Program} {w : World} {H : Hp} {h : Heap} {a : Addr} {od : Obj} (e : h.get? a = some od) : ObjOk P w H h a (ExO a od) := ⟨e, ⟨od, e⟩, fun h1 h2 p k => k od p⟩
theorem kadd_ok {D : Addr} {y z : V} {u r : Value} {E : Value → Shared → Prop} {Nx : Hp → Prop} {Q : Unit → Shared → Prop} (I : Inv X pins σ H s) (hv : X.A.units + 65 < cLine) (ry : RelV y u) (rz : RelV z r) (ka : KAdd X.w X.K D y z H Nx)
    (h : ∀ s' H', Inv X pins σ H' s' → Nx H' → Q () s') : wpAny (model X.prog X.w) X.A (dictSet D u r) Q E s := by
  obtain ⟨a, od, xs, k, rfl, hD, ko, kv, hk, h8, hz, nx⟩ := ka
  cases ry
  refine wpAny_dictSet_heap (knd := nestedKind X.prog X.w) (hsz := ko.2.1) (by show X.A.units + 8 < cLine; omega) ⟨NkV.is I _ _ _ hk rfl, h8⟩ (keyed_heap I hD ko kv) fun h' dd hs => ?_
  obtain ⟨od', es', ep', g1, g2, g3, g4, g5, g6⟩ := dd
  have hl : (storedH xs k a r).length ≤ sizeLine := by
    unfold storedH
    split
    · rw [List.length_map]; omega
    · rw [List.length_append]; exact hz
  have J := d_write (t' := s.toks + (nestedKind X.prog X.w).draws k) I (by rw [hD]; exact True.intro) hs ⟨od', g1⟩ (exO_new (P := X.prog) (w := X.w) (H := upd H D (ExO D od')) g1)
  exact h _ _ J (nx od' r rz ⟨ko.1, hl, g2, g6, es', ep', g3, g4⟩)
abbrev Blk (X : Cx) (sc : Scope) (F : Cx → Prop) : Prop := ∀ (s : Shared) (H : Hp) (C : Addr) (cl : List (Str × Addr)) (fp : List Addr), F (X.blk s H sc (compEnvC sc cl C X.env) fp)
theorem dcN_core {Q : VK} {kx vx tg iter : Expr} {ifs : List Expr} {scope : Scope} {own : List (Str × Nat)} {pos pos' : Pos} {wi : TI} {g : TG} {tt : TT} {tk tv : TE} {use : Option (Value → Sem Unit)} {Qf : Value → Shared → Prop}
    (hc : X.calm = true) (hv : X.A.units + 65 < cLine) (hN : X.N.Nodup) (I : Inv X pins σ H s) (hi : PI X tg iter wi) (ok : BlkOk X.N X.env.scope scope own)
    (hg : Blk X scope fun Y => PG Y tg g) (ht : Blk X scope fun Y => PTs Y ifs tt) (hk : Blk X scope fun Y => PE Y kx tk) (he : Blk X scope fun Y => PE Y vx tv) (hs : ∀ x, foldedSetIterable iter X.env x = pure x)
    (h : tDcN X.w X.K wi g tt tk tv (own.map (·.2)) σ H Q)
    (hRR : ∀ D C s' m H', Inv X pins σ H' s' → Q (.ref D) H' → s'.heap.Ns C m → FpOk X pins H' C → compPost (model X.prog X.w) X.A X.xe use Qf (.ref D) C (.ok .next) s') :
    wpAny (model X.prog X.w) X.A (comprehension (.DictComp kx vx [⟨tg, iter, ifs, 0⟩] scope pos) scope X.env pos' newDict false (eval iter X.env) use) Qf X.xe s := by
  have hfree : ∀ y ∈ scope.names, y.2 = .free → ∃ c, X.env.cells.lookup y.1 = some c := fun y hy e => (ok.free y hy e).elim (fun k => I.ok.has _ (.inl k)) fun k => I.ok.has _ (.inr k)
  refine wpAny_comprehension_free (use := use) rfl hs (closure_ok hfree) ok.kind (fun y hy e => by rw [ok.uniq y hy, e]) (thn (hi.run pins s σ H _ I h) fun xv s1 hx => thn hx fun itv s2 h2 => ?_)
  obtain ⟨it, fp, tn, J, H2, rfl, I2, T, st2, f2, q⟩ := h2
  refine wpAny_newObj_type (newEnv_comp ?_)
  have new : (s2.heap.push { cls := .type "dict", data := .dict #[] }).get? s2.heap.objs.size = some { cls := .type "dict", data := .dict #[] } := Heap.get?_push_size _ rfl
  have ko : KeyedO X.w s2.heap.objs.size { cls := .type "dict", data := .dict #[] } [] := ⟨beq_eq_false_iff_ne.mpr (Ne.symm (Nat.ne_of_lt I2.big)), Nat.zero_le _, ⟨rfl, rfl, rfl⟩, List.nodup_nil, #[], 0, rfl, rfl⟩
  obtain ⟨W, ⟨m0, w0⟩, turn⟩ := q s2.heap.objs.size _ (I2.hok.fresh (Nat.le_refl _)) ko
  generalize hD : s2.heap.objs.size = D at w0 turn new ⊢
  generalize hs3 : ({ s2 with heap := s2.heap.push { cls := .type "dict", data := .dict #[] } } : Shared) = s3
  have h3 : s3.heap = s2.heap.push { cls := .type "dict", data := .dict #[] } := by rw [← hs3]
  generalize hE : ExO D { cls := .type "dict", data := .dict #[] } = eD at w0
  have I3 : Inv X pins σ (upd H2 D eD) s3 := by
    rw [← hs3, ← hE]
    exact I2.laid (t' := s2.toks) (fun b o e => Heap.get?_push_of_some _ e) (Nat.le_of_eq hD) (exO_new new)
  have f3 : ∀ b ∈ fp, FpOk X pins (upd H2 D eD) b ∧ b < s3.heap.objs.size := fun b hb => by
    obtain ⟨o, e, _⟩ := T.obj _ _ st2 b hb
    have hlt := Heap.lt_size e
    exact ⟨⟨by rw [upd_ne (by rw [← hD]; exact Nat.ne_of_lt hlt)]; exact (f2 b hb).1, (f2 b hb).2⟩, by rw [h3, Heap.size_push]; exact Nat.lt_succ_of_lt hlt⟩
  have st3 : tn 0 s3.heap := T.keep _ _ _ st2 fun b _ o e => by rw [h3]; exact Heap.get?_push_of_some _ e
  have I4 := block_start I3 ok hN f3
  generalize hcl : cellsFrom (s3.heap.objs.size + 1) scope.names (cloFrom X.env.cells scope.names []) = cl at I4
  have pg := hg s3 (upd H2 D eD) s3.heap.objs.size cl fp
  have pt := ht s3 (upd H2 D eD) s3.heap.objs.size cl fp
  have pk := hk s3 (upd H2 D eD) s3.heap.objs.size cl fp
  have pe := he s3 (upd H2 D eD) s3.heap.objs.size cl fp
  show codeAny _ _ (.compStart (.DictComp kx vx [⟨tg, iter, ifs, 0⟩] scope pos) 0 (.ref it) (.ref D) (compEnvC scope cl s3.heap.objs.size X.env)) (compPost (model X.prog X.w) X.A X.xe use Qf (.ref D) s3.heap.objs.size) { s3 with heap := pushCells (s3.heap.push { cls := .type "dict", data := .dict #[] }) scope.names }
  have nfp : ∀ b ∈ fp, (upd H2 D eD) b = none := fun b hb => (f3 b hb).1.1
  generalize hce : compEnvC scope cl s3.heap.objs.size X.env = ce at I4 pg pt pk pe ⊢
  have cL : ce.locals = s3.heap.objs.size := by subst hce; rfl
  generalize hH3 : upd H2 D eD = H3 at I3 I4 pg pt pk pe w0 nfp f3
  generalize hs4 : ({ s3 with heap := pushCells (s3.heap.push { cls := .type "dict", data := .dict #[] }) scope.names } : Shared) = s4 at I4 ⊢
  have st4 : tn 0 s4.heap := T.keep _ _ _ st3 fun b _ o e => by rw [← hs4]; exact pushCells_keeps _ _ _ _ (Heap.get?_push_of_some _ e)
  generalize hV : own.map (·.2) = vs at I4 turn
  have stat : ∀ {σ' : L2.St} {H' : Hp} {s' : Shared}, Inv (X.blk s3 H3 scope ce fp) [] σ' H' s' → (∀ b ∈ fp, H' b = none) → ∀ b ∈ fp, FpOk (X.blk s3 H3 scope ce fp) [] H' b := fun {σ' H' s'} I' hn b hb =>
    ⟨hn b hb, (I'.ok.exf b hb).1, I'.ok.exfs b hb, .inl hb, fun x c e => (I'.ok.exf b hb).2 x c e, fun p hp => absurd (show p ∈ ([] : List (Addr × Obj)) ++ [] from hp) (by simp)⟩
  have loop : codeAny (model X.prog X.w) X.A (.compLoop (.DictComp kx vx [⟨tg, iter, ifs, 0⟩] scope pos) 0 (.ref it) (.ref D) ce) (compPost (model X.prog X.w) X.A X.xe use Qf (.ref D) s3.heap.objs.size) s4 := by
    refine compLoop_anyD (fun n s' => ∃ i H', Inv (X.blk s3 H3 scope ce fp) [] (wipe σ vs) H' s' ∧ tn i s'.heap ∧ (∀ b ∈ fp, H' b = none) ∧ W i n H') ?_ m0 ⟨0, H3, I4, st4, nfp, w0⟩
    rintro n s5 ⟨i, H5, I5, st5, n5, w5⟩
    rcases turn i n H5 w5 with ⟨stop, qq⟩ | ⟨go, Nx, hNx, step⟩
    · refine thnF (T.done (X.blk s3 H3 scope ce fp) rfl rfl rfl hc i [] s5 _ H5 (fun _ _ => False) I5 (stat I5 n5) st5 stop) fun r s6 ⟨hr, I6⟩ => ?_
      subst hr
      have I7 : Inv X pins σ H5 s6 := I3.call' (ch := fp) I6.os I6.base I6.hok I6.bare fun b hb => ⟨(f3 b hb).1.2.2.2.1, (f3 b hb).1.2.1, (f3 b hb).1.2.2.2.2.1, (f3 b hb).1.2.2.2.2.2⟩
      have nC : H5 s3.heap.objs.size = none := by
        rw [← cL]
        exact I6.free
      obtain ⟨m, hn, _⟩ := I6.loc
      have hn : s6.heap.Ns s3.heap.objs.size m := by
        rw [← cL]
        exact hn
      exact hRR D s3.heap.objs.size s6 m H5 I7 qq hn (I3.fpOk (Nat.le_refl _) nC)
    · refine thnF (T.item (X.blk s3 H3 scope ce fp) rfl rfl rfl hc i [] s5 _ H5 (fun _ _ => False) I5 (stat I5 n5) st5 go) fun r s6 ⟨u, hr, h6⟩ => ?_
      subst hr
      refine thnF h6 fun _ s7 ⟨x, H7, I7, r7, y7, st7, n7⟩ => ?_
      refine thnF (pg.run _ s7 _ H7 x u _ (I7.pinned (stat I7 n7) (T.obj _ _ st7)) r7 (step x H7 y7)) fun _ s8 ⟨σ8, H8, I8, hw8, q8⟩ => ?_
      refine thnF (pt.run _ s8 σ8 H8 _ I8 q8) fun b s9 ⟨H9, I9, q9⟩ => ?_
      have fin : ∀ {s' : Shared} {H' : Hp}, Inv (X.blk s3 H3 scope ce fp) ([] ++ pinsAt fp s7.heap) σ8 H' s' → Nx H' → ∃ m, m < n ∧ ∃ i H', Inv (X.blk s3 H3 scope ce fp) [] (wipe σ vs) H' s' ∧ tn i s'.heap ∧ (∀ b ∈ fp, H' b = none) ∧ W i m H' := fun {s' H'} I' nx => by
        obtain ⟨m', hm, w'⟩ := hNx H' nx
        have pin' : ∀ b ∈ fp, ∀ o, s7.heap.get? b = some o → s'.heap.get? b = some o ∧ H' b = none := fun b hb o e =>
          have z := I'.pin (b, o) (List.mem_append_right _ (List.mem_append_right _ (mem_pinsAt hb e)))
          ⟨z.1, z.2.1⟩
        refine ⟨m', hm, i + 1, H', (I'.unpinned (pins := [])).weak (by rw [← hw8, wipe_length]) (fun j v e => (wipe_some (by rw [hw8]; exact e)).1), T.keep _ _ _ st7 fun b hb o e => (pin' b hb o e).1, fun b hb => ?_, w'⟩
        obtain ⟨o, e, _⟩ := T.obj _ _ st7 b hb
        exact (pin' b hb o e).2
      cases b with
      | false =>
        rw [if_neg Bool.false_ne_true] at q9 ⊢
        exact fin I9 q9
      | true =>
        rw [if_pos rfl] at q9 ⊢
        refine thnF (pk.run _ s9 σ8 H9 _ I9 q9) fun z s10 ⟨yk, H10, I10, r10, q10⟩ => ?_
        refine thnF (pe.run _ s10 σ8 H10 _ I10 q10) fun z2 s11 ⟨yv, H11, I11, r11, ka⟩ => ?_
        exact kadd_ok (X := X.blk s3 H3 scope ce fp) I11 hv r10 r11 ka fun s12 H12 I12 nx => fin I12 nx
  exact codeAny_compStart_dict loop (T.self X.A 0 _ _ _ st4 loop)
/-- name = {(..): v for x in ..} -/
theorem ps_setDcN {i : Nat} {y : Str} {py : Pos} {kx vx tg iter : Expr} {ifs : List Expr} {scope : Scope} {own : List (Str × Nat)} {pos spos : Pos} {wi : TI} {g : TG} {tt : TT} {tk tv : TE} (hc : X.calm = true) (hv : X.A.units + 65 < cLine) (hN : X.N.Nodup) (hy : X.N[i]? = some y) (hyl : X.env.scope.names.lookup y = some .local)
    (hsw : swapsWith (.DictComp kx vx [⟨tg, iter, ifs, 0⟩] scope pos) (some (.Name y py)) spos.line X.env = pure true) (hi : PI X tg iter wi) (ok : BlkOk X.N X.env.scope scope own)
    (hg : Blk X scope fun Y => PG Y tg g) (ht : Blk X scope fun Y => PTs Y ifs tt) (hk : Blk X scope fun Y => PE Y kx tk) (he : Blk X scope fun Y => PE Y vx tv) (hs : ∀ x, foldedSetIterable iter X.env x = pure x := by intro _; rfl) :
    PS X (.Assign [.Name y py] (.DictComp kx vx [⟨tg, iter, ifs, 0⟩] scope pos) spos) (tAsg (tDcN X.w X.K wi g tt tk tv (own.map (·.2))) (gName i)) := by
  refine ⟨fun pins s σ H D I h => ?_⟩
  rw [exec_Assign_Name_used _ _ _ _ hsw]
  refine wpAny_bind (wpAny_standAt (wpAny_bind ?_))
  show wpAny _ X.A (do let _ ← comprehension (.DictComp kx vx [⟨tg, iter, ifs, 0⟩] scope pos) scope X.env (firstIterPos [⟨tg, iter, ifs, 0⟩] pos) newDict false (eval iter X.env) (some (assign (.Name y py) X.env))) _ _ s
  have h : tDcN X.w X.K wi g tt tk tv (own.map (·.2)) σ H (fun x H1 => gName i x σ H1 D.nx) := h
  refine wpAny_bind (thn (dcN_core (Qf := fun _ s' => SP X pins D .next s') hc hv hN I hi ok hg ht hk he hs h fun L C s' m H' I' q hn f => ?_) fun _ s' hq => wpAny_pure (wpAny_pure hq))
  show wpAny _ _ (assign (.Name y py) X.env (.ref L)) _ _ _
  refine wpAny_assign_Name (store_ok2 (v := V.ref L) I' hN hy (.inl hyl) rfl (fun s2 I2 ⟨a, sb, ha⟩ => ?_) (.inr hyl))
  obtain ⟨g0, g1, g2, g3, g4, g5⟩ := f
  have haC : C ≠ a := ha.elim (fun z => z ▸ g1) fun z e => g4 y a z e.symm
  exact ⟨m, hn.sameBut sb haC, fun h3 sb3 => ⟨_, H', I2.turned (t' := s2.toks) (fun b o hb e => (sb3.2 b hb).trans e) g0 g1 g3 g4 g5, q⟩⟩
end
end ML
set_option Elab.async false
set_option linter.all false
set_option maxRecDepth 100000
set_option maxHeartbeats 2000000
/-! Layer M: what a reading does, told by a model that runs on plain data. D: data; Kn: the known heap and the shared objects' places; Sto: owned objects. -/
namespace ML
open PySem L2

inductive D where
  | non | bl (b : Bool) | int (i : Int) | str (s : Str) | ty (n : String) | obj (a : Addr)
  | tup (ds : List D) | lst (ds : List D) | dic (kvs : List (D × D)) | set (ns : List Int)
  | ins (C : Addr) (fs : List (Str × D)) | loc (i : Nat) | keys (ks : List D)
instance : Inhabited D := ⟨.non⟩
/-- what the program's top has made, and the world -/
structure KW where
  f : PySem.W.Frag
  w : World
instance : Coe KW PySem.W.Frag := ⟨KW.f⟩
structure Kn where
  h : Hp
  L : List Addr
  P : Option Addr
def Kn.up (N : Kn) (p : Addr) (o : HO) : Kn := { N with h := upd N.h p o }
structure Le (N N' : Kn) : Prop where
  h : Same N.h N'.h
  L : ∀ (i : Nat) (a : Addr), N.L[i]? = some a → N'.L[i]? = some a
  P : N'.P = N.P
theorem Le.refl (N : Kn) : Le N N := ⟨Same.refl _, fun _ _ h => h, rfl⟩
theorem Le.trans {N N1 N2 : Kn} (a : Le N N1) (b : Le N1 N2) : Le N N2 := ⟨a.h.trans b.h, fun i x h => b.L i x (a.L i x h), b.P.trans a.P⟩
/-- dict keys: ints and texts -/
def kD : Key → D
  | .inl i => .int i
  | .inr s => .str s
def D.key : D → Option Key
  | .int i => some (.inl i)
  | .str s => some (.inr s)
  | _ => none
theorem D.key_eq {d : D} {k : Key} (h : d.key = some k) : d = kD k := by
  cases d <;> simp [D.key] at h <;> subst h <;> rfl
theorem kD_key (k : Key) : (kD k).key = some k := by cases k <;> rfl

/-! data as keys of any depth -/
mutual
def D.nk : D → Option NestedKey
  | .non => some .none
  | .bl b => some (.num (if b = true then 1 else 0))
  | .int i => some (.num i)
  | .str x => some (.text x)
  | .tup ds => (nks ds).map .tup
  | _ => none
def nks : List D → Option (List NestedKey)
  | [] => some []
  | d :: ds => match D.nk d, nks ds with
    | some k, some ks => some (k :: ks)
    | _, _ => none
end
inductive Rep (K : KW) (N : Kn) : V → D → Prop where
  | non : Rep K N .non .non
  | bl (b : Bool) : Rep K N (.bl b) (.bl b)
  | int (i : Int) : Rep K N (.int i) (.int i)
  | str (s : Str) : Rep K N (.str s) (.str s)
  | ty (n : String) : Rep K N (.ty n) (.ty n)
  | obj (a : Addr) : Rep K N (.ref a) (.obj a)
  | tup {a : Addr} {xs : List V} {ds : List D} (h : SqT K N.h a xs) (hl : xs.length = ds.length) (hi : ∀ (i : Nat) (x : V) (d : D), xs[i]? = some x → ds[i]? = some d → Rep K N x d) : Rep K N (.ref a) (.tup ds)
  | lst {a : Addr} {xs : List V} {ds : List D} (h : SqL K N.h a xs) (hl : xs.length = ds.length) (hi : ∀ (i : Nat) (x : V) (d : D), xs[i]? = some x → ds[i]? = some d → Rep K N x d) : Rep K N (.ref a) (.lst ds)
  | dic {a : Addr} {es : List (Key × V)} {kvs : List (D × D)} (h : Rd N.h a (.dK es)) (hk : es.map (fun e => kD e.1) = kvs.map (·.1)) (hi : ∀ (i : Nat) (e : Key × V) (p : D × D), es[i]? = some e → kvs[i]? = some p → Rep K N e.2 p.2) : Rep K N (.ref a) (.dic kvs)
  | set {a : Addr} {S : Int → Bool} {ns : List Int} (h : N.h a = some (SetO K.w a S ns.length)) (hn : ns.Nodup) (hs : ∀ i, S i = true ↔ i ∈ ns) : Rep K N (.ref a) (.set ns)
  | ins {a C dx : Addr} {fs : List (Str × V)} {gs : List (Str × D)} (h : N.h a = some (.ins C dx fs)) (hk : fs.map (·.1) = gs.map (·.1)) (hi : ∀ (i : Nat) (p : Str × V) (q : Str × D), fs[i]? = some p → gs[i]? = some q → Rep K N p.2 q.2) : Rep K N (.ref a) (.ins C gs)
  | loc {a : Addr} {i : Nat} (h : N.L[i]? = some a) : Rep K N (.ref a) (.loc i)
  | keys {a : Addr} {od : Obj} {xs : KXs} {ks : List D} (h : N.h a = some (ExO a od)) (ko : KeyedO K.w a od xs) (hl : xs.length = ks.length)
      (hn : ∀ (i : Nat) (x : NestedKey × Addr × Value) (d : D), xs[i]? = some x → ks[i]? = some d → d.nk = some x.1 ∧ x.1.depth ≤ 8)
      (hi : ∀ (i : Nat) (x : NestedKey × Addr × Value) (d : D), xs[i]? = some x → ks[i]? = some d → Rep K N (.ref x.2.1) d) : Rep K N (.ref a) (.keys ks)

def Reps (K : KW) (N : Kn) (xs : List V) (ds : List D) : Prop := xs.length = ds.length ∧ ∀ (i : Nat) (x : V) (d : D), xs[i]? = some x → ds[i]? = some d → Rep K N x d

section
variable {K : KW} {N N' N2 : Kn} {H H' : Hp}
theorem same_rd {h h' : Hp} {a : Addr} {u : HO} (e : Same h h') (x : Rd h a u) : Rd h' a u := by
  rcases x with x | ⟨o, x⟩
  · exact .inl (e _ _ x)
  · exact .inr ⟨o, e _ _ x⟩
theorem same_t {h h' : Hp} {a : Addr} {xs : List V} (e : Same h h') (x : SqT K h a xs) : SqT K h' a xs := by
  rcases x with x | x
  · exact .inl (same_rd e x)
  · exact .inr x
theorem same_l {h h' : Hp} {a : Addr} {xs : List V} (e : Same h h') (x : SqL K h a xs) : SqL K h' a xs := by
  rcases x with x | x
  · exact .inl (same_rd e x)
  · exact .inr x
theorem Rep.mono' {v : V} {d : D} (eh : Same N.h N'.h) (eL : ∀ (i : Nat) (a : Addr), N.L[i]? = some a → N'.L[i]? = some a) (r : Rep K N v d) : Rep K N' v d := by
  induction r with
  | non => exact .non
  | bl b => exact .bl b
  | int i => exact .int i
  | str s => exact .str s
  | ty n => exact .ty n
  | obj a => exact .obj a
  | tup h hl _ ih => exact .tup (same_t eh h) hl ih
  | lst h hl _ ih => exact .lst (same_l eh h) hl ih
  | dic h hk _ ih => exact .dic (same_rd eh h) hk ih
  | set h hn hs => exact .set (eh _ _ h) hn hs
  | ins h hk _ ih => exact .ins (eh _ _ h) hk ih
  | loc h => exact .loc (eL _ _ h)
  | keys h ko hl hn _ ih => exact .keys (eh _ _ h) ko hl hn ih
theorem Rep.mono {v : V} {d : D} (e : Le N N') (r : Rep K N v d) : Rep K N' v d := r.mono' e.h e.L
theorem Reps.mono {xs : List V} {ds : List D} (e : Le N N') (r : Reps K N xs ds) : Reps K N' xs ds := ⟨r.1, fun i x d h1 h2 => (r.2 i x d h1 h2).mono e⟩
theorem Reps.nil : Reps K N [] [] := ⟨rfl, fun i x d h _ => by simp at h⟩
theorem Reps.cons {x : V} {d : D} {xs : List V} {ds : List D} (r : Rep K N x d) (rs : Reps K N xs ds) : Reps K N (x :: xs) (d :: ds) :=
  ⟨by simp [rs.1], fun i y e h1 h2 => by
    cases i with
    | zero => simp at h1 h2; subst h1 h2; exact r
    | succ j => exact rs.2 j y e (by simpa using h1) (by simpa using h2)⟩
theorem Reps.app {xs ys : List V} {ds es : List D} (r : Reps K N xs ds) (q : Reps K N ys es) : Reps K N (xs ++ ys) (ds ++ es) :=
  ⟨by simp [r.1, q.1], fun i x d h1 h2 => by
    by_cases hi : i < xs.length
    · rw [List.getElem?_append_left hi] at h1
      rw [List.getElem?_append_left (by rw [← r.1]; exact hi)] at h2
      exact r.2 i x d h1 h2
    · rw [List.getElem?_append_right (by omega)] at h1
      rw [List.getElem?_append_right (by rw [← r.1]; omega), ← r.1] at h2
      exact q.2 _ x d h1 h2⟩
theorem Reps.one {x : V} {d : D} (r : Rep K N x d) : Reps K N [x] [d] := Reps.cons r Reps.nil
theorem Reps.get {xs : List V} {ds : List D} (r : Reps K N xs ds) {i : Nat} {d : D} (h : ds[i]? = some d) : ∃ x, xs[i]? = some x ∧ Rep K N x d := by
  have hi : i < xs.length := by rw [r.1]; exact (List.getElem?_eq_some_iff.mp h).1
  exact ⟨xs[i], List.getElem?_eq_getElem hi, r.2 i _ d (List.getElem?_eq_getElem hi) h⟩
theorem Reps.set {xs : List V} {ds : List D} (r : Reps K N xs ds) (i : Nat) {x : V} {d : D} (q : Rep K N x d) : Reps K N (xs.set i x) (ds.set i d) :=
  ⟨by simp [r.1], fun j y e h1 h2 => by
    by_cases hj : i = j
    · subst hj
      by_cases hl : i < xs.length
      · rw [List.getElem?_set_self hl] at h1
        rw [List.getElem?_set_self (by rw [← r.1]; exact hl)] at h2
        cases h1; cases h2; exact q
      · rw [List.getElem?_eq_none (by simpa using Nat.le_of_not_lt hl)] at h1; cases h1
    · rw [List.getElem?_set_ne hj] at h1 h2
      exact r.2 j y e h1 h2⟩
theorem Reps.erase {xs : List V} {ds : List D} (r : Reps K N xs ds) (k : Nat) : Reps K N (xs.eraseIdx k) (ds.eraseIdx k) := by
  refine ⟨by simp [List.length_eraseIdx, r.1], fun j y e h1 h2 => ?_⟩
  rw [List.getElem?_eraseIdx] at h1 h2
  by_cases hj : j < k
  · rw [if_pos hj] at h1 h2; exact r.2 _ _ _ h1 h2
  · rw [if_neg hj] at h1 h2; exact r.2 _ _ _ h1 h2
theorem Reps.take {xs : List V} {ds : List D} (r : Reps K N xs ds) (k : Nat) : Reps K N (xs.take k) (ds.take k) := by
  refine ⟨by simp [r.1], fun j y e h1 h2 => ?_⟩
  rw [List.getElem?_take] at h1 h2
  by_cases hj : j < k
  · rw [if_pos hj] at h1 h2; exact r.2 _ _ _ h1 h2
  · rw [if_neg hj] at h1; cases h1
theorem Reps.drop {xs : List V} {ds : List D} (r : Reps K N xs ds) (k : Nat) : Reps K N (xs.drop k) (ds.drop k) := by
  refine ⟨by simp [r.1], fun j y e h1 h2 => ?_⟩
  rw [List.getElem?_drop] at h1 h2
  exact r.2 _ _ _ h1 h2
theorem Reps.rev {xs : List V} {ds : List D} (r : Reps K N xs ds) : Reps K N xs.reverse ds.reverse := by
  refine ⟨by simp [r.1], fun j y e h1 h2 => ?_⟩
  have hj : j < xs.length := by simpa using (List.getElem?_eq_some_iff.mp h1).1
  rw [List.getElem?_reverse hj] at h1
  rw [List.getElem?_reverse (by rw [← r.1]; exact hj), ← r.1] at h2
  exact r.2 _ _ _ h1 h2
theorem Reps.one_ {xs : List V} {d : D} (r : Reps K N xs [d]) : ∃ x, xs = [x] ∧ Rep K N x d := by
  obtain ⟨h, q⟩ := r
  match xs, h with
  | [x], _ => exact ⟨x, rfl, q 0 x d rfl rfl⟩
theorem Reps.two_ {xs : List V} {d e : D} (r : Reps K N xs [d, e]) : ∃ x y, xs = [x, y] ∧ Rep K N x d ∧ Rep K N y e := by
  obtain ⟨h, q⟩ := r
  match xs, h with
  | [x, y], _ => exact ⟨x, y, rfl, q 0 x d rfl rfl, q 1 y e rfl rfl⟩
theorem Reps.three_ {xs : List V} {d e f : D} (r : Reps K N xs [d, e, f]) : ∃ x y z, xs = [x, y, z] ∧ Rep K N x d ∧ Rep K N y e ∧ Rep K N z f := by
  obtain ⟨h, q⟩ := r
  match xs, h with
  | [x, y, z], _ => exact ⟨x, y, z, rfl, q 0 x d rfl rfl, q 1 y e rfl rfl, q 2 z f rfl rfl⟩
theorem Reps.nil_ {xs : List V} (r : Reps K N xs []) : xs = [] := List.eq_nil_of_length_eq_zero r.1
theorem Reps.cons_ {xs : List V} {d : D} {ds : List D} (r : Reps K N xs (d :: ds)) : ∃ x ys, xs = x :: ys ∧ Rep K N x d ∧ Reps K N ys ds := by
  cases xs with
  | nil => have := r.1; simp at this
  | cons x ys => exact ⟨x, ys, rfl, r.2 0 x d rfl rfl, by have := r.1; simp at this; exact this, fun i x e h1 h2 => r.2 (i + 1) x e (by simpa using h1) (by simpa using h2)⟩
/-- ints, truths out of data -/
def D.int? : D → Option Int
  | .int i => some i
  | _ => none
def D.bl? : D → Option Bool
  | .bl b => some b
  | _ => none
theorem D.int?_eq {d : D} {i : Int} (h : d.int? = some i) : d = .int i := by cases d <;> simp [D.int?] at h; subst h; rfl
theorem D.bl?_eq {d : D} {i : Bool} (h : d.bl? = some i) : d = .bl i := by cases d <;> simp [D.bl?] at h; subst h; rfl
def ints? : List D → Option (List Int)
  | [] => some []
  | d :: ds => match d.int?, ints? ds with
    | some i, some is => some (i :: is)
    | _, _ => none
def bls? : List D → Option (List Bool)
  | [] => some []
  | d :: ds => match d.bl?, bls? ds with
    | some i, some is => some (i :: is)
    | _, _ => none
theorem ints?_eq : ∀ {ds : List D} {ns : List Int}, ints? ds = some ns → ds = ns.map D.int
  | [], ns, h => by simp [ints?] at h; subst h; rfl
  | d :: ds, ns, h => by
    unfold ints? at h
    cases e1 : d.int? with
    | none => rw [e1] at h; cases h
    | some i =>
      cases e2 : ints? ds with
      | none => rw [e1, e2] at h; cases h
      | some is => rw [e1, e2] at h; cases h; rw [D.int?_eq e1, ints?_eq e2]; rfl
theorem ints?_map : ∀ ns : List Int, ints? (ns.map D.int) = some ns
  | [] => rfl
  | n :: ns => by simp only [List.map_cons, ints?, D.int?, ints?_map ns]
theorem bls?_eq : ∀ {ds : List D} {ns : List Bool}, bls? ds = some ns → ds = ns.map D.bl
  | [], ns, h => by simp [bls?] at h; subst h; rfl
  | d :: ds, ns, h => by
    unfold bls? at h
    cases e1 : d.bl? with
    | none => rw [e1] at h; cases h
    | some i =>
      cases e2 : bls? ds with
      | none => rw [e1, e2] at h; cases h
      | some is => rw [e1, e2] at h; cases h; rw [D.bl?_eq e1, bls?_eq e2]; rfl
theorem bls?_map : ∀ ns : List Bool, bls? (ns.map D.bl) = some ns
  | [] => rfl
  | n :: ns => by simp only [List.map_cons, bls?, D.bl?, bls?_map ns]
theorem Reps.map_inv {α : Type} {f : α → D} {g : α → V} (hf : ∀ x v, Rep K N v (f x) → v = g x) {xs : List V} {ns : List α} (r : Reps K N xs (ns.map f)) : xs = ns.map g := by
  apply List.ext_getElem?
  intro i
  by_cases hi : i < xs.length
  · have hn : i < ns.length := by have := r.1; simp at this; omega
    have h2 : (ns.map f)[i]? = some (f ns[i]) := by simp [hn]
    obtain ⟨x, hx, q⟩ := r.get h2
    rw [hx, List.getElem?_map, List.getElem?_eq_getElem hn, Option.map_some, hf _ _ q]
  · have hn : ¬ i < ns.length := by have := r.1; simp at this; omega
    rw [List.getElem?_eq_none (by omega), List.getElem?_eq_none (by simp; omega)]
theorem Reps.ints_inv {xs : List V} {ns : List Int} (r : Reps K N xs (ns.map D.int)) : xs = ns.map V.int := r.map_inv fun x v h => by cases h; rfl
theorem Reps.bls_inv {xs : List V} {ns : List Bool} (r : Reps K N xs (ns.map D.bl)) : xs = ns.map V.bl := r.map_inv fun x v h => by cases h; rfl
theorem Reps.ints {ns : List Int} : Reps K N (ns.map V.int) (ns.map D.int) := by
  refine ⟨by simp, fun i x d h1 h2 => ?_⟩
  rw [List.getElem?_map] at h1 h2
  cases e : ns[i]? with
  | none => rw [e] at h1; cases h1
  | some n => rw [e] at h1 h2; cases h1; cases h2; exact .int n
theorem Rep.tup_ {v : V} {ds : List D} (r : Rep K N v (.tup ds)) : ∃ a xs, v = .ref a ∧ SqT K N.h a xs ∧ Reps K N xs ds := by
  cases r with
  | tup h hl hi => exact ⟨_, _, rfl, h, hl, hi⟩
theorem Rep.lst_ {v : V} {ds : List D} (r : Rep K N v (.lst ds)) : ∃ a xs, v = .ref a ∧ SqL K N.h a xs ∧ Reps K N xs ds := by
  cases r with
  | lst h hl hi => exact ⟨_, _, rfl, h, hl, hi⟩
end

/-! ### owned objects -/
inductive OO where
  | lst (ds : List D)
  | dic (kvs : List (D × D))
  | ins (C : Addr) (x : Bool) (fs : List (Str × D))
  | set (ns : List Int)
  | keys (ks : List D)
def OO.val : OO → D
  | .lst ds => .lst ds
  | .dic kvs => .dic kvs
  | .ins C _ fs => .ins C fs
  | .set ns => .set ns
  | .keys ks => .keys ks
/-- an __init__'s own object is pinned: its place is known -/
def OO.unp : OO → Bool
  | .ins _ b _ => !b
  | _ => true
abbrev Sto := Addr → Option OO
def dset (O : Sto) (a : Addr) (o : OO) : Sto := fun b => if b = a then some o else O b
def ddrop (O : Sto) (a : Addr) : Sto := fun b => if b = a then none else O b
theorem dset_same {O : Sto} {a : Addr} {o : OO} : dset O a o a = some o := if_pos rfl
theorem dset_ne {O : Sto} {a b : Addr} {o : OO} (h : b ≠ a) : dset O a o b = O b := if_neg h
theorem ddrop_same {O : Sto} {a : Addr} : ddrop O a a = none := if_pos rfl
theorem ddrop_ne {O : Sto} {a b : Addr} (h : b ≠ a) : ddrop O a b = O b := if_neg h
def KvOk (K : KW) (N : Kn) (es : List (Key × V)) (kvs : List (D × D)) : Prop := es.map (fun e => kD e.1) = kvs.map (·.1) ∧ ∀ (i : Nat) (e : Key × V) (p : D × D), es[i]? = some e → kvs[i]? = some p → Rep K N e.2 p.2
def FsOk (K : KW) (N : Kn) (fs : List (Str × V)) (gs : List (Str × D)) : Prop := fs.map (·.1) = gs.map (·.1) ∧ ∀ (i : Nat) (p : Str × V) (q : Str × D), fs[i]? = some p → gs[i]? = some q → Rep K N p.2 q.2
def OOk (K : KW) (N : Kn) (H : Hp) (a : Addr) : OO → Prop
  | .lst ds => ∃ xs, H a = some (.lst xs) ∧ Reps K N xs ds
  | .dic kvs => ∃ es : List (Key × V), H a = some (.dK es) ∧ KvOk K N es kvs
  | .ins C _ gs => ∃ dx fs, H a = some (.ins C dx fs) ∧ FsOk K N fs gs
  | .set ns => ∃ S, H a = some (SetO K.w a S ns.length) ∧ ns.Nodup ∧ ∀ i, S i = true ↔ i ∈ ns
  | .keys ks => ∃ od xs, H a = some (ExO a od) ∧ KeyedO K.w a od xs ∧ xs.length = ks.length ∧ (∀ (i : Nat) (x : NestedKey × Addr × Value) (d : D), xs[i]? = some x → ks[i]? = some d → d.nk = some x.1 ∧ x.1.depth ≤ 8) ∧
      ∀ (i : Nat) (x : NestedKey × Addr × Value) (d : D), xs[i]? = some x → ks[i]? = some d → Rep K N (.ref x.2.1) d
def Sub (O O' : Sto) : Prop := ∀ a o, O a = some o → O' a = some o
structure Good (K : KW) (N : Kn) (O : Sto) (H : Hp) : Prop where
  ex : Same N.h H
  own : ∀ a o, O a = some o → N.h a = none ∧ OOk K N H a o

section
variable {K : KW} {N N' N1 N2 : Kn} {H H' H1 H2 : Hp} {O O' O1 O2 : Sto}
theorem KvOk.mono {es : List (Key × V)} {kvs : List (D × D)} (e : Le N N') (h : KvOk K N es kvs) : KvOk K N' es kvs := ⟨h.1, fun i x p h1 h2 => (h.2 i x p h1 h2).mono e⟩
theorem FsOk.mono {fs : List (Str × V)} {gs : List (Str × D)} (e : Le N N') (h : FsOk K N fs gs) : FsOk K N' fs gs := ⟨h.1, fun i x p h1 h2 => (h.2 i x p h1 h2).mono e⟩
theorem OOk.ex_ {a : Addr} {o : OO} (h : OOk K N H a o) : ∃ u, H a = some u := by
  cases o with
  | lst ds => obtain ⟨_, e, _⟩ := h; exact ⟨_, e⟩
  | dic kvs => obtain ⟨_, e, _⟩ := h; exact ⟨_, e⟩
  | ins C y gs => obtain ⟨_, _, e, _⟩ := h; exact ⟨_, e⟩
  | set ns => obtain ⟨_, e, _⟩ := h; exact ⟨_, e⟩
  | keys ks => obtain ⟨_, _, e, _⟩ := h; exact ⟨_, e⟩
theorem OOk.mono {a : Addr} {o : OO} (e : Le N N') (hh : ∀ u, H a = some u → H' a = some u) (h : OOk K N H a o) : OOk K N' H' a o := by
  cases o with
  | lst ds => obtain ⟨xs, q, r⟩ := h; exact ⟨xs, hh _ q, r.mono e⟩
  | dic kvs => obtain ⟨es, q, r⟩ := h; exact ⟨es, hh _ q, r.mono e⟩
  | ins C y gs => obtain ⟨dx, fs, q, r⟩ := h; exact ⟨dx, fs, hh _ q, r.mono e⟩
  | set ns => obtain ⟨S, q, r⟩ := h; exact ⟨S, hh _ q, r⟩
  | keys ks => obtain ⟨od, xs, q, ko, hl, hn, r⟩ := h; exact ⟨od, xs, hh _ q, ko, hl, hn, fun i x d h1 h2 => (r i x d h1 h2).mono e⟩
theorem Good.free (g : Good K N O H) {p : Addr} (h : H p = none) : N.h p = none ∧ O p = none := by
  constructor
  · cases e : N.h p with
    | none => rfl
    | some o => rw [g.ex p o e] at h; cases h
  · cases e : O p with
    | none => rfl
    | some o =>
      obtain ⟨u, q⟩ := OOk.ex_ (g.own p o e).2
      rw [q] at h; cases h
theorem Good.sub (g : Good K N O H) (s : Sub O' O) : Good K N O' H := ⟨g.ex, fun a o h => g.own a o (s a o h)⟩
theorem le_up {p : Addr} {o : HO} (hn : N.h p = none) : Le N (N.up p o) := ⟨fun b u e => by show upd N.h p o b = _; rw [upd_ne (ne_of_none e hn)]; exact e, fun _ _ h => h, rfl⟩
/-- a new object, known -/
theorem Good.newN (g : Good K N O H) {p : Addr} {o : HO} (h : H p = none) : Good K (N.up p o) O (upd H p o) := by
  obtain ⟨hn, ho⟩ := g.free h
  refine ⟨fun b u e => ?_, fun b u e => ?_⟩
  · have e' : upd N.h p o b = some u := e
    by_cases hb : b = p
    · subst hb; rw [upd_same] at e' ⊢; exact e'
    · rw [upd_ne hb] at e' ⊢; exact g.ex b u e'
  · have hb : b ≠ p := fun z => by subst z; rw [ho] at e; cases e
    obtain ⟨q1, q2⟩ := g.own b u e
    exact ⟨by show upd N.h p o b = none; rw [upd_ne hb]; exact q1, OOk.mono (le_up hn) (fun u hu => by rw [upd_ne hb]; exact hu) q2⟩
/-- an object laid that nobody tells of -/
theorem Good.skip (g : Good K N O H) {p : Addr} {o : HO} (h : H p = none) : Good K N O (upd H p o) := by
  obtain ⟨hn, ho⟩ := g.free h
  refine ⟨fun b u e => by rw [upd_ne (ne_of_none e hn)]; exact g.ex b u e, fun b u e => ?_⟩
  have hb : b ≠ p := fun z => by subst z; rw [ho] at e; cases e
  obtain ⟨q1, q2⟩ := g.own b u e
  exact ⟨q1, OOk.mono (Le.refl N) (fun w hw => by rw [upd_ne hb]; exact hw) q2⟩
/-- an object taken in -/
theorem Good.take (g : Good K N O H) {p : Addr} {oo : OO} (hn : N.h p = none) (ok : OOk K N H p oo) : Good K N (dset O p oo) H := ⟨g.ex, fun b u e => by
  by_cases hb : b = p
  · subst hb; rw [dset_same] at e; cases e; exact ⟨hn, ok⟩
  · rw [dset_ne hb] at e; exact g.own b u e⟩
/-- an owned object changed -/
theorem Good.mut (g : Good K N O H) {p : Addr} {o : HO} {o1 oo : OO} (h : O p = some o1) (ok : OOk K N (upd H p o) p oo) : Good K N (dset O p oo) (upd H p o) := by
  obtain ⟨hn, h1⟩ := g.own p o1 h
  refine ⟨fun b u e => ?_, fun b u e => ?_⟩
  · rw [upd_ne (ne_of_none e hn)]; exact g.ex b u e
  · by_cases hb : b = p
    · subst hb
      rw [dset_same] at e
      cases e
      exact ⟨hn, ok⟩
    · rw [dset_ne hb] at e
      obtain ⟨q1, q2⟩ := g.own b u e
      exact ⟨q1, OOk.mono (Le.refl N) (fun u hu => by rw [upd_ne hb]; exact hu) q2⟩
/-- an object, nobody's but ours, becomes known -/
theorem frz_ok (g : Good K N O H) {p : Addr} {oo : OO} (ho : O p = none) (hn : N.h p = none) (ok : OOk K N H p oo) : ∃ N', Le N N' ∧ N'.L = N.L ∧ Good K N' O H ∧ Rep K N' (.ref p) oo.val := by
  have main : ∀ u, H p = some u → Le N (N.up p u) ∧ Good K (N.up p u) O H := fun u hu => ⟨le_up hn, fun b w e => by
      have e' : upd N.h p u b = some w := e
      by_cases hb : b = p
      · subst hb; rw [upd_same] at e'; cases e'; exact hu
      · rw [upd_ne hb] at e'; exact g.ex b w e', fun b w e => by
      have hb : b ≠ p := fun z => by subst z; rw [ho] at e; cases e
      obtain ⟨q1, q2⟩ := g.own b w e
      exact ⟨by show upd N.h p u b = none; rw [upd_ne hb]; exact q1, OOk.mono (le_up hn) (fun u hu => hu) q2⟩⟩
  have at_ : ∀ u, (N.up p u).h p = some u := fun u => upd_same
  cases oo with
  | lst ds =>
    obtain ⟨xs, hx, r⟩ := ok
    obtain ⟨l, k⟩ := main _ hx
    exact ⟨_, l, rfl, k, .lst (SqL.of (at_ _)) r.1 fun i x d h1 h2 => (r.2 i x d h1 h2).mono l⟩
  | dic kvs =>
    obtain ⟨es, hx, hk, r⟩ := ok
    obtain ⟨l, k⟩ := main _ hx
    exact ⟨_, l, rfl, k, .dic (Rd.of (at_ _)) hk fun i x d h1 h2 => (r i x d h1 h2).mono l⟩
  | ins C y gs =>
    obtain ⟨dx, fs, hx, hk, r⟩ := ok
    obtain ⟨l, k⟩ := main _ hx
    exact ⟨_, l, rfl, k, .ins (at_ _) hk fun i x d h1 h2 => (r i x d h1 h2).mono l⟩
  | set ns =>
    obtain ⟨S, hx, hn, hs⟩ := ok
    obtain ⟨l, k⟩ := main _ hx
    exact ⟨_, l, rfl, k, .set (at_ _) hn hs⟩
  | keys ks =>
    obtain ⟨od, xs, hx, ko, hl, hn, r⟩ := ok
    obtain ⟨l, k⟩ := main _ hx
    exact ⟨_, l, rfl, k, .keys (at_ _) ko hl hn fun i x d h1 h2 => (r i x d h1 h2).mono l⟩
end

/-! ### a frame: names' slots, shared objects, the rest -/
inductive Sl where
  | no | val (d : D) | own (o : OO)
abbrev Env := List Sl
structure Stt where
  env : Env
  ws : List OO
structure SR (K : KW) (R : Sto) (σ : L2.St) (H : Hp) (N : Kn) (O : Sto) (s : Stt) : Prop where
  good : Good K N O H
  len : σ.length = s.env.length
  val : ∀ (i : Nat) (d : D), s.env[i]? = some (.val d) → ∃ v, σ[i]? = some (some v) ∧ Rep K N v d
  loc : ∀ (i : Nat) (o : OO), s.env[i]? = some (.own o) → ∃ a, σ[i]? = some (some (.ref a)) ∧ O a = some o ∧ R a = none ∧ a ∉ N.L
  inj : ∀ (i j : Nat) (o o' : OO) (a : Addr), s.env[i]? = some (.own o) → s.env[j]? = some (.own o') → σ[i]? = some (some (.ref a)) → σ[j]? = some (some (.ref a)) → i = j
  out : N.L.length = s.ws.length
  outO : ∀ (i : Nat) (a : Addr) (o : OO), N.L[i]? = some a → s.ws[i]? = some o → O a = some o ∧ R a = none
  nd : N.L.Nodup
  rest : Sub R O
  pin : ∀ (i : Nat) (C : Addr) (gs : List (Str × D)) (a : Addr), s.env[i]? = some (.own (.ins C true gs)) → σ[i]? = some (some (.ref a)) → N.P = some a
section
variable {K : KW} {R : Sto} {σ : L2.St} {N N' N1 N2 : Kn} {H H' H1 H2 : Hp} {O O' O1 O2 : Sto} {s : Stt}
/-- more known, the owned the same -/
theorem SR.more (x : SR K R σ H N O s) (l : Le N N') (hL : N'.L = N.L) (g : Good K N' O H') : SR K R σ H' N' O s :=
  ⟨g, x.len, fun i d h => by
    obtain ⟨v, q, r⟩ := x.val i d h
    exact ⟨v, q, r.mono l⟩, fun i o h => by rw [hL]; exact x.loc i o h, x.inj, by rw [hL]; exact x.out, by rw [hL]; exact x.outO, by rw [hL]; exact x.nd, x.rest, fun i C gs a h1 h2 => l.P.trans (x.pin i C gs a h1 h2)⟩
theorem SR.new (x : SR K R σ H N O s) {p : Addr} {o : HO} (h : H p = none) : SR K R σ (upd H p o) (N.up p o) O s := x.more (le_up (x.good.free h).1) rfl (x.good.newN h)
/-- an owned slot frozen -/
theorem SR.frz (x : SR K R σ H N O s) {i : Nat} {o : OO} (h : s.env[i]? = some (.own o)) : ∃ N' O' a, Le N N' ∧ σ[i]? = some (some (.ref a)) ∧ Rep K N' (.ref a) o.val ∧ SR K R σ H N' O' { s with env := s.env.set i (.val o.val) } := by
  obtain ⟨a, ha, hO, hR, hL⟩ := x.loc i o h
  have g0 : Good K N (ddrop O a) H := x.good.sub fun b u e => by
    by_cases hb : b = a
    · subst hb; rw [ddrop_same] at e; cases e
    · rw [ddrop_ne hb] at e; exact e
  obtain ⟨hn, ok⟩ := x.good.own a o hO
  obtain ⟨N', l, hL', g, r⟩ := frz_ok g0 ddrop_same hn ok
  have hlt : i < s.env.length := (List.getElem?_eq_some_iff.mp h).1
  refine ⟨N', ddrop O a, a, l, ha, r, ⟨g, by simpa using x.len, fun j d hj => ?_, fun j o' hj => ?_, fun j k o1 o2 b hj hk h1 h2 => ?_, by rw [hL']; exact x.out, fun j b u h1 h2 => ?_, by rw [hL']; exact x.nd, fun b u e => ?_, fun j C gs b h1 h2 => ?_⟩⟩
  · by_cases hij : i = j
    · subst hij
      rw [List.getElem?_set_self hlt] at hj
      cases hj
      exact ⟨_, ha, r⟩
    · rw [List.getElem?_set_ne hij] at hj
      obtain ⟨v, q, r'⟩ := x.val j d hj
      exact ⟨v, q, r'.mono l⟩
  · by_cases hij : i = j
    · subst hij; rw [List.getElem?_set_self hlt] at hj; cases hj
    · rw [List.getElem?_set_ne hij] at hj
      obtain ⟨b, q1, q2, q3, q4⟩ := x.loc j o' hj
      have hb : b ≠ a := fun z => by subst z; exact hij (x.inj i j _ _ _ h hj ha q1)
      exact ⟨b, q1, by rw [ddrop_ne hb]; exact q2, q3, by rw [hL']; exact q4⟩
  · by_cases hij : i = j
    · subst hij; rw [List.getElem?_set_self hlt] at hj; cases hj
    · by_cases hik : i = k
      · subst hik; rw [List.getElem?_set_self hlt] at hk; cases hk
      · rw [List.getElem?_set_ne hij] at hj
        rw [List.getElem?_set_ne hik] at hk
        exact x.inj j k _ _ _ hj hk h1 h2
  · rw [hL'] at h1
    obtain ⟨q1, q2⟩ := x.outO j b u h1 h2
    have hb : b ≠ a := fun z => by subst z; exact hL (List.mem_of_getElem? h1)
    exact ⟨by rw [ddrop_ne hb]; exact q1, q2⟩
  · have hb : b ≠ a := fun z => by subst z; rw [hR] at e; cases e
    rw [ddrop_ne hb]; exact x.rest b u e
  · by_cases hij : i = j
    · subst hij; rw [List.getElem?_set_self hlt] at h1; cases h1
    · rw [List.getElem?_set_ne hij] at h1
      exact l.P.trans (x.pin j C gs b h1 h2)
/-- a value into a slot -/
theorem SR.set (x : SR K R σ H N O s) {v : V} {d : D} (r : Rep K N v d) (i : Nat) : SR K R (σ.set i (some v)) H N O { s with env := s.env.set i (.val d) } := by
  refine ⟨x.good, by simpa using x.len, fun j e h => ?_, fun j o h => ?_, fun j k o1 o2 b hj hk h1 h2 => ?_, x.out, x.outO, x.nd, x.rest, fun j C gs b h1 h2 => ?_⟩
  · by_cases hj : i = j
    · subst hj
      have hl : i < s.env.length := by have := (List.getElem?_eq_some_iff.mp h).1; simpa using this
      rw [List.getElem?_set_self hl] at h
      cases h
      exact ⟨v, List.getElem?_set_self (by rw [x.len]; exact hl), r⟩
    · rw [List.getElem?_set_ne hj] at h ⊢
      exact x.val j e h
  · by_cases hj : i = j
    · subst hj
      have hl : i < s.env.length := by have := (List.getElem?_eq_some_iff.mp h).1; simpa using this
      rw [List.getElem?_set_self hl] at h; cases h
    · rw [List.getElem?_set_ne hj] at h ⊢
      exact x.loc j o h
  · by_cases hij : i = j
    · subst hij
      have hl : i < s.env.length := by have := (List.getElem?_eq_some_iff.mp hj).1; simpa using this
      rw [List.getElem?_set_self hl] at hj; cases hj
    · by_cases hik : i = k
      · subst hik
        have hl : i < s.env.length := by have := (List.getElem?_eq_some_iff.mp hk).1; simpa using this
        rw [List.getElem?_set_self hl] at hk; cases hk
      · rw [List.getElem?_set_ne hij] at hj h1
        rw [List.getElem?_set_ne hik] at hk h2
        exact x.inj j k _ _ _ hj hk h1 h2
  · by_cases hj : i = j
    · subst hj
      have hl : i < s.env.length := by have := (List.getElem?_eq_some_iff.mp h1).1; simpa using this
      rw [List.getElem?_set_self hl] at h1; cases h1
    · rw [List.getElem?_set_ne hj] at h1 h2
      exact x.pin j C gs b h1 h2
/-- a slot emptied -/
theorem SR.clr (x : SR K R σ H N O s) (i : Nat) : SR K R (σ.set i none) H N O { s with env := s.env.set i .no } := by
  refine ⟨x.good, by simpa using x.len, fun j e h => ?_, fun j o h => ?_, fun j k o1 o2 b hj hk h1 h2 => ?_, x.out, x.outO, x.nd, x.rest, fun j C gs b h1 h2 => ?_⟩
  · by_cases hj : i = j
    · subst hj
      have hl : i < s.env.length := by have := (List.getElem?_eq_some_iff.mp h).1; simpa using this
      rw [List.getElem?_set_self hl] at h; cases h
    · rw [List.getElem?_set_ne hj] at h ⊢
      exact x.val j e h
  · by_cases hj : i = j
    · subst hj
      have hl : i < s.env.length := by have := (List.getElem?_eq_some_iff.mp h).1; simpa using this
      rw [List.getElem?_set_self hl] at h; cases h
    · rw [List.getElem?_set_ne hj] at h ⊢
      exact x.loc j o h
  · by_cases hij : i = j
    · subst hij
      have hl : i < s.env.length := by have := (List.getElem?_eq_some_iff.mp hj).1; simpa using this
      rw [List.getElem?_set_self hl] at hj; cases hj
    · by_cases hik : i = k
      · subst hik
        have hl : i < s.env.length := by have := (List.getElem?_eq_some_iff.mp hk).1; simpa using this
        rw [List.getElem?_set_self hl] at hk; cases hk
      · rw [List.getElem?_set_ne hij] at hj h1
        rw [List.getElem?_set_ne hik] at hk h2
        exact x.inj j k _ _ _ hj hk h1 h2
  · by_cases hj : i = j
    · subst hj
      have hl : i < s.env.length := by have := (List.getElem?_eq_some_iff.mp h1).1; simpa using this
      rw [List.getElem?_set_self hl] at h1; cases h1
    · rw [List.getElem?_set_ne hj] at h1 h2
      exact x.pin j C gs b h1 h2
/-- nobody's object: known to none, owned by none -/
def Lone (K : KW) (N : Kn) (O : Sto) (H : Hp) (p : Addr) (oo : OO) : Prop := N.h p = none ∧ O p = none ∧ p ∉ N.L ∧ OOk K N H p oo
/-- .. goes into a slot -/
theorem SR.own_ (x : SR K R σ H N O s) {p : Addr} {oo : OO} (l : Lone K N O H p oo) (hp : oo.unp = true ∨ N.P = some p) (i : Nat) : SR K R (σ.set i (some (.ref p))) H N (dset O p oo) { s with env := s.env.set i (.own oo) } := by
  obtain ⟨hn, ho, hL, ok⟩ := l
  have hR : R p = none := by
    cases e : R p with
    | none => rfl
    | some u => have := x.rest p u e; rw [ho] at this; cases this
  refine ⟨x.good.take hn ok, by simpa using x.len, fun j e h => ?_, fun j o h => ?_, fun j k o1 o2 b hj hk h1 h2 => ?_, x.out, fun j b u h1 h2 => ?_, x.nd, fun b u e => ?_, fun j C gs b h1 h2 => ?_⟩
  · by_cases hj : i = j
    · subst hj
      have hl : i < s.env.length := by have := (List.getElem?_eq_some_iff.mp h).1; simpa using this
      rw [List.getElem?_set_self hl] at h; cases h
    · rw [List.getElem?_set_ne hj] at h ⊢
      exact x.val j e h
  · by_cases hj : i = j
    · subst hj
      have hl : i < s.env.length := by have := (List.getElem?_eq_some_iff.mp h).1; simpa using this
      rw [List.getElem?_set_self hl] at h
      cases h
      exact ⟨p, List.getElem?_set_self (by rw [x.len]; exact hl), dset_same, hR, hL⟩
    · rw [List.getElem?_set_ne hj] at h ⊢
      obtain ⟨a, q1, q2, q3, q4⟩ := x.loc j o h
      exact ⟨a, q1, by rw [dset_ne (fun z => by subst z; rw [ho] at q2; cases q2)]; exact q2, q3, q4⟩
  · by_cases hij : i = j
    · by_cases hik : i = k
      · exact hij ▸ hik
      · subst hij
        have hl : i < s.env.length := by have := (List.getElem?_eq_some_iff.mp hj).1; simpa using this
        rw [List.getElem?_set_self (by rw [x.len]; exact hl)] at h1
        cases h1
        rw [List.getElem?_set_ne hik] at hk h2
        obtain ⟨a, q1, q2, _⟩ := x.loc k _ hk
        rw [h2] at q1; cases q1
        rw [ho] at q2; cases q2
    · by_cases hik : i = k
      · subst hik
        have hl : i < s.env.length := by have := (List.getElem?_eq_some_iff.mp hk).1; simpa using this
        rw [List.getElem?_set_self (by rw [x.len]; exact hl)] at h2
        cases h2
        rw [List.getElem?_set_ne hij] at hj h1
        obtain ⟨a, q1, q2, _⟩ := x.loc j _ hj
        rw [h1] at q1; cases q1
        rw [ho] at q2; cases q2
      · rw [List.getElem?_set_ne hij] at hj h1
        rw [List.getElem?_set_ne hik] at hk h2
        exact x.inj j k _ _ _ hj hk h1 h2
  · have hb : b ≠ p := fun z => by subst z; exact hL (List.mem_of_getElem? h1)
    rw [dset_ne hb]; exact x.outO j b u h1 h2
  · have hb : b ≠ p := fun z => by subst z; rw [hR] at e; cases e
    rw [dset_ne hb]; exact x.rest b u e
  · by_cases hj : i = j
    · subst hj
      have hl : i < s.env.length := by have := (List.getElem?_eq_some_iff.mp h1).1; simpa using this
      rw [List.getElem?_set_self hl] at h1
      cases h1
      rw [List.getElem?_set_self (by rw [x.len]; exact hl)] at h2
      cases h2
      rcases hp with hp | hp
      · cases hp
      · exact hp
    · rw [List.getElem?_set_ne hj] at h1 h2
      exact x.pin j C gs b h1 h2
/-- .. becomes known -/
theorem SR.lone_frz (x : SR K R σ H N O s) {p : Addr} {oo : OO} (l : Lone K N O H p oo) : ∃ N', Le N N' ∧ SR K R σ H N' O s ∧ Rep K N' (.ref p) oo.val := by
  obtain ⟨hn, ho, hL, ok⟩ := l
  obtain ⟨N', le, hL', g, r⟩ := frz_ok x.good ho hn ok
  exact ⟨N', le, x.more le hL' g, r⟩
/-- .. becomes shared -/
theorem SR.lone_out (x : SR K R σ H N O s) {p : Addr} {oo : OO} (l : Lone K N O H p oo) : ∃ N', Le N N' ∧ SR K R σ H N' (dset O p oo) { s with ws := s.ws ++ [oo] } ∧ Rep K N' (.ref p) (.loc s.ws.length) := by
  obtain ⟨hn, ho, hL, ok⟩ := l
  have hR : R p = none := by
    cases e : R p with
    | none => rfl
    | some u => have := x.rest p u e; rw [ho] at this; cases this
  have le : Le N { N with L := N.L ++ [p] } := ⟨Same.refl _, fun i a h => by
    show (N.L ++ [p])[i]? = some a
    rw [List.getElem?_append_left (List.getElem?_eq_some_iff.mp h).1]; exact h, rfl⟩
  have g0 := x.good.take hn ok
  have g1 : Good K { N with L := N.L ++ [p] } (dset O p oo) H := ⟨g0.ex, fun b u e => ⟨(g0.own b u e).1, OOk.mono le (fun _ h => h) (g0.own b u e).2⟩⟩
  have own_ne : ∀ (j : Nat) (o : OO) (a : Addr), s.env[j]? = some (.own o) → σ[j]? = some (some (.ref a)) → a ≠ p := fun j o a h h2 z => by
    obtain ⟨b, q1, q2, _⟩ := x.loc j o h
    rw [h2] at q1; cases q1; subst z; rw [ho] at q2; cases q2
  refine ⟨_, le, ⟨g1, x.len, fun i d h => ?_, fun i o h => ?_, x.inj, by simp [x.out], fun j b u h1 h2 => ?_, ?_, fun b u e => ?_, x.pin⟩, .loc ?_⟩
  · obtain ⟨v, q, r⟩ := x.val i d h
    exact ⟨v, q, r.mono le⟩
  · obtain ⟨a, q1, q2, q3, q4⟩ := x.loc i o h
    have hb := own_ne i o a h q1
    exact ⟨a, q1, by rw [dset_ne hb]; exact q2, q3, by simp [q4, hb]⟩
  · have h1' : (N.L ++ [p])[j]? = some b := h1
    have h2' : (s.ws ++ [oo])[j]? = some u := h2
    by_cases hj : j < N.L.length
    · rw [List.getElem?_append_left hj] at h1'
      rw [List.getElem?_append_left (by rw [← x.out]; exact hj)] at h2'
      have hb : b ≠ p := fun z => by subst z; exact hL (List.mem_of_getElem? h1')
      rw [dset_ne hb]; exact x.outO j b u h1' h2'
    · rw [List.getElem?_append_right (by omega)] at h1'
      rw [List.getElem?_append_right (by rw [← x.out]; omega), ← x.out] at h2'
      cases e : j - N.L.length with
      | zero => rw [e] at h1' h2'; cases h1'; cases h2'; exact ⟨dset_same, hR⟩
      | succ m => rw [e] at h1'; cases h1'
  · show (N.L ++ [p]).Nodup
    rw [List.nodup_append]
    refine ⟨x.nd, by simp, fun a ha b hb => ?_⟩
    have : b = p := by simpa using hb
    subst this
    exact fun z => hL (z ▸ ha)
  · have hb : b ≠ p := fun z => by subst z; rw [hR] at e; cases e
    rw [dset_ne hb]; exact x.rest b u e
  · show (N.L ++ [p])[s.ws.length]? = some p
    rw [← x.out]; simp
/-- the owned object in slot i changed -/
theorem SR.mut (x : SR K R σ H N O s) {i : Nat} {a : Addr} {o : HO} {o1 oo : OO} (h : s.env[i]? = some (.own o1)) (ha : σ[i]? = some (some (.ref a))) (ok : OOk K N (upd H a o) a oo) (hp : oo.unp = true ∨ ∃ C gs, o1 = .ins C true gs := by exact Or.inl rfl) :
    SR K R σ (upd H a o) N (dset O a oo) { s with env := s.env.set i (.own oo) } := by
  obtain ⟨b, q1, q2, q3, q4⟩ := x.loc i o1 h
  rw [ha] at q1; cases q1
  have hlt : i < s.env.length := (List.getElem?_eq_some_iff.mp h).1
  refine ⟨x.good.mut q2 ok, by simpa using x.len, fun j d hj => ?_, fun j o' hj => ?_, fun j k o1' o2' b hj hk h1 h2 => ?_, x.out, fun j b u h1 h2 => ?_, x.nd, fun b u e => ?_, fun j C gs b h1 h2 => ?_⟩
  · by_cases hij : i = j
    · subst hij; rw [List.getElem?_set_self hlt] at hj; cases hj
    · rw [List.getElem?_set_ne hij] at hj
      exact x.val j d hj
  · by_cases hij : i = j
    · subst hij; rw [List.getElem?_set_self hlt] at hj; cases hj
      exact ⟨a, ha, dset_same, q3, q4⟩
    · rw [List.getElem?_set_ne hij] at hj
      obtain ⟨b, p1, p2, p3, p4⟩ := x.loc j o' hj
      have hb : b ≠ a := fun z => by subst z; exact hij (x.inj i j _ _ _ h hj ha p1)
      exact ⟨b, p1, by rw [dset_ne hb]; exact p2, p3, p4⟩
  · have own_ : ∀ (m : Nat) (o' : OO), (s.env.set i (.own oo))[m]? = some (.own o') → ∃ o'' : OO, s.env[m]? = some (.own o'') := fun m o' hm => by
      by_cases him : i = m
      · subst him; exact ⟨_, h⟩
      · rw [List.getElem?_set_ne him] at hm; exact ⟨_, hm⟩
    obtain ⟨_, hj'⟩ := own_ j _ hj
    obtain ⟨_, hk'⟩ := own_ k _ hk
    exact x.inj j k _ _ _ hj' hk' h1 h2
  · have hb : b ≠ a := fun z => by subst z; exact q4 (List.mem_of_getElem? h1)
    rw [dset_ne hb]; exact x.outO j b u h1 h2
  · have hb : b ≠ a := fun z => by subst z; rw [q3] at e; cases e
    rw [dset_ne hb]; exact x.rest b u e
  · by_cases hij : i = j
    · subst hij
      rw [List.getElem?_set_self hlt] at h1
      cases h1
      rcases hp with hp | ⟨C', gs', hp⟩
      · cases hp
      · subst hp
        exact x.pin i C' gs' b h h2
    · rw [List.getElem?_set_ne hij] at h1
      exact x.pin j C gs b h1 h2
/-- a shared object changed -/
theorem SR.mutO (x : SR K R σ H N O s) {i : Nat} {a : Addr} {o : HO} {o1 oo : OO} (h : s.ws[i]? = some o1) (ha : N.L[i]? = some a) (ok : OOk K N (upd H a o) a oo) :
    SR K R σ (upd H a o) N (dset O a oo) { s with ws := s.ws.set i oo } := by
  obtain ⟨q2, q3⟩ := x.outO i a o1 ha h
  have hlt : i < s.ws.length := (List.getElem?_eq_some_iff.mp h).1
  have hm : a ∈ N.L := List.mem_of_getElem? ha
  refine ⟨x.good.mut q2 ok, x.len, x.val, fun j o' hj => ?_, x.inj, by simpa using x.out, fun j b u h1 h2 => ?_, x.nd, fun b u e => ?_, x.pin⟩
  · obtain ⟨b, p1, p2, p3, p4⟩ := x.loc j o' hj
    have hb : b ≠ a := fun z => p4 (z ▸ hm)
    exact ⟨b, p1, by rw [dset_ne hb]; exact p2, p3, p4⟩
  · have h2' : (s.ws.set i oo)[j]? = some u := h2
    by_cases hij : i = j
    · subst hij
      rw [List.getElem?_set_self hlt] at h2'
      rw [ha] at h1; cases h1; cases h2'
      exact ⟨dset_same, q3⟩
    · rw [List.getElem?_set_ne hij] at h2'
      have hb : b ≠ a := fun z => by
        subst z
        obtain ⟨l1, e1⟩ := List.getElem?_eq_some_iff.mp ha
        obtain ⟨l2, e2⟩ := List.getElem?_eq_some_iff.mp h1
        exact hij ((List.getElem_inj x.nd).mp (e1.trans e2.symm))
      rw [dset_ne hb]; exact x.outO j b u h1 h2'
  · have hb : b ≠ a := fun z => by subst z; rw [q3] at e; cases e
    rw [dset_ne hb]; exact x.rest b u e
/-- a shared object read -/
theorem SR.getO (x : SR K R σ H N O s) {i : Nat} {a : Addr} {o1 : OO} (h : s.ws[i]? = some o1) (ha : N.L[i]? = some a) : OOk K N H a o1 := (x.good.own a o1 (x.outO i a o1 ha h).1).2
end
end ML
set_option Elab.async false
set_option linter.all false
set_option maxRecDepth 100000
set_option maxHeartbeats 2000000
/-! Layer M: models of expressions, and that the readings follow them. -/
namespace ML
open PySem L2

/-! ### models -/
abbrev M (α : Type) := Stt → Option (α × Stt)
def retM {α : Type} (a : α) : M α := fun s => some (a, s)
def noM {α : Type} : M α := fun _ => none
def bindM {α β : Type} (m : M α) (f : α → M β) : M β := fun s => match m s with
  | some (a, s1) => f a s1
  | none => none
theorem bindM_some {α β : Type} {m : M α} {f : α → M β} {s : Stt} {r : β × Stt} (h : bindM m f s = some r) : ∃ a s1, m s = some (a, s1) ∧ f a s1 = some r := by
  unfold bindM at h
  cases e : m s with
  | none => rw [e] at h; cases h
  | some p => obtain ⟨a, s1⟩ := p; rw [e] at h; exact ⟨a, s1, rfl, h⟩
theorem bindM_eq {α β : Type} {m : M α} {f : α → M β} {s s1 : Stt} {a : α} (h : m s = some (a, s1)) : bindM m f s = f a s1 := by
  unfold bindM; rw [h]
def liftM {α : Type} (o : Option α) : M α := fun s => o.map fun a => (a, s)
theorem liftM_some {α : Type} {o : Option α} {s : Stt} {r : α × Stt} (h : liftM o s = some r) : o = some r.1 ∧ r.2 = s := by
  unfold liftM at h
  cases o with
  | none => cases h
  | some a => simp at h; subst h; exact ⟨rfl, rfl⟩
def askM {α : Type} (f : List OO → Option α) : M α := fun s => (f s.ws).map fun a => (a, s)
theorem askM_some {α : Type} {f : List OO → Option α} {s : Stt} {r : α × Stt} (h : askM f s = some r) : f s.ws = some r.1 ∧ r.2 = s := by
  unfold askM at h
  cases e : f s.ws with
  | none => rw [e] at h; cases h
  | some a => rw [e] at h; simp at h; subst h; exact ⟨rfl, rfl⟩

theorem bindM_lift {α β : Type} {o : Option α} {f : α → M β} {s : Stt} {r : β × Stt} (h : bindM (liftM o) f s = some r) : ∃ a, o = some a ∧ f a s = some r := by
  obtain ⟨a, s1, e1, e2⟩ := bindM_some h
  obtain ⟨e3, e4⟩ := liftM_some e1
  simp only at e3 e4
  subst e4
  exact ⟨a, e3, e2⟩
theorem bindM_ask {α β : Type} {g : List OO → Option α} {f : α → M β} {s : Stt} {r : β × Stt} (h : bindM (askM g) f s = some r) : ∃ a, g s.ws = some a ∧ f a s = some r := by
  obtain ⟨a, s1, e1, e2⟩ := bindM_some h
  obtain ⟨e3, e4⟩ := askM_some e1
  simp only at e3 e4
  subst e4
  exact ⟨a, e3, e2⟩
/-! ### readings that follow a model -/
def FinE (K : KW) (R : Sto) (σ : L2.St) (N : Kn) (s' : Stt) (d : D) (Q : VK) : Prop := ∀ v H' N' O', Le N N' → SR K R σ H' N' O' s' → Rep K N' v d → Q v H'
def EvE (K : KW) (t : TE) (m : M D) : Prop := ∀ s d s', m s = some (d, s') → ∀ R σ H N O, SR K R σ H N O s → ∀ Q : VK, FinE K R σ N s' d Q → t σ H Q
def EvT (K : KW) (t : TT) (m : M Bool) : Prop := ∀ s b s', m s = some (b, s') → ∀ R σ H N O, SR K R σ H N O s → ∀ Q : Bool → Hp → Prop, (∀ H' N' O', Le N N' → SR K R σ H' N' O' s' → Q b H') → t σ H Q
def EvA (K : KW) (t : TA) (m : M (List D)) : Prop := ∀ s ds s', m s = some (ds, s') → ∀ R σ H N O, SR K R σ H N O s → ∀ Q : List V → Hp → Prop, (∀ vs H' N' O', Le N N' → SR K R σ H' N' O' s' → Reps K N' vs ds → Q vs H') → t σ H Q
def EvO (K : KW) (t : TE) (m : M OO) : Prop := ∀ s o s', m s = some (o, s') → ∀ R σ H N O, SR K R σ H N O s → ∀ Q : VK, (∀ p H' N' O', Le N N' → SR K R σ H' N' O' s' → Lone K N' O' H' p o → Q (.ref p) H') → t σ H Q
/-- operations on values -/
abbrev G2 := D → D → List OO → Option D
def RD (K : KW) (r : R2) (g : G2) : Prop := ∀ x y a b s d, g a b s.ws = some d → ∀ R σ H N O, SR K R σ H N O s → Rep K N x a → Rep K N y b → ∀ Q : VK, FinE K R σ N s d Q → r x y H Q
abbrev GC := List D → List OO → Option D
def RC (K : KW) (r : List V → Hp → VK → Prop) (g : GC) : Prop := ∀ xs ds s d, g ds s.ws = some d → ∀ R σ H N O, SR K R σ H N O s → Reps K N xs ds → ∀ Q : VK, FinE K R σ N s d Q → r xs H Q
/-- calls on values that give a new list -/
abbrev GO := List D → List OO → Option OO
def RCO (K : KW) (r : List V → Hp → VK → Prop) (g : GO) : Prop := ∀ xs ds s o, g ds s.ws = some o → ∀ R σ H N O, SR K R σ H N O s → Reps K N xs ds → ∀ Q : VK, (∀ p H' N' O', Le N N' → SR K R σ H' N' O' s → Lone K N' O' H' p o → Q (.ref p) H') → r xs H Q

section
variable {K : KW} {R : Sto} {σ : L2.St} {N N' N1 : Kn} {H H' : Hp} {O O' : Sto} {s s' s1 : Stt} {d : D} {Q : VK} {ta tb tc te : TE} {ma mb mc me : M D}
theorem FinE.here (q : FinE K R σ N s d Q) (x : SR K R σ H N O s) {v : V} (r : Rep K N v d) : Q v H := q v H N O (Le.refl N) x r
theorem FinE.le (q : FinE K R σ N s d Q) (l : Le N N1) : FinE K R σ N1 s d Q := fun v H' N' O' l2 x r => q v H' N' O' (l.trans l2) x r
/-- a known tuple laid -/
theorem FinE.tup {ds : List D} (q : FinE K R σ N s (.tup ds) Q) (x : SR K R σ H N O s) {p : Addr} {xs : List V} (hp : H p = none) (r : Reps K N xs ds) : Q (.ref p) (upd H p (.tup xs)) := by
  have l : Le N (N.up p (.tup xs)) := le_up (x.good.free hp).1
  exact q _ _ _ O l (x.new hp) (.tup (SqT.of (upd_same : (N.up p (.tup xs)).h p = some (.tup xs))) r.1 fun i y e h1 h2 => (r.2 i y e h1 h2).mono l)
theorem FinE.lst {ds : List D} (q : FinE K R σ N s (.lst ds) Q) (x : SR K R σ H N O s) {p : Addr} {xs : List V} (hp : H p = none) (r : Reps K N xs ds) : Q (.ref p) (upd H p (.lst xs)) := by
  have l : Le N (N.up p (.lst xs)) := le_up (x.good.free hp).1
  exact q _ _ _ O l (x.new hp) (.lst (SqL.of (upd_same : (N.up p (.lst xs)).h p = some (.lst xs))) r.1 fun i y e h1 h2 => (r.2 i y e h1 h2).mono l)
/-- a new object that is nobody's -/
theorem SR.skip (x : SR K R σ H N O s) {p : Addr} {o : HO} (h : H p = none) : SR K R σ (upd H p o) N O s := x.more (Le.refl N) rfl (x.good.skip h)
theorem SR.notL (x : SR K R σ H N O s) {p : Addr} (h : H p = none) : p ∉ N.L := fun z => by
  obtain ⟨i, hi⟩ := List.mem_iff_getElem?.mp z
  have hl : i < s.ws.length := by rw [← x.out]; exact (List.getElem?_eq_some_iff.mp hi).1
  have := (x.outO i p _ hi (List.getElem?_eq_getElem hl)).1
  rw [(x.good.free h).2] at this; cases this
theorem lone_new (x : SR K R σ H N O s) {p : Addr} {o : HO} {oo : OO} (h : H p = none) (ok : OOk K N (upd H p o) p oo) : SR K R σ (upd H p o) N O s ∧ Lone K N O (upd H p o) p oo :=
  ⟨x.skip h, (x.good.free h).1, (x.good.free h).2, x.notL h, ok⟩

/-! ### atoms -/
def mVar (i : Nat) : M D := fun s => match s.env[i]? with
  | some (.val d) => some (d, s)
  | some (.own o) => some (o.val, { s with env := s.env.set i (.val o.val) })
  | _ => none
theorem ee_var {i : Nat} : EvE K (tVar i) (mVar i) := fun s d s' e R σ H N O x Q q => by
  unfold mVar at e
  cases h : s.env[i]? with
  | none => rw [h] at e; cases e
  | some z =>
    rw [h] at e
    cases z with
    | no => cases e
    | val d0 =>
      cases e
      obtain ⟨v, hv, r⟩ := x.val i d h
      exact ⟨v, hv, q.here x r⟩
    | own o =>
      cases e
      obtain ⟨N', O', a, l, ha, r, x'⟩ := x.frz h
      exact ⟨_, ha, q _ _ _ _ l x' r⟩
def cV : D → Option V
  | .non => some .non
  | .bl b => some (.bl b)
  | .int i => some (.int i)
  | .str x => some (.str x)
  | .ty n => some (.ty n)
  | .obj a => some (.ref a)
  | _ => none
theorem ee_c {v : V} {d : D} (h : cV d = some v) : EvE K (tC v) (retM d) := fun s d' s' e R σ H N O x Q q => by
  cases e
  refine q.here x ?_
  cases d <;> simp [cV] at h <;> subst h
  · exact .non
  · exact .bl _
  · exact .int _
  · exact .str _
  · exact .ty _
  · exact .obj _
/-! ### two operands -/
def mOp (g : G2) (ma mb : M D) : M D := bindM ma fun a => bindM mb fun b => askM (g a b)
theorem ee_op {r : R2} {g : G2} (ha : EvE K ta ma) (hb : EvE K tb mb) (hr : RD K r g) : EvE K (tOp r ta tb) (mOp g ma mb) := fun s d s' e R σ H N O x Q q => by
  obtain ⟨a, s1, e1, e⟩ := bindM_some e
  obtain ⟨b, s2, e2, e⟩ := bindM_some e
  obtain ⟨e, rfl⟩ := askM_some e
  refine ha s a s1 e1 R σ H N O x _ fun v H1 N1 O1 l1 x1 r1 => ?_
  refine hb s1 b s' e2 R σ H1 N1 O1 x1 _ fun w H2 N2 O2 l2 x2 r2 => ?_
  exact hr v w a b s' d e R σ H2 N2 O2 x2 (r1.mono l2) r2 Q (q.le (l1.trans l2))
def mUn (g : D → Option D) (ma : M D) : M D := bindM ma fun a => liftM (g a)
def RU (K : KW) (r : V → Hp → VK → Prop) (g : D → Option D) : Prop := ∀ x a s d, g a = some d → ∀ R σ H N O, SR K R σ H N O s → Rep K N x a → ∀ Q : VK, FinE K R σ N s d Q → r x H Q
theorem ee_un {r : V → Hp → VK → Prop} {g : D → Option D} (ha : EvE K ta ma) (hr : RU K r g) : EvE K (tUn r ta) (mUn g ma) := fun s d s' e R σ H N O x Q q => by
  obtain ⟨a, s1, e1, e⟩ := bindM_some e
  obtain ⟨ee, es⟩ := liftM_some e
  cases es
  refine ha s a s' e1 R σ H N O x _ fun v H1 N1 O1 l1 x1 r1 => ?_
  exact hr v a s' d ee R σ H1 N1 O1 x1 r1 Q (q.le l1)
/-! ints -/
def gI (f : Int → Int → Int) : G2
  | .int i, .int j, _ => some (.int (f i j))
  | _, _, _ => none
def gB (f : Int → Int → Bool) : G2
  | .int i, .int j, _ => some (.bl (f i j))
  | _, _, _ => none
def gIC (C : Int → Int → Bool) (f : Int → Int → Int) : G2
  | .int i, .int j, _ => if C i j = true then some (.int (f i j)) else none
  | _, _, _ => none
theorem gI_some {f : Int → Int → Int} {a b d : D} {ws : List OO} (h : gI f a b ws = some d) : ∃ i j, a = .int i ∧ b = .int j ∧ d = .int (f i j) := by
  cases a <;> cases b <;> simp [gI] at h
  exact ⟨_, _, rfl, rfl, h.symm⟩
theorem gB_some {f : Int → Int → Bool} {a b d : D} {ws : List OO} (h : gB f a b ws = some d) : ∃ i j, a = .int i ∧ b = .int j ∧ d = .bl (f i j) := by
  cases a <;> cases b <;> simp [gB] at h
  exact ⟨_, _, rfl, rfl, h.symm⟩
theorem gIC_some {C : Int → Int → Bool} {f : Int → Int → Int} {a b d : D} {ws : List OO} (h : gIC C f a b ws = some d) : ∃ i j, a = .int i ∧ b = .int j ∧ C i j = true ∧ d = .int (f i j) := by
  cases a <;> cases b <;> simp [gIC] at h
  exact ⟨_, _, rfl, rfl, h.1, h.2.symm⟩
theorem rd_I0 {f : Int → Int → Int} : RD K (rI0 fun a b => .int (f a b)) (gI f) := fun x y a b s d e R σ H N O x1 rx ry Q q => by
  obtain ⟨i, j, rfl, rfl, rfl⟩ := gI_some e
  cases rx; cases ry
  exact ⟨i, j, rfl, rfl, q.here x1 (.int _)⟩
theorem rd_B0 {f : Int → Int → Bool} : RD K (rI0 fun a b => .bl (f a b)) (gB f) := fun x y a b s d e R σ H N O x1 rx ry Q q => by
  obtain ⟨i, j, rfl, rfl, rfl⟩ := gB_some e
  cases rx; cases ry
  exact ⟨i, j, rfl, rfl, q.here x1 (.bl _)⟩
theorem rd_I {C : Int → Int → Prop} {c : Int → Int → Bool} {f : Int → Int → Int} (hc : ∀ i j, c i j = true → C i j) : RD K (rI C fun a b => .int (f a b)) (gIC c f) := fun x y a b s d e R σ H N O x1 rx ry Q q => by
  obtain ⟨i, j, rfl, rfl, h, rfl⟩ := gIC_some e
  cases rx; cases ry
  exact ⟨i, j, rfl, rfl, hc i j h, q.here x1 (.int _)⟩
def gU (f : Int → Int) : D → Option D
  | .int i => some (.int (f i))
  | _ => none
theorem ru_U {f : Int → Int} : RU K (rU fun a => .int (f a)) (gU f) := fun x a s d e R σ H N O x1 rx Q q => by
  cases a <;> simp [gU] at e
  subst e
  cases rx
  exact ⟨_, rfl, q.here x1 (.int _)⟩
/-! sequences -/
def seqD (ws : List OO) : D → Option (List D)
  | .tup ds => some ds
  | .lst ds => some ds
  | .loc i => match ws[i]? with
    | some (.lst ds) => some ds
    | _ => none
  | _ => none
theorem seqD_get {v : V} {a : D} {ds : List D} (h : seqD s.ws a = some ds) (x : SR K R σ H N O s) (r : Rep K N v a) : ∃ p xs, v = .ref p ∧ (SqL K H p xs ∨ SqT K H p xs) ∧ Reps K N xs ds := by
  cases a <;> simp [seqD] at h
  · subst h
    obtain ⟨p, xs, e, hx, q⟩ := r.tup_
    exact ⟨p, xs, e, .inr (same_t x.good.ex hx), q⟩
  · subst h
    obtain ⟨p, xs, e, hx, q⟩ := r.lst_
    exact ⟨p, xs, e, .inl (same_l x.good.ex hx), q⟩
  · rename_i i
    cases e : s.ws[i]? with
    | none => rw [e] at h; cases h
    | some o =>
      rw [e] at h
      cases o with
      | lst es =>
        cases h
        cases r with
        | loc hL =>
          obtain ⟨xs, hx, q⟩ := x.getO e hL
          exact ⟨_, xs, rfl, .inl (SqL.of hx), q⟩
      | dic kvs => cases h
      | ins C y gs => cases h
      | set _ => cases h
      | keys _ => cases h
/-- the place of an index -/
def atD (ds : List D) (i : Int) : Option D := atI ds i
theorem atI_reps {xs : List V} {ds : List D} {i : Int} (r : Reps K N xs ds) (h : atI ds i = some d) : ∃ v, atI xs i = some v ∧ Rep K N v d := by
  unfold atI at *
  rw [r.1]
  cases e : ixN ds.length i with
  | none => rw [e] at h; cases h
  | some j => rw [e] at h; exact r.get h
/-- dicts -/
def getD (kvs : List (D × D)) (k : Key) : Option D := (kvs.find? fun kv => decide (kv.1.key = some k)).map (·.2)
def dicD (ws : List OO) : D → Option (List (D × D))
  | .dic kvs => some kvs
  | .loc i => match ws[i]? with
    | some (.dic kvs) => some kvs
    | _ => none
  | _ => none
theorem dicD_get {v : V} {a : D} {kvs : List (D × D)} (h : dicD s.ws a = some kvs) (x : SR K R σ H N O s) (r : Rep K N v a) : ∃ p es, v = .ref p ∧ Rd H p (.dK es) ∧ KvOk K N es kvs := by
  cases a <;> simp [dicD] at h
  · subst h
    cases r with
    | dic h hk hi => exact ⟨_, _, rfl, same_rd x.good.ex h, hk, hi⟩
  · rename_i i
    cases e : s.ws[i]? with
    | none => rw [e] at h; cases h
    | some o =>
      rw [e] at h
      cases o with
      | lst es => cases h
      | dic kvs =>
        cases h
        cases r with
        | loc hL =>
          obtain ⟨es, hx, q⟩ := x.getO e hL
          exact ⟨_, es, rfl, .inl hx, q⟩
      | ins C y gs => cases h
      | set _ => cases h
      | keys _ => cases h
theorem get_ok {es : List (Key × V)} {kvs : List (D × D)} (h : KvOk K N es kvs) {k : Key} :
    (∀ d, getD kvs k = some d → ∃ v, valV es k = some v ∧ Rep K N v d) ∧ (getD kvs k = none → valV es k = none) := by
  obtain ⟨hk, hi⟩ := h
  induction es generalizing kvs with
  | nil => cases kvs with
    | nil => exact ⟨fun d h => (by cases h), fun _ => rfl⟩
    | cons q gs => simp at hk
  | cons p es ih =>
    cases kvs with
    | nil => simp at hk
    | cons q gs =>
      obtain ⟨pn, pv⟩ := p
      obtain ⟨qn, qd⟩ := q
      simp only [List.map_cons, List.cons.injEq] at hk
      obtain ⟨e, hk⟩ := hk
      subst e
      obtain ⟨i1, i2⟩ := ih hk (fun i e p h1 h2 => hi (i + 1) e p (by simpa using h1) (by simpa using h2))
      unfold getD valV at *
      rw [List.find?_cons, List.find?_cons]
      simp only [kD_key]
      by_cases hz : pn = k
      · subst hz
        simp only [decide_true]
        exact ⟨fun d h => by simp at h; subst h; exact ⟨pv, rfl, hi 0 _ _ rfl rfl⟩, fun h => by simp at h⟩
      · have e1 : decide (pn = k) = false := decide_eq_false hz
        have e2 : decide (some pn = some k) = false := decide_eq_false (fun z => hz (Option.some.inj z))
        simp only [e1, e2]
        exact ⟨i1, i2⟩
theorem rep_kD {k : Key} {v : V} (r : Rep K N v (kD k)) : v = kV k := by cases k <;> (cases r; rfl)
theorem rep_key {k : Key} {v : V} {a : D} (h : a.key = some k) (r : Rep K N v a) : v = kV k := by rw [D.key_eq h] at r; exact rep_kD r
/-- x[i]: sequences and dicts -/
def gIx : G2 := fun a b ws => match seqD ws a with
  | some ds => b.int?.bind fun i => atI ds i
  | none => (dicD ws a).bind fun kvs => b.key.bind fun k => getD kvs k
theorem rd_ix : ∀ x y a b s d i ds, seqD s.ws a = some ds → b = .int i → atI ds i = some d → ∀ R σ H N O, SR K R σ H N O s → Rep K N x a → Rep K N y b → ∀ Q : VK, FinE K R σ N s d Q → rIx K x y H Q := by
  rintro x y a b s d i ds hs rfl hd R σ H N O x1 rx ry Q q
  obtain ⟨p, xs, rfl, hx, r⟩ := seqD_get hs x1 rx
  obtain ⟨v, hv, rv⟩ := atI_reps r hd
  cases ry
  rcases hx with hx | hx
  · exact .inl ⟨p, xs, i, v, rfl, rfl, hx, hv, q.here x1 rv⟩
  · exact .inr (.inl ⟨p, xs, i, v, rfl, rfl, hx, hv, q.here x1 rv⟩)
def tOr2 (t u : TE) : TE := fun σ H Q => t σ H Q ∨ u σ H Q
theorem pe_or2 {X : Cx} {e : Expr} {t u : TE} (h : PE X e t) (h2 : PE X e u) : PE X e (tOr2 t u) := ⟨fun pins s σ H Q I w => by
  rcases w with w | w
  · exact h.run pins s σ H Q I w
  · exact h2.run pins s σ H Q I w⟩
theorem ee_ixU (ha : EvE K ta ma) (hb : EvE K tb mb) : EvE K (tOr2 (tOp (rIx K) ta tb) (tDGet ta tb)) (mOp gIx ma mb) := fun s d s' e R σ H N O x Q q => by
  obtain ⟨a, s1, e1, e⟩ := bindM_some e
  obtain ⟨b, s2, e2, e⟩ := bindM_some e
  obtain ⟨e, rfl⟩ := askM_some e
  unfold gIx at e
  cases h : seqD s'.ws a with
  | some ds =>
    rw [h] at e
    left
    refine ha s a s1 e1 R σ H N O x _ fun v H1 N1 O1 l1 x1 r1 => ?_
    refine hb s1 b s' e2 R σ H1 N1 O1 x1 _ fun w H2 N2 O2 l2 x2 r2 => ?_
    cases e3 : b.int? with
    | none => rw [e3] at e; cases e
    | some i =>
      rw [e3] at e
      exact rd_ix v w a b s' d i ds h (D.int?_eq e3) e R σ H2 N2 O2 x2 (r1.mono l2) r2 Q (q.le (l1.trans l2))
  | none =>
    rw [h] at e
    right
    refine ha s a s1 e1 R σ H N O x _ fun v H1 N1 O1 l1 x1 r1 => ?_
    refine hb s1 b s' e2 R σ H1 N1 O1 x1 _ fun w H2 N2 O2 l2 x2 r2 => ?_
    cases e3 : dicD s'.ws a with
    | none => rw [e3] at e; cases e
    | some kvs =>
      cases e4 : b.key with
      | none => rw [e3, e4] at e; cases e
      | some k =>
        rw [e3, e4] at e
        have ey := rep_key e4 r2
        subst ey
        obtain ⟨p, es, rfl, he, ok⟩ := dicD_get e3 x2 (r1.mono l2)
        obtain ⟨z, hz, rz⟩ := (get_ok ok (k := k)).1 d e
        exact ⟨p, z, rfl, .inl ⟨es, k, he, rfl, hz.symm⟩, (q.le (l1.trans l2)).here x2 rz⟩
/-- found[e] where found is a name: an owned list is read where it stands -/
def mIxV (i : Nat) (mb : M D) : M D := fun s => match s.env[i]? with
  | some (.own (.lst _)) => (bindM mb fun b => fun s1 => match s1.env[i]? with
    | some (.own (.lst ds)) => (b.int?.bind fun j => atI ds j).map fun d => (d, s1)
    | _ => none) s
  | _ => mOp gIx (mVar i) mb s
theorem ee_ixV {i : Nat} (hb : EvE K tb mb) : EvE K (tOr2 (tOp (rIx K) (tVar i) tb) (tDGet (tVar i) tb)) (mIxV i mb) := fun s d s' e R σ H N O x Q q => by
  unfold mIxV at e
  split at e
  · rename_i ds0 h0
    obtain ⟨b, s1, e1, e⟩ := bindM_some e
    left
    obtain ⟨a, ha, hO, hR, hL⟩ := x.loc i _ h0
    refine ⟨_, ha, hb s b s1 e1 R σ H N O x _ fun w H2 N2 O2 l2 x2 r2 => ?_⟩
    split at e
    · rename_i ds h1
      cases e3 : b.int? with
      | none => rw [e3] at e; cases e
      | some j =>
        rw [e3] at e
        cases e4 : atI ds j with
        | none => simp [e4] at e
        | some d0 =>
          simp [e4] at e
          obtain ⟨rfl, rfl⟩ := e
          rw [D.int?_eq e3] at r2
          cases r2
          obtain ⟨a', ha', hO', _⟩ := x2.loc i _ h1
          rw [ha] at ha'
          cases ha'
          obtain ⟨xs, hx, r⟩ := (x2.good.own a _ hO').2
          obtain ⟨v, hv, rv⟩ := atI_reps r e4
          exact .inl ⟨a, xs, j, v, rfl, rfl, SqL.of hx, hv, (q.le l2).here x2 rv⟩
    · cases e
  · exact ee_ixU ee_var hb s d s' e R σ H N O x Q q
end
end ML
set_option Elab.async false
set_option linter.all false
set_option maxRecDepth 100000
set_option maxHeartbeats 2000000
/-! Layer M: tests, displays, calls on values, slices, fields. -/
namespace ML
open PySem L2
section
variable {K : KW} {R : Sto} {σ : L2.St} {N N' N1 : Kn} {H H' : Hp} {O O' : Sto} {s s' s1 : Stt} {d : D} {Q : VK} {ta tb tc te : TE} {ma mb mc me : M D} {t u : TT} {mt mu : M Bool} {tA tB : TA} {mA mB : M (List D)} {mO : M OO}
/-! ### tests -/
def mTest (me : M D) : M Bool := bindM me fun d => liftM d.bl?
theorem et_test (h : EvE K te me) : EvT K (tTest te) (mTest me) := fun s b s' e R σ H N O x Q q => by
  obtain ⟨a, s1, e1, e⟩ := bindM_some e
  obtain ⟨ee, es⟩ := liftM_some e
  cases es
  refine h s a s' e1 R σ H N O x _ fun v H1 N1 O1 l1 x1 r1 => ?_
  rw [D.bl?_eq ee] at r1
  cases r1
  exact ⟨b, rfl, q H1 N1 O1 l1 x1⟩

theorem et_B (h : EvE K te me) : EvT K (L2.tB te) (mTest me) := et_test h
def mNot (m : M Bool) : M Bool := bindM m fun b => retM (!b)
theorem et_not (h : EvT K t mt) : EvT K (tNot t) (mNot mt) := fun s b s' e R σ H N O x Q q => by
  obtain ⟨a, s1, e1, e⟩ := bindM_some e
  cases e
  exact h s a s' e1 R σ H N O x _ q
def mAnd (m1 m2 : M Bool) : M Bool := bindM m1 fun b => if b = true then m2 else retM false
def mOr (m1 m2 : M Bool) : M Bool := bindM m1 fun b => if b = true then retM true else m2
theorem et_and (h : EvT K t mt) (h2 : EvT K u mu) : EvT K (tAnd t u) (mAnd mt mu) := fun s b s' e R σ H N O x Q q => by
  obtain ⟨a, s1, e1, e⟩ := bindM_some e
  refine h s a s1 e1 R σ H N O x _ fun H1 N1 O1 l1 x1 => ?_
  cases a with
  | true => rw [if_pos rfl] at e ⊢; exact h2 s1 b s' e R σ H1 N1 O1 x1 Q fun H2 N2 O2 l2 x2 => q H2 N2 O2 (l1.trans l2) x2
  | false => rw [if_neg Bool.false_ne_true] at e ⊢; cases e; exact q H1 N1 O1 l1 x1
theorem et_or (h : EvT K t mt) (h2 : EvT K u mu) : EvT K (tOr t u) (mOr mt mu) := fun s b s' e R σ H N O x Q q => by
  obtain ⟨a, s1, e1, e⟩ := bindM_some e
  refine h s a s1 e1 R σ H N O x _ fun H1 N1 O1 l1 x1 => ?_
  cases a with
  | true => rw [if_pos rfl] at e ⊢; cases e; exact q H1 N1 O1 l1 x1
  | false => rw [if_neg Bool.false_ne_true] at e ⊢; exact h2 s1 b s' e R σ H1 N1 O1 x1 Q fun H2 N2 O2 l2 x2 => q H2 N2 O2 (l1.trans l2) x2
/-- .. as values -/
def mAndV (m1 m2 : M D) : M D := bindM m1 fun d => bindM (liftM d.bl?) fun b => if b = true then m2 else retM (.bl false)
def mOrV (m1 m2 : M D) : M D := bindM m1 fun d => bindM (liftM d.bl?) fun b => if b = true then retM (.bl true) else m2
def mNotV (m1 : M D) : M D := bindM m1 fun d => bindM (liftM d.bl?) fun b => retM (.bl (!b))
theorem ee_andV (h : EvE K ta ma) (h2 : EvE K tb mb) : EvE K (tAndV ta tb) (mAndV ma mb) := fun s d s' e R σ H N O x Q q => by
  obtain ⟨a, s1, e1, e⟩ := bindM_some e
  obtain ⟨b, ee, e2⟩ := bindM_lift e
  refine h s a s1 e1 R σ H N O x _ fun v H1 N1 O1 l1 x1 r1 => ?_
  rw [D.bl?_eq ee] at r1
  cases r1
  refine ⟨b, rfl, ?_⟩
  cases b with
  | true => rw [if_pos rfl] at e2 ⊢; exact h2 s1 d s' e2 R σ H1 N1 O1 x1 Q (q.le l1)
  | false => rw [if_neg Bool.false_ne_true] at e2 ⊢; cases e2; exact (q.le l1).here x1 (.bl _)
theorem ee_orV (h : EvE K ta ma) (h2 : EvE K tb mb) : EvE K (tOrV ta tb) (mOrV ma mb) := fun s d s' e R σ H N O x Q q => by
  obtain ⟨a, s1, e1, e⟩ := bindM_some e
  obtain ⟨b, ee, e2⟩ := bindM_lift e
  refine h s a s1 e1 R σ H N O x _ fun v H1 N1 O1 l1 x1 r1 => ?_
  rw [D.bl?_eq ee] at r1
  cases r1
  refine ⟨b, rfl, ?_⟩
  cases b with
  | true => rw [if_pos rfl] at e2 ⊢; cases e2; exact (q.le l1).here x1 (.bl _)
  | false => rw [if_neg Bool.false_ne_true] at e2 ⊢; exact h2 s1 d s' e2 R σ H1 N1 O1 x1 Q (q.le l1)
theorem ee_notV (h : EvE K ta ma) : EvE K (tNotV ta) (mNotV ma) := fun s d s' e R σ H N O x Q q => by
  obtain ⟨a, s1, e1, e⟩ := bindM_some e
  obtain ⟨b, ee, e2⟩ := bindM_lift e
  cases e2
  refine h s a s' e1 R σ H N O x _ fun v H1 N1 O1 l1 x1 r1 => ?_
  rw [D.bl?_eq ee] at r1
  cases r1
  exact ⟨b, rfl, (q.le l1).here x1 (.bl _)⟩
def mIf {α : Type} (mt : M Bool) (ma mb : M α) : M α := bindM mt fun b => if b = true then ma else mb
theorem ee_if (h : EvT K t mt) (h1 : EvE K ta ma) (h2 : EvE K tb mb) : EvE K (tIf t ta tb) (mIf mt ma mb) := fun s d s' e R σ H N O x Q q => by
  obtain ⟨a, s1, e1, e⟩ := bindM_some e
  refine h s a s1 e1 R σ H N O x _ fun H1 N1 O1 l1 x1 => ?_
  cases a with
  | true => rw [if_pos rfl] at e ⊢; exact h1 s1 d s' e R σ H1 N1 O1 x1 Q (q.le l1)
  | false => rw [if_neg Bool.false_ne_true] at e ⊢; exact h2 s1 d s' e R σ H1 N1 O1 x1 Q (q.le l1)
/-- a < b <= c -/
def mChain (g g' : G2) (ma mb mc : M D) : M D := bindM ma fun a => bindM mb fun b => bindM (askM (g a b)) fun z => bindM (liftM z.bl?) fun k => if k = true then bindM mc fun c => askM (g' b c) else retM (.bl false)
theorem ee_chain {r r' : R2} {g g' : G2} (ha : EvE K ta ma) (hb : EvE K tb mb) (hc : EvE K tc mc) (hr : RD K r g) (hr' : RD K r' g') : EvE K (tChain r r' ta tb tc) (mChain g g' ma mb mc) := fun s d s' e R σ H N O x Q q => by
  obtain ⟨a, s1, e1, e⟩ := bindM_some e
  obtain ⟨b, s2, e2, e⟩ := bindM_some e
  obtain ⟨z, e5, e⟩ := bindM_ask e
  obtain ⟨k, e6, e⟩ := bindM_lift e
  refine ha s a s1 e1 R σ H N O x _ fun v H1 N1 O1 l1 x1 r1 => ?_
  refine hb s1 b _ e2 R σ H1 N1 O1 x1 _ fun w H2 N2 O2 l2 x2 r2 => ?_
  refine hr v w a b _ z e5 R σ H2 N2 O2 x2 (r1.mono l2) r2 _ fun y H3 N3 O3 l3 x3 r3 => ?_
  rw [D.bl?_eq e6] at r3
  cases r3
  refine ⟨k, rfl, ?_⟩
  cases k with
  | true =>
    rw [if_pos rfl] at e ⊢
    obtain ⟨c, s5, e7, e⟩ := bindM_some e
    obtain ⟨e8, es⟩ := askM_some e
    cases es
    refine hc _ c _ e7 R σ H3 N3 O3 x3 _ fun y2 H4 N4 O4 l4 x4 r4 => ?_
    exact hr' w y2 b c _ d e8 R σ H4 N4 O4 x4 (r2.mono (l3.trans l4)) r4 Q (q.le (((l1.trans l2).trans l3).trans l4))
  | false =>
    rw [if_neg Bool.false_ne_true] at e ⊢
    cases e
    exact (q.le ((l1.trans l2).trans l3)).here x3 (.bl _)
/-! ### truth of a value -/
def truD (ws : List OO) : D → Option Bool
  | .non => some false
  | .bl b => some b
  | .int i => some (i != 0)
  | .str x => if x.length ≤ sizeLine then some ((x.length : Int) != 0) else none
  | .tup ds => some (!ds.isEmpty)
  | .lst ds => some (!ds.isEmpty)
  | .loc i => match ws[i]? with
    | some (.lst ds) => some (!ds.isEmpty)
    | _ => none
  | _ => none
theorem reps_empty {xs : List V} {ds : List D} (r : Reps K N xs ds) : (!xs.isEmpty) = !ds.isEmpty := by
  have := r.1
  cases xs <;> cases ds <;> simp at this <;> rfl
theorem tru_ok {v : V} {a : D} {b : Bool} (h : truD s.ws a = some b) (x : SR K R σ H N O s) (r : Rep K N v a) : TruV K v H b := by
  have seq : ∀ ds, seqD s.ws a = some ds → b = (!ds.isEmpty) → TruV K v H b := fun ds h1 h2 => by
    obtain ⟨p, xs, rfl, hx, q⟩ := seqD_get h1 x r
    rw [h2, ← reps_empty q]
    rcases hx with hx | hx
    · exact .inl ⟨xs, hx, rfl⟩
    · exact .inr (.inl ⟨xs, hx, rfl⟩)
  cases a with
  | non => cases r; cases h; rfl
  | bl c => cases r; cases h; rfl
  | int i => cases r; cases h; rfl
  | str z =>
    cases r
    simp only [truD] at h
    split at h
    · rename_i hz
      cases h
      exact ⟨hz, rfl⟩
    · cases h
  | tup ds => cases h; exact seq ds rfl rfl
  | lst ds => cases h; exact seq ds rfl rfl
  | loc i =>
    simp only [truD] at h
    cases e : s.ws[i]? with
    | none => rw [e] at h; cases h
    | some o =>
      rw [e] at h
      cases o with
      | lst ds => cases h; exact seq ds (by simp [seqD, e]) rfl
      | dic _ => cases h
      | ins _ _ _ => cases h
      | set _ => cases h
      | keys _ => cases h
  | ty _ => cases h
  | obj _ => cases h
  | dic _ => cases h
  | set _ => cases h
  | keys _ => cases h
  | ins _ _ => cases h
def mTru (me : M D) : M Bool := bindM me fun d => askM fun ws => truD ws d
theorem et_tru (h : EvE K te me) : EvT K (fun σ H Q => te σ H fun x H' => ∃ k, TruV K x H' k ∧ Q k H') (mTru me) := fun s b s' e R σ H N O x Q q => by
  obtain ⟨a, s1, e1, e⟩ := bindM_some e
  obtain ⟨ee, es⟩ := askM_some e
  cases es
  refine h s a s' e1 R σ H N O x _ fun v H1 N1 O1 l1 x1 r1 => ?_
  exact ⟨b, tru_ok ee x1 r1, q H1 N1 O1 l1 x1⟩
/-- .. of a name, an owned list too -/
def mTruV (i : Nat) : M Bool := fun s => match s.env[i]? with
  | some (.own (.lst ds)) => some (!ds.isEmpty, s)
  | _ => mTru (mVar i) s
theorem et_truV {i : Nat} : EvT K (fun σ H Q => tVar i σ H fun x H' => ∃ k, TruV K x H' k ∧ Q k H') (mTruV i) := fun s b s' e R σ H N O x Q q => by
  unfold mTruV at e
  split at e
  · rename_i ds h
    cases e
    obtain ⟨a, ha, hO, _⟩ := x.loc i _ h
    obtain ⟨xs, hx, r⟩ := (x.good.own a _ hO).2
    exact ⟨_, ha, _, .inl ⟨xs, SqL.of hx, (reps_empty r).symm⟩, q H N O (Le.refl N) x⟩
  · exact et_tru ee_var s b s' e R σ H N O x Q q
/-! ### arguments, displays -/
def mNil : M (List D) := retM []
def mCons (me : M D) (ms : M (List D)) : M (List D) := bindM me fun d => bindM ms fun ds => retM (d :: ds)
theorem ea_nil : EvA K tNil mNil := fun s ds s' e R σ H N O x Q q => by
  cases e
  exact q [] H N O (Le.refl N) x Reps.nil
theorem ea_cons (h : EvE K te me) (ht : EvA K tA mA) : EvA K (tCons te tA) (mCons me mA) := fun s ds s' e R σ H N O x Q q => by
  obtain ⟨a, s1, e1, e⟩ := bindM_some e
  obtain ⟨as, s2, e2, e⟩ := bindM_some e
  cases e
  refine h s a s1 e1 R σ H N O x _ fun v H1 N1 O1 l1 x1 r1 => ?_
  exact ht s1 as _ e2 R σ H1 N1 O1 x1 _ fun vs H2 N2 O2 l2 x2 rs => q _ H2 N2 O2 (l1.trans l2) x2 (Reps.cons (r1.mono l2) rs)
def most : Nat := 10000
theorem most_le {n : Nat} (h : n ≤ most) : n ≤ sizeLine := Nat.le_trans h (by decide)
theorem most_lt {n : Nat} (h : n < most) : n < sizeLine := Nat.lt_of_lt_of_le h (by decide)
def mTup (ms : M (List D)) : M D := bindM ms fun ds => if ds.length ≤ most then retM (.tup ds) else noM
theorem ee_tup (h : EvA K tA mA) : EvE K (tTup tA) (mTup mA) := fun s d s' e R σ H N O x Q q => by
  obtain ⟨ds, s1, e1, e⟩ := bindM_some e
  split at e
  · rename_i hz
    cases e
    exact h s ds _ e1 R σ H N O x _ fun vs H1 N1 O1 l1 x1 rs => ⟨by rw [rs.1]; exact most_le hz, fun p hp => (q.le l1).tup x1 hp rs⟩
  · cases e
def mLstO (ms : M (List D)) : M OO := bindM ms fun ds => if ds.length ≤ most then retM (.lst ds) else noM
theorem eo_lst (h : EvA K tA mA) : EvO K (tLst tA) (mLstO mA) := fun s o s' e R σ H N O x Q q => by
  obtain ⟨ds, s1, e1, e⟩ := bindM_some e
  split at e
  · rename_i hz
    cases e
    exact h s ds _ e1 R σ H N O x _ fun vs H1 N1 O1 l1 x1 rs => ⟨by rw [rs.1]; exact most_le hz, fun p hp => by
      obtain ⟨x2, l⟩ := lone_new x1 (oo := .lst ds) hp ⟨vs, upd_same, rs⟩
      exact q p _ N1 O1 l1 x2 l⟩
  · cases e
def mDicO : M OO := retM (.dic [])
theorem eo_dic : EvO K tDNewK mDicO := fun s o s' e R σ H N O x Q q => by
  cases e
  intro p hp
  obtain ⟨x2, l⟩ := lone_new x (o := .dK []) (oo := .dic []) hp ⟨[], upd_same, rfl, fun i e p h => by simp at h⟩
  exact q p _ N O (Le.refl N) x2 l
/-- a new object as a value; as a shared one -/
def mFrz (m : M OO) : M D := bindM m fun o => retM o.val
def mOut (m : M OO) : M D := bindM m fun o => fun s => some (.loc s.ws.length, { s with ws := s.ws ++ [o] })
theorem ee_frz (h : EvO K te mO) : EvE K te (mFrz mO) := fun s d s' e R σ H N O x Q q => by
  obtain ⟨o, s1, e1, e⟩ := bindM_some e
  cases e
  refine h s o _ e1 R σ H N O x Q fun p H1 N1 O1 l1 x1 hl => ?_
  obtain ⟨N2, l2, x2, r⟩ := x1.lone_frz hl
  exact q _ _ N2 _ (l1.trans l2) x2 r
theorem ee_out (h : EvO K te mO) : EvE K te (mOut mO) := fun s d s' e R σ H N O x Q q => by
  obtain ⟨o, s1, e1, e⟩ := bindM_some e
  cases e
  refine h s o _ e1 R σ H N O x Q fun p H1 N1 O1 l1 x1 hl => ?_
  obtain ⟨N2, l2, x2, r⟩ := x1.lone_out hl
  exact q _ _ N2 _ (l1.trans l2) x2 r
/-! ### calls on values -/
def mCB (g : GC) (ms : M (List D)) : M D := bindM ms fun ds => askM (g ds)
theorem ee_cb {r : List V → Hp → VK → Prop} {g : GC} (h : EvA K tA mA) (hr : RC K r g) : EvE K (tCB r tA) (mCB g mA) := fun s d s' e R σ H N O x Q q => by
  obtain ⟨ds, s1, e1, e⟩ := bindM_some e
  obtain ⟨ee, es⟩ := askM_some e
  cases es
  exact h s ds _ e1 R σ H N O x _ fun vs H1 N1 O1 l1 x1 rs => hr vs ds _ d ee R σ H1 N1 O1 x1 rs Q (q.le l1)
def mCBO (g : GO) (ms : M (List D)) : M OO := bindM ms fun ds => askM (g ds)
theorem eo_cb {r : List V → Hp → VK → Prop} {g : GO} (h : EvA K tA mA) (hr : RCO K r g) : EvO K (tCB r tA) (mCBO g mA) := fun s o s' e R σ H N O x Q q => by
  obtain ⟨ds, s1, e1, e⟩ := bindM_some e
  obtain ⟨ee, es⟩ := askM_some e
  cases es
  exact h s ds _ e1 R σ H N O x _ fun vs H1 N1 O1 l1 x1 rs => hr vs ds _ o ee R σ H1 N1 O1 x1 rs Q fun p H2 N2 O2 l2 => q p H2 N2 O2 (l1.trans l2)
def gLen : GC
  | [d], ws => (seqD ws d).map fun ds => .int ds.length
  | _, _ => none
theorem rc_len : RC K (fun xs H Q => ∃ p ys, xs = [.ref p] ∧ (SqL K H p ys ∨ SqT K H p ys) ∧ Q (.int ys.length) H) gLen := fun xs ds s d e R σ H N O x rs Q q => by
  match ds, e with
  | [a], e =>
    simp only [gLen] at e
    cases e1 : seqD s.ws a with
    | none => rw [e1] at e; cases e
    | some es =>
      rw [e1] at e
      cases e
      obtain ⟨v, rfl, rv⟩ := rs.one_
      obtain ⟨p, ys, rfl, hy, ry⟩ := seqD_get e1 x rv
      refine ⟨p, ys, rfl, hy, ?_⟩
      rw [ry.1]
      exact q.here x (.int _)
/-- len of a name -/
def mLenV (i : Nat) : M D := fun s => match s.env[i]? with
  | some (.own (.lst ds)) => some (.int ds.length, s)
  | _ => mCB gLen (mCons (mVar i) mNil) s
theorem ee_lenV {i : Nat} : EvE K (tCB (fun xs H Q => ∃ p ys, xs = [.ref p] ∧ (SqL K H p ys ∨ SqT K H p ys) ∧ Q (.int ys.length) H) (tCons (tVar i) tNil)) (mLenV i) := fun s d s' e R σ H N O x Q q => by
  unfold mLenV at e
  split at e
  · rename_i ds h
    cases e
    obtain ⟨a, ha, hO, _⟩ := x.loc i _ h
    obtain ⟨xs, hx, r⟩ := (x.good.own a _ hO).2
    refine ⟨_, ha, a, xs, rfl, .inl (SqL.of hx), ?_⟩
    rw [r.1]
    exact q.here x (.int _)
  · exact ee_cb (ea_cons ee_var ea_nil) rc_len s d s' e R σ H N O x Q q
def gAbs : GC
  | [.int i], _ => some (.int (if i < 0 then -i else i))
  | _, _ => none
theorem rc_abs : RC K (fun xs H Q => ∃ i, xs = [.int i] ∧ Q (.int (if i < 0 then -i else i)) H) gAbs := fun xs ds s d e R σ H N O x rs Q q => by
  match ds, e with
  | [.int i], e =>
    cases e
    obtain ⟨v, rfl, rv⟩ := rs.one_
    cases rv
    exact ⟨i, rfl, q.here x (.int _)⟩
def gMax2 : GC
  | [.int i, .int j], _ => some (.int (if j > i then j else i))
  | _, _ => none
theorem rc_max2 : RC K (fun xs H Q => ∃ i j, xs = [.int i, .int j] ∧ Q (.int (if j > i then j else i)) H) gMax2 := fun xs ds s d e R σ H N O x rs Q q => by
  match ds, e with
  | [.int i, .int j], e =>
    cases e
    obtain ⟨v, w, rfl, rv, rw'⟩ := rs.two_
    cases rv; cases rw'
    exact ⟨i, j, rfl, q.here x (.int _)⟩
def gMin2 : GC
  | [.int i, .int j], _ => some (.int (if j < i then j else i))
  | _, _ => none
theorem rc_min2 : RC K (fun xs H Q => ∃ i j, xs = [.int i, .int j] ∧ Q (.int (if j < i then j else i)) H) gMin2 := fun xs ds s d e R σ H N O x rs Q q => by
  match ds, e with
  | [.int i, .int j], e =>
    cases e
    obtain ⟨v, w, rfl, rv, rw'⟩ := rs.two_
    cases rv; cases rw'
    exact ⟨i, j, rfl, q.here x (.int _)⟩
def gInt : GC
  | [.int i], _ => some (.int i)
  | [.bl k], _ => some (.int (if k then 1 else 0))
  | _, _ => none
theorem rc_int : RC K (fun xs H Q => (∃ i, xs = [.int i] ∧ Q (.int i) H) ∨ ∃ k, xs = [.bl k] ∧ Q (.int (if k then 1 else 0)) H) gInt := fun xs ds s d e R σ H N O x rs Q q => by
  match ds, e with
  | [.int i], e =>
    cases e
    obtain ⟨v, rfl, rv⟩ := rs.one_
    cases rv
    exact .inl ⟨i, rfl, q.here x (.int _)⟩
  | [.bl k], e =>
    cases e
    obtain ⟨v, rfl, rv⟩ := rs.one_
    cases rv
    exact .inr ⟨k, rfl, q.here x (.int _)⟩
def gTuple : GC
  | [d], ws => (seqD ws d).map .tup
  | _, _ => none
theorem rc_tuple : RC K (fun xs H Q => ∃ p ys, xs = [.ref p] ∧ ((SqL K H p ys ∧ ∀ l, H l = none → Q (.ref l) (upd H l (.tup ys))) ∨ (SqT K H p ys ∧ Q (.ref p) H))) gTuple := fun xs ds s d e R σ H N O x rs Q q => by
  match ds, e with
  | [a], e =>
    obtain ⟨v, rfl, rv⟩ := rs.one_
    have main : ∀ es, seqD s.ws a = some es → (∀ zs, a ≠ .tup zs) → d = .tup es → ∃ p ys, [v] = [V.ref p] ∧ ((SqL K H p ys ∧ ∀ l, H l = none → Q (.ref l) (upd H l (.tup ys))) ∨ (SqT K H p ys ∧ Q (.ref p) H)) := by
      rintro es h1 h2 rfl
      cases a with
      | tup zs => exact absurd rfl (h2 zs)
      | lst zs =>
        cases h1
        obtain ⟨p, ys, rfl, hy, ry⟩ := rv.lst_
        exact ⟨p, ys, rfl, .inl ⟨same_l x.good.ex hy, fun l hl => q.tup x hl ry⟩⟩
      | loc i =>
        simp only [seqD] at h1
        cases e3 : s.ws[i]? with
        | none => rw [e3] at h1; cases h1
        | some o =>
          rw [e3] at h1
          cases o with
          | lst zs =>
            cases h1
            cases rv with
            | loc hL =>
              obtain ⟨ys, hy, ry⟩ := x.getO e3 hL
              exact ⟨_, ys, rfl, .inl ⟨SqL.of hy, fun l hl => q.tup x hl ry⟩⟩
          | dic _ => cases h1
          | ins _ _ _ => cases h1
          | set _ => cases h1
          | keys _ => cases h1
      | non => cases h1
      | bl _ => cases h1
      | int _ => cases h1
      | str _ => cases h1
      | ty _ => cases h1
      | obj _ => cases h1
      | dic _ => cases h1
      | set _ => cases h1
      | keys _ => cases h1
      | ins _ _ => cases h1
    by_cases hz : ∃ zs, a = .tup zs
    · obtain ⟨zs, rfl⟩ := hz
      have e' : some (D.tup zs) = some d := e
      cases e'
      obtain ⟨p, ys, rfl, hy, ry⟩ := rv.tup_
      exact ⟨p, ys, rfl, .inr ⟨same_t x.good.ex hy, q.here x rv⟩⟩
    · have e' : (seqD s.ws a).map D.tup = some d := by
        cases a <;> first | exact e | exact absurd ⟨_, rfl⟩ hz
      cases e1 : seqD s.ws a with
      | none => rw [e1] at e'; cases e'
      | some es =>
        rw [e1] at e'
        cases e'
        exact main es e1 (fun zs z => hz ⟨zs, z⟩) rfl
def gListO : GO
  | [d], ws => (seqD ws d).map .lst
  | _, _ => none
theorem rco_list : RCO K (fun xs H Q => ∃ p ys, xs = [.ref p] ∧ (SqL K H p ys ∨ SqT K H p ys) ∧ ∀ l, H l = none → Q (.ref l) (upd H l (.lst ys))) gListO := fun xs ds s o e R σ H N O x rs Q q => by
  match ds, e with
  | [a], e =>
    obtain ⟨v, rfl, rv⟩ := rs.one_
    simp only [gListO] at e
    cases e1 : seqD s.ws a with
    | none => rw [e1] at e; cases e
    | some es =>
      rw [e1] at e
      cases e
      obtain ⟨p, ys, rfl, hy, ry⟩ := seqD_get e1 x rv
      refine ⟨p, ys, rfl, hy, fun l hl => ?_⟩
      obtain ⟨x2, lo⟩ := lone_new x (oo := .lst es) hl ⟨ys, upd_same, ry⟩
      exact q l _ N O (Le.refl N) x2 lo
def gAll : GC
  | [.lst ds], _ => (bls? ds).map fun bs => .bl (bs.all id)
  | _, _ => none
theorem rc_all : RC K (rAll K) gAll := fun xs ds s d e R σ H N O x rs Q q => by
  match ds, e with
  | [.lst es], e =>
    simp only [gAll] at e
    cases e1 : bls? es with
    | none => rw [e1] at e; cases e
    | some bs =>
      rw [e1] at e
      cases e
      rw [bls?_eq e1] at rs
      obtain ⟨v, rfl, rv⟩ := rs.one_
      obtain ⟨a, ys, rfl, hy, ry⟩ := rv.lst_
      have ey := ry.bls_inv
      subst ey
      exact ⟨a, bs, rfl, same_l x.good.ex hy, q.here x (.bl _)⟩
def gAny : GC
  | [.lst ds], _ => (bls? ds).map fun bs => .bl (bs.any id)
  | _, _ => none
theorem rc_any : RC K (rAny K) gAny := fun xs ds s d e R σ H N O x rs Q q => by
  match ds, e with
  | [.lst es], e =>
    simp only [gAny] at e
    cases e1 : bls? es with
    | none => rw [e1] at e; cases e
    | some bs =>
      rw [e1] at e
      cases e
      rw [bls?_eq e1] at rs
      obtain ⟨v, rfl, rv⟩ := rs.one_
      obtain ⟨a, ys, rfl, hy, ry⟩ := rv.lst_
      have ey := ry.bls_inv
      subst ey
      exact ⟨a, bs, rfl, same_l x.good.ex hy, q.here x (.bl _)⟩
def gSum : GC
  | [.lst ds], _ => (ints? ds).map fun ns => .int ns.sum
  | _, _ => none
theorem rc_sum : RC K (rSum K) gSum := fun xs ds s d e R σ H N O x rs Q q => by
  match ds, e with
  | [.lst es], e =>
    simp only [gSum] at e
    cases e1 : ints? es with
    | none => rw [e1] at e; cases e
    | some ns =>
      rw [e1] at e
      cases e
      rw [ints?_eq e1] at rs
      obtain ⟨v, rfl, rv⟩ := rs.one_
      obtain ⟨a, ys, rfl, hy, ry⟩ := rv.lst_
      have ey := ry.ints_inv
      subst ey
      exact ⟨a, ns, rfl, same_l x.good.ex hy, q.here x (.int _)⟩
def gMaxL : GC
  | [.lst ds], _ => (ints? ds).bind fun ns => ns.max?.map .int
  | _, _ => none
theorem rc_maxL : RC K (rMax K) gMaxL := fun xs ds s d e R σ H N O x rs Q q => by
  match ds, e with
  | [.lst es], e =>
    simp only [gMaxL] at e
    cases e1 : ints? es with
    | none => rw [e1] at e; cases e
    | some ns =>
      rw [e1] at e
      simp only [Option.bind_some] at e
      cases e2 : ns.max? with
      | none => rw [e2] at e; cases e
      | some m =>
        rw [e2] at e
        cases e
        rw [ints?_eq e1] at rs
        obtain ⟨v, rfl, rv⟩ := rs.one_
        obtain ⟨a, ys, rfl, hy, ry⟩ := rv.lst_
        have ey := ry.ints_inv
        subst ey
        have hm := List.max?_eq_some_iff.mp e2
        refine ⟨a, ns, rfl, same_l x.good.ex hy, List.length_pos_of_mem hm.1, fun k hk hk2 => ?_⟩
        have e : k = m := Int.le_antisymm (hm.2 k hk) (hk2 m hm.1)
        subst e
        exact q.here x (.int _)
def gMinL : GC
  | [.lst ds], _ => (ints? ds).bind fun ns => ns.min?.map .int
  | _, _ => none
theorem rc_minL : RC K (rMin K) gMinL := fun xs ds s d e R σ H N O x rs Q q => by
  match ds, e with
  | [.lst es], e =>
    simp only [gMinL] at e
    cases e1 : ints? es with
    | none => rw [e1] at e; cases e
    | some ns =>
      rw [e1] at e
      simp only [Option.bind_some] at e
      cases e2 : ns.min? with
      | none => rw [e2] at e; cases e
      | some m =>
        rw [e2] at e
        cases e
        rw [ints?_eq e1] at rs
        obtain ⟨v, rfl, rv⟩ := rs.one_
        obtain ⟨a, ys, rfl, hy, ry⟩ := rv.lst_
        have ey := ry.ints_inv
        subst ey
        have hm := List.min?_eq_some_iff.mp e2
        refine ⟨a, ns, rfl, same_l x.good.ex hy, List.length_pos_of_mem hm.1, fun k hk hk2 => ?_⟩
        have e : k = m := Int.le_antisymm (hk2 m hm.1) (hm.2 k hk)
        subst e
        exact q.here x (.int _)
end
end ML
set_option Elab.async false
set_option linter.all false
set_option maxRecDepth 100000
set_option maxHeartbeats 2000000
/-! Layer M: +, slices, in, ==, is, fields, isinstance. -/
namespace ML
open PySem L2
section
variable {X : Cx} {K : KW} {R : Sto} {σ : L2.St} {N N' N1 : Kn} {H H' : Hp} {O O' : Sto} {s s' s1 : Stt} {d : D} {Q : VK} {ta tb tc te : TE} {ma mb mc me : M D} {t u : TT} {mt mu : M Bool} {tA tB : TA} {mA mB : M (List D)} {mO : M OO}
/-- two readings of one operation -/
def r2or (r r' : R2) : R2 := fun x y H Q => r x y H Q ∨ r' x y H Q
theorem op_or2 {f : Value → Value → Sem Value} {r r' : R2} (h : OpR X f r) (h2 : OpR X f r') : OpR X f (r2or r r') := fun pins s σ H x y v u Q I rx ry w => by
  rcases w with w | w
  · exact h pins s σ H x y v u Q I rx ry w
  · exact h2 pins s σ H x y v u Q I rx ry w
/-! ### + -/
/-- lists of any standing -/
def rCatL (K : PySem.W.Frag) : R2 := fun x y H Q => ∃ a b xs ys, x = .ref a ∧ y = .ref b ∧ SqL K H a xs ∧ SqL K H b ys ∧ xs.length + ys.length ≤ sizeLine ∧ ∀ p, H p = none → Q (.ref p) (upd H p (.lst (xs ++ ys)))
theorem op_catL : OpR X (binaryOp .Add) (rCatL X.K) := by
  intro pins s σ H x y v u Q I rx ry h
  obtain ⟨l, b, xs, zs, rfl, rfl, hH, hB, hz, q⟩ := h
  cases rx
  cases ry
  obtain ⟨its, r, p1, _⟩ := I.list hH
  obtain ⟨its2, r2, p2, _⟩ := I.list hB
  obtain ⟨⟨cls, dd, data, sl⟩, ho, hc, n, hd⟩ := p1.isList
  obtain ⟨⟨cls2, dd2, data2, sl2⟩, ho2, hc2, n2, hd2⟩ := p2.isList
  simp only at hc hd hc2 hd2
  subst hc hd hc2 hd2
  have e : its.toArray ++ its2.toArray = (its ++ its2).toArray := by simp
  have hl := r.length
  have hl2 := r2.length
  refine PySem.concat_meets ⟨_, ho, rfl⟩ ⟨_, ho2, rfl⟩ PySem.noFill_list_add PySem.seq_list_add PySem.F.slot_list_add PySem.F.entry_list_add (PySem.F.args_list_add_2 _ _) (PyProof.Rows.list_addW l b its.toArray its2.toArray n n2 dd dd2 sl sl2 (by simp; omega)) ⟨ho, ho2, ?_⟩
  rw [e]
  exact ⟨.ref _, _, I.lnew (t' := s.toks) (r.append r2) (by rw [List.length_append]; omega), rfl, q _ I.fresh⟩
def gAdd : G2
  | .int i, .int j, _ => some (.int (i + j))
  | .tup xs, .tup ys, _ => if xs.length + ys.length ≤ most then some (.tup (xs ++ ys)) else none
  | .lst xs, .lst ys, _ => if xs.length + ys.length ≤ most then some (.lst (xs ++ ys)) else none
  | .str x, .str y, _ => if x.length + y.length ≤ most then some (.str (x ++ y)) else none
  | _, _, _ => none
abbrev rStrAdd : R2 := fun x y H Q => ∃ i j, x = .str i ∧ y = .str j ∧ i.length + j.length ≤ sizeLine ∧ Q (.str (i ++ j)) H
theorem op_addU : OpR X (binaryOp .Add) (r2or (rI0 fun i j => .int (i + j)) (r2or (rCatA X.K) (r2or (rCatL X.K) rStrAdd))) := op_or2 op_add (op_or2 op_catA (op_or2 op_catL op_add_str))
theorem rd_add : RD K (r2or (rI0 fun i j => .int (i + j)) (r2or (rCatA K) (r2or (rCatL K) rStrAdd))) gAdd := fun x y a b s d e R σ H N O x1 rx ry Q q => by
  unfold gAdd at e
  split at e
  · cases e; cases rx; cases ry
    exact .inl ⟨_, _, rfl, rfl, q.here x1 (.int _)⟩
  · split at e
    · rename_i hz
      cases e
      obtain ⟨a, xs, rfl, hx, r1⟩ := rx.tup_
      obtain ⟨b, ys, rfl, hy, r2⟩ := ry.tup_
      refine .inr (.inl ⟨a, b, xs, ys, rfl, rfl, same_t x1.good.ex hx, same_t x1.good.ex hy, by rw [r1.1, r2.1]; exact most_le hz, fun e => ?_, fun e1 e2 => ?_, fun e1 e2 p hp => q.tup x1 hp (r1.app r2)⟩)
      · have e0 := r1.1
        rw [e] at e0
        have := List.eq_nil_of_length_eq_zero e0.symm
        subst this
        exact q.here x1 ry
      · have e0 := r2.1
        rw [e2] at e0
        have := List.eq_nil_of_length_eq_zero e0.symm
        subst this
        rw [List.append_nil] at q
        exact q.here x1 rx
    · cases e
  · split at e
    · rename_i hz
      cases e
      obtain ⟨a, xs, rfl, hx, r1⟩ := rx.lst_
      obtain ⟨b, ys, rfl, hy, r2⟩ := ry.lst_
      exact .inr (.inr (.inl ⟨a, b, xs, ys, rfl, rfl, same_l x1.good.ex hx, same_l x1.good.ex hy, by rw [r1.1, r2.1]; exact most_le hz, fun p hp => q.lst x1 hp (r1.app r2)⟩))
    · cases e
  · split at e
    · rename_i hz
      cases e; cases rx; cases ry
      exact .inr (.inr (.inr ⟨_, _, rfl, rfl, most_le hz, q.here x1 (.str _)⟩))
    · cases e
  · cases e
/-! ### other arithmetic -/
def big : Nat := 2 ^ 4000
def fits (i : Int) : Bool := decide (i.natAbs < big)
theorem fits_of {i : Int} (h : i.natAbs < 2 ^ 1000) : fits i = true := decide_eq_true (Nat.lt_trans h (by unfold big; exact Nat.pow_lt_pow_right (by decide) (by decide)))
theorem fits_mul {i j : Int} (h : (fits i && fits j) = true) : CMulW i j := by
  rw [Bool.and_eq_true] at h
  exact wide_mul (a := 4000) (b := 4000) (of_decide_eq_true h.1) (of_decide_eq_true h.2) (by decide) (by decide) (by decide)
theorem fits_div {i j : Int} (h : (decide (0 < j) && fits j) = true) : CDivW i j := by
  rw [Bool.and_eq_true] at h
  exact wide_div (b := 4000) (of_decide_eq_true h.1) (of_decide_eq_true h.2) (by decide) (by decide)
abbrev gMul : G2 := gIC (fun i j => fits i && fits j) fun i j => i * j
abbrev gDiv : G2 := gIC (fun _ j => decide (0 < j) && fits j) fun i j => i / j
abbrev gMod : G2 := gIC (fun _ j => decide (0 < j)) fun i j => i % j
abbrev gPow : G2 := gIC (fun i j => decide (0 ≤ j) && decide (j ≤ 1000000) && decide (i.natAbs < 2 ^ 64)) fun i j => i ^ j.toNat
abbrev gSubI : G2 := gI fun i j => i - j
abbrev gLt : G2 := gB fun i j => decide (i < j)
abbrev gLe : G2 := gB fun i j => decide (i ≤ j)
abbrev gGt : G2 := gB fun i j => decide (j < i)
abbrev gGe : G2 := gB fun i j => decide (j ≤ i)
theorem rd_mul : RD K (rI CMulW fun i j => .int (i * j)) gMul := rd_I fun i j h => fits_mul h
theorem rd_div : RD K (rI CDivW fun i j => .int (i / j)) gDiv := rd_I fun i j h => fits_div h
theorem rd_mod : RD K (rI (fun _ j => 0 < j) fun i j => .int (i % j)) gMod := rd_I fun i j h => of_decide_eq_true h
theorem rd_pow : RD K (rI CPow fun i j => .int (i ^ j.toNat)) gPow := rd_I fun i j h => by
  rw [Bool.and_eq_true, Bool.and_eq_true] at h
  exact ⟨of_decide_eq_true h.1.1, of_decide_eq_true h.1.2, of_decide_eq_true h.2⟩
/-! ### slices -/
def cutD (ds : List D) (lo hi : Option Int) : List D := (ds.drop (HT.sIx ds.length 0 lo)).take (HT.sIx ds.length ds.length hi - HT.sIx ds.length 0 lo)
theorem Reps.cut {xs : List V} {ds : List D} (r : Reps K N xs ds) (lo hi : Option Int) : Reps K N (cutV xs lo hi) (cutD ds lo hi) := by
  unfold cutV cutD
  rw [r.1]
  exact (r.drop _).take _
def EvP (K : KW) (t : TO) (m : M (Option Int)) : Prop := ∀ s o s', m s = some (o, s') → ∀ R σ H N O, SR K R σ H N O s → ∀ Q : Option Int → Hp → Prop, (∀ H' N' O', Le N N' → SR K R σ H' N' O' s' → Q o H') → t σ H Q
def mNoPart : M (Option Int) := retM none
def mPart (me : M D) : M (Option Int) := bindM me fun d => bindM (liftM d.int?) fun i => retM (some i)
theorem eo_no : EvP K tNoPart mNoPart := fun s o s' e R σ H N O x Q q => by
  cases e
  exact q H N O (Le.refl N) x
theorem eo_part (h : EvE K te me) : EvP K (tPart te) (mPart me) := fun s o s' e R σ H N O x Q q => by
  obtain ⟨a, s1, e1, e⟩ := bindM_some e
  obtain ⟨i, e2, e⟩ := bindM_lift e
  cases e
  refine h s a s' e1 R σ H N O x _ fun v H1 N1 O1 l1 x1 r1 => ?_
  rw [D.int?_eq e2] at r1
  cases r1
  exact ⟨i, rfl, q H1 N1 O1 l1 x1⟩
def gSl : D → Option Int → Option Int → List OO → Option D
  | .tup ds, lo, hi, _ => some (.tup (cutD ds lo hi))
  | .lst ds, lo, hi, _ => some (.lst (cutD ds lo hi))
  | .loc i, lo, hi, ws => match ws[i]? with
    | some (.lst ds) => some (.lst (cutD ds lo hi))
    | _ => none
  | _, _, _, _ => none
def mSl (me : M D) (ml mh : M (Option Int)) : M D := bindM me fun d => bindM ml fun l => bindM mh fun h => askM (gSl d l h)
abbrev rSlU (K : PySem.W.Frag) : V → Option Int → Option Int → Hp → VK → Prop := fun x lo hi H Q => rSlA K x lo hi H Q ∨ rSlL K x lo hi H Q
theorem ee_sl {tl th : TO} {ml mh : M (Option Int)} (he : EvE K te me) (hl : EvP K tl ml) (hh : EvP K th mh) : EvE K (tSl (rSlU K) te tl th) (mSl me ml mh) := fun s d s' e R σ H N O x Q q => by
  obtain ⟨a, s1, e1, e⟩ := bindM_some e
  obtain ⟨lo, s2, e2, e⟩ := bindM_some e
  obtain ⟨hi, s3, e3, e⟩ := bindM_some e
  obtain ⟨e4, e5⟩ := askM_some e
  simp only at e4 e5
  subst e5
  refine he s a s1 e1 R σ H N O x _ fun v H1 N1 O1 l1 x1 r1 => ?_
  refine hl s1 lo s2 e2 R σ H1 N1 O1 x1 _ fun H2 N2 O2 l2 x2 => ?_
  refine hh s2 hi _ e3 R σ H2 N2 O2 x2 _ fun H3 N3 O3 l3 x3 => ?_
  have r3 := r1.mono (l2.trans l3)
  have q3 := q.le ((l1.trans l2).trans l3)
  cases a with
  | tup ds =>
    cases e4
    obtain ⟨b, xs, rfl, hx, r⟩ := r3.tup_
    refine .inl ⟨b, xs, rfl, same_t x3.good.ex hx, fun ⟨e1, e2⟩ => ?_, fun _ p hp => q3.tup x3 hp (r.cut lo hi)⟩
    have e : cutD ds lo hi = ds := by
      unfold cutD
      rw [← r.1, e1, e2, List.drop_zero, Nat.sub_zero, r.1, List.take_length]
    rw [e] at q3
    exact q3.here x3 r3
  | lst ds =>
    cases e4
    obtain ⟨b, xs, rfl, hx, r⟩ := r3.lst_
    exact .inr ⟨b, xs, rfl, same_l x3.good.ex hx, fun p hp => q3.lst x3 hp (r.cut lo hi)⟩
  | loc i =>
    simp only [gSl] at e4
    split at e4
    · rename_i hw
      cases e4
      cases r3 with
      | loc hL =>
        obtain ⟨xs, hx, r⟩ := x3.getO hw hL
        exact .inr ⟨_, xs, rfl, SqL.of hx, fun p hp => q3.lst x3 hp (r.cut lo hi)⟩
    · cases e4
  | non => cases e4
  | bl _ => cases e4
  | int _ => cases e4
  | str _ => cases e4
  | ty _ => cases e4
  | obj _ => cases e4
  | dic _ => cases e4
  | set _ => cases e4
  | keys _ => cases e4
  | ins _ _ => cases e4
def gRev : D → Option D
  | .lst ds => some (.lst ds.reverse)
  | _ => none
theorem ee_rev (he : EvE K te me) : EvE K (tRevL K te) (mUn gRev me) := fun s d s' e R σ H N O x Q q => by
  obtain ⟨a, s1, e1, e⟩ := bindM_some e
  obtain ⟨e4, e5⟩ := liftM_some e
  simp only at e4 e5
  subst e5
  refine he s a _ e1 R σ H N O x _ fun v H1 N1 O1 l1 x1 r1 => ?_
  unfold gRev at e4
  split at e4
  · cases e4
    obtain ⟨b, xs, rfl, hx, r⟩ := r1.lst_
    exact ⟨b, xs, rfl, same_l x1.good.ex hx, fun p hp => (q.le l1).lst x1 hp r.rev⟩
  · cases e4
/-! ### ==, != of data -/
mutual
def D.py : D → Option PyData
  | .non => some .none
  | .bl b => some (.bool b)
  | .int i => some (.int i)
  | .str x => some (.str x)
  | .tup ds => (pys ds).map .tuple
  | .lst ds => (pys ds).map .list
  | _ => none
def pys : List D → Option (List PyData)
  | [] => some []
  | d :: ds => match D.py d, pys ds with
    | some x, some xs => some (x :: xs)
    | _, _ => none
end
theorem dp_of {h : Hp} (hs : Same N.h h) {v : V} {d : D} (r : Rep K N v d) : ∀ {p : PyData}, d.py = some p → Dp K h v p := by
  have lists : ∀ (ds : List D) (xs : List V) (ps : List PyData), xs.length = ds.length → (∀ (i : Nat) (x : V) (d : D), xs[i]? = some x → ds[i]? = some d → ∀ {p : PyData}, d.py = some p → Dp K h x p) → pys ds = some ps → DpAll K h xs ps := by
    intro ds
    induction ds with
    | nil =>
      intro xs ps hl _ e
      have := List.eq_nil_of_length_eq_zero hl
      subst this
      simp [pys] at e
      subst e
      exact .nil
    | cons d ds ih =>
      intro xs ps hl hi e
      cases xs with
      | nil => simp at hl
      | cons x xs =>
        unfold pys at e
        cases e1 : d.py with
        | none => rw [e1] at e; cases e
        | some p =>
          cases e2 : pys ds with
          | none => rw [e1, e2] at e; cases e
          | some qs =>
            rw [e1, e2] at e
            cases e
            exact .cons (hi 0 x d rfl rfl e1) (ih xs qs (by simpa using hl) (fun i y d h1 h2 => hi (i + 1) y d (by simpa using h1) (by simpa using h2)) e2)
  induction r with
  | non => intro p e; simp [D.py] at e; subst e; exact .non
  | bl b => intro p e; simp [D.py] at e; subst e; exact .bl b
  | int i => intro p e; simp [D.py] at e; subst e; exact .int i
  | str i => intro p e; simp [D.py] at e; subst e; exact .str i
  | ty n => intro p e; simp [D.py] at e
  | obj a => intro p e; simp [D.py] at e
  | dic _ _ _ => intro p e; simp [D.py] at e
  | set _ _ _ => intro p e; simp [D.py] at e
  | ins _ _ _ => intro p e; simp [D.py] at e
  | loc _ => intro p e; simp [D.py] at e
  | keys _ _ _ _ _ => intro p e; simp [D.py] at e
  | @tup a xs ds hq hl _ ih =>
    intro p e
    simp only [D.py] at e
    cases e2 : pys ds with
    | none => rw [e2] at e; cases e
    | some ps =>
      rw [e2] at e
      cases e
      exact .tup (same_t hs hq) (lists ds xs ps hl (fun i x d h1 h2 _ e => ih i x d h1 h2 e) e2)
  | @lst a xs ds hq hl _ ih =>
    intro p e
    simp only [D.py] at e
    cases e2 : pys ds with
    | none => rw [e2] at e; cases e
    | some ps =>
      rw [e2] at e
      cases e
      exact .lst (same_l hs hq) (lists ds xs ps hl (fun i x d h1 h2 _ e => ih i x d h1 h2 e) e2)
/-- shared lists as they stand -/
def D.now (ws : List OO) : D → D
  | .loc i => match ws[i]? with
    | some (.lst ds) => .lst ds
    | _ => .loc i
  | d => d
theorem dp_now {v : V} {a : D} {p : PyData} (x : SR K R σ H N O s) (r : Rep K N v a) (h : (a.now s.ws).py = some p) : Dp K H v p := by
  cases a with
  | loc i =>
    simp only [D.now] at h
    split at h
    · rename_i ds hw
      simp only [D.py] at h
      cases e2 : pys ds with
      | none => rw [e2] at h; cases h
      | some ps =>
        rw [e2] at h
        cases h
        cases r with
        | loc hL =>
          obtain ⟨xs, hx, r⟩ := x.getO hw hL
          refine .lst (SqL.of hx) ?_
          clear hx hw
          induction ds generalizing xs ps with
          | nil =>
            have := List.eq_nil_of_length_eq_zero r.1
            subst this
            simp [pys] at e2
            subst e2
            exact .nil
          | cons d ds ih =>
            obtain ⟨y, ys, rfl, r1, r2⟩ := r.cons_
            unfold pys at e2
            cases e1 : d.py with
            | none => rw [e1] at e2; cases e2
            | some p =>
              cases e3 : pys ds with
              | none => rw [e1, e3] at e2; cases e2
              | some qs =>
                rw [e1, e3] at e2
                cases e2
                exact .cons (dp_of x.good.ex r1 e1) (ih _ e3 _ r2)
    · simp [D.py] at h
  | _ => exact dp_of x.good.ex r h
def pyEq (a b : D) : Option Bool := match a.py, b.py with
  | some p, some q => if (SeqAt.shaped p && SeqAt.shaped q) = true then some (PyData.eqv p q) else none
  | _, _ => none
/-- == on data -/
def D.eq : D → D → Option Bool
  | .int i, .int j => some (i == j)
  | .non, .non => some true
  | .non, .int _ => some false
  | .int _, .non => some false
  | .non, .tup _ => none
  | .bl a, .bl b => some (a == b)
  | a, b => pyEq a b
theorem eq_dp {v w : V} {a b : D} {c : Bool} (x : SR K R σ H N O s) (ra : Rep K N v a) (rb : Rep K N w b) (h : D.eq (a.now s.ws) (b.now s.ws) = some c) : ∃ p q, Dp K H v p ∧ Dp K H w q ∧ SeqAt.shaped p = true ∧ SeqAt.shaped q = true ∧ PyData.eqv p q = c := by
  have main : ∀ p q, (a.now s.ws).py = some p → (b.now s.ws).py = some q → SeqAt.shaped p = true → SeqAt.shaped q = true → PyData.eqv p q = c → ∃ p q, Dp K H v p ∧ Dp K H w q ∧ SeqAt.shaped p = true ∧ SeqAt.shaped q = true ∧ PyData.eqv p q = c := fun p q h1 h2 h3 h4 h5 => ⟨p, q, dp_now x ra h1, dp_now x rb h2, h3, h4, h5⟩
  unfold D.eq at h
  split at h
  · rename_i h1 h2
    cases h
    exact main _ _ (by rw [h1]; rfl) (by rw [h2]; rfl) rfl rfl rfl
  · rename_i h1 h2
    cases h
    exact main _ _ (by rw [h1]; rfl) (by rw [h2]; rfl) rfl rfl rfl
  · rename_i h1 h2
    cases h
    exact main _ _ (by rw [h1]; rfl) (by rw [h2]; rfl) rfl rfl rfl
  · rename_i h1 h2
    cases h
    exact main _ _ (by rw [h1]; rfl) (by rw [h2]; rfl) rfl rfl rfl
  · cases h
  · rename_i h1 h2
    cases h
    exact main _ _ (by rw [h1]; rfl) (by rw [h2]; rfl) rfl rfl rfl
  · unfold pyEq at h
    split at h
    · rename_i p q h1 h2
      split at h
      · rename_i hs
        rw [Bool.and_eq_true] at hs
        cases h
        exact main p q h1 h2 hs.1 hs.2 rfl
      · cases h
    · cases h
def gEq : G2 := fun a b ws => (D.eq (a.now ws) (b.now ws)).map .bl
def gNe : G2 := fun a b ws => (D.eq (a.now ws) (b.now ws)).map fun c => .bl (!c)
theorem rd_eq : RD K (rEqD K) gEq := fun x y a b s d e R σ H N O x1 rx ry Q q => by
  unfold gEq at e
  cases h : D.eq (a.now s.ws) (b.now s.ws) with
  | none => rw [h] at e; cases e
  | some c =>
    rw [h] at e
    cases e
    obtain ⟨p, p2, h1, h2, h3, h4, h5⟩ := eq_dp x1 rx ry h
    exact ⟨p, p2, h1, h2, h3, h4, by rw [h5]; exact q.here x1 (.bl _)⟩
theorem rd_ne : RD K (rNeD K) gNe := fun x y a b s d e R σ H N O x1 rx ry Q q => by
  unfold gNe at e
  cases h : D.eq (a.now s.ws) (b.now s.ws) with
  | none => rw [h] at e; cases e
  | some c =>
    rw [h] at e
    cases e
    obtain ⟨p, p2, h1, h2, h3, h4, h5⟩ := eq_dp x1 rx ry h
    exact ⟨p, p2, h1, h2, h3, h4, by rw [h5]; exact q.here x1 (.bl _)⟩
/-! ### is -/
def D.isN : D → Bool
  | .non => true
  | _ => false
theorem Rep.isN {v : V} (r : Rep K N v d) : decide (v = .non) = d.isN := by cases r <;> simp [D.isN]
abbrev rIsN : R2 := fun x y H Q => y = .non ∧ Q (.bl (decide (x = .non))) H
abbrev rNotN : R2 := fun x y H Q => y = .non ∧ Q (.bl (!decide (x = .non))) H
def gIs : G2
  | a, .non, _ => some (.bl a.isN)
  | .bl a, .bl b, _ => some (.bl (decide (a = b)))
  | _, _, _ => none
def gIsNot : G2
  | a, .non, _ => some (.bl (!a.isN))
  | _, _, _ => none
theorem op_isU : OpR X (compareOp .Is) (r2or rIsN rIsB) := op_or2 op_isN op_isBl
theorem rd_is : RD K (r2or rIsN rIsB) gIs := fun x y a b s d e R σ H N O x1 rx ry Q q => by
  unfold gIs at e
  split at e
  · cases e; cases ry
    refine .inl ⟨rfl, ?_⟩
    rw [rx.isN]
    exact q.here x1 (.bl _)
  · cases e; cases rx; cases ry
    exact .inr ⟨_, _, rfl, rfl, q.here x1 (.bl _)⟩
  · cases e
theorem rd_isNot : RD K rNotN gIsNot := fun x y a b s d e R σ H N O x1 rx ry Q q => by
  unfold gIsNot at e
  split at e
  · cases e; cases ry
    refine ⟨rfl, ?_⟩
    rw [rx.isN]
    exact q.here x1 (.bl _)
  · cases e
end
end ML
set_option Elab.async false
set_option linter.all false
set_option maxRecDepth 100000
set_option maxHeartbeats 2000000
/-! Layer M: in, fields, isinstance. -/
namespace ML
open PySem L2
section
variable {X : Cx} {K : KW} {R : Sto} {σ : L2.St} {N N' N1 : Kn} {H H' : Hp} {O O' : Sto} {s s' s1 : Stt} {d : D} {Q : VK} {ta tb tc te : TE} {ma mb mc me : M D} {t u : TT} {mt mu : M Bool} {tA tB : TA} {mA mB : M (List D)} {mO : M OO}
/-! ### in -/
def D.fv : D → Option V
  | .non => some .non
  | .bl b => some (.bl b)
  | .int i => some (.int i)
  | .str x => some (.str x)
  | _ => none
def fvs : List D → Option (List V)
  | [] => some []
  | d :: ds => match d.fv, fvs ds with
    | some v, some vs => some (v :: vs)
    | _, _ => none
theorem Rep.fv {v w : V} (r : Rep K N v d) (h : d.fv = some w) : v = w ∧ flatV w = true := by
  cases r <;> simp [D.fv] at h <;> subst h <;> exact ⟨rfl, rfl⟩
theorem Reps.fvs : ∀ {ds : List D} {xs ws : List V}, Reps K N xs ds → ML.fvs ds = some ws → xs = ws ∧ ws.all flatV = true
  | [], xs, ws, r, h => by
    simp [ML.fvs] at h
    subst h
    exact ⟨r.nil_, rfl⟩
  | d :: ds, xs, ws, r, h => by
    obtain ⟨x, ys, rfl, r1, r2⟩ := r.cons_
    unfold ML.fvs at h
    cases e1 : d.fv with
    | none => rw [e1] at h; cases h
    | some v =>
      cases e2 : ML.fvs ds with
      | none => rw [e1, e2] at h; cases h
      | some vs =>
        rw [e1, e2] at h
        cases h
        obtain ⟨rfl, f1⟩ := r1.fv e1
        obtain ⟨rfl, f2⟩ := Reps.fvs r2 e2
        exact ⟨rfl, by rw [List.all_cons, f1, f2]; rfl⟩
def inD (x : D) (ds : List D) : Option Bool := match x.fv, fvs ds with
  | some v, some vs => some (inV v vs)
  | _, _ => none
/-- lists of deep data -/
def inPy (x y : D) : Option Bool := match x.py, y.py with
  | some p, some (.list ps) => if (SeqAt.shaped p && SeqAt.shaped (.list ps)) = true then some (ps.any fun z => PyData.eqv z p) else none
  | _, _ => none
def gInB (a b : D) (ws : List OO) : Option Bool := match seqD ws b with
  | some ds => (inD a ds).or (inPy a (b.now ws))
  | none => (dicD ws b).bind fun kvs => a.key.map fun k => (getD kvs k).isSome
theorem in_ok {v w : V} {a b : D} {c : Bool} (x : SR K R σ H N O s) (ra : Rep K N v a) (rb : Rep K N w b) {ds : List D} (h : seqD s.ws b = some ds) (e : (inD a ds).or (inPy a (b.now s.ws)) = some c) :
    (∃ p xs, w = .ref p ∧ (SqL K H p xs ∨ SqT K H p xs) ∧ flatV v = true ∧ xs.all flatV = true ∧ inV v xs = c) ∨
    ∃ p ps, Dp K H v p ∧ Dp K H w (.list ps) ∧ SeqAt.shaped p = true ∧ SeqAt.shaped (.list ps) = true ∧ (ps.any fun z => PyData.eqv z p) = c := by
  cases e1 : inD a ds with
  | some c' =>
    rw [e1] at e
    simp at e
    subst e
    left
    unfold inD at e1
    split at e1
    · rename_i u us h1 h2
      cases e1
      obtain ⟨rfl, f1⟩ := ra.fv h1
      obtain ⟨p, xs, rfl, hx, rs⟩ := seqD_get h x rb
      obtain ⟨rfl, f2⟩ := rs.fvs h2
      exact ⟨p, xs, rfl, hx, f1, f2, rfl⟩
    · cases e1
  | none =>
    rw [e1] at e
    simp at e
    right
    unfold inPy at e
    split at e
    · rename_i p ps h1 h2
      split at e
      · rename_i hs
        rw [Bool.and_eq_true] at hs
        cases e
        exact ⟨p, ps, dp_of x.good.ex ra h1, dp_now x rb h2, hs.1, hs.2, rfl⟩
      · cases e
    · cases e
def mIn (ma mb : M D) : M D := mOp (fun a b ws => (gInB a b ws).map .bl) ma mb
def mNotIn (ma mb : M D) : M D := mOp (fun a b ws => (gInB a b ws).map fun c => .bl (!c)) ma mb
abbrev tInU (K : PySem.W.Frag) (ta tb : TE) : TE := tOr2 (tOp (r2or (rIn K false) (rInD K)) ta tb) (tDIn ta tb)
abbrev tNotInU (K : PySem.W.Frag) (ta tb : TE) : TE := tOr2 (tOp (r2or (rIn K true) (rNotInD K)) ta tb) (tDNotIn ta tb)
theorem ee_in (ha : EvE K ta ma) (hb : EvE K tb mb) : EvE K (tInU K ta tb) (mIn ma mb) := fun s d s' e R σ H N O x Q q => by
  obtain ⟨a, s1, e1, e⟩ := bindM_some e
  obtain ⟨b, s2, e2, e⟩ := bindM_some e
  obtain ⟨e3, e4⟩ := askM_some e
  simp only at e3 e4
  subst e4
  cases hg : gInB a b s'.ws with
  | none => rw [hg] at e3; cases e3
  | some c =>
    rw [hg] at e3
    cases e3
    unfold gInB at hg
    cases h : seqD s'.ws b with
    | some ds =>
      rw [h] at hg
      left
      refine ha s a s1 e1 R σ H N O x _ fun v H1 N1 O1 l1 x1 r1 => ?_
      refine hb s1 b _ e2 R σ H1 N1 O1 x1 _ fun w H2 N2 O2 l2 x2 r2 => ?_
      rcases in_ok x2 (r1.mono l2) r2 h hg with ⟨p, xs, h1, h2, h3, h4, h5⟩ | ⟨p, ps, h1, h2, h3, h4, h5⟩
      · exact .inl ⟨p, xs, h1, h2, h3, h4, by rw [if_neg Bool.false_ne_true, h5]; exact (q.le (l1.trans l2)).here x2 (.bl _)⟩
      · exact .inr ⟨p, ps, h1, h2, h3, h4, by rw [h5]; exact (q.le (l1.trans l2)).here x2 (.bl _)⟩
    | none =>
      rw [h] at hg
      right
      refine ha s a s1 e1 R σ H N O x _ fun v H1 N1 O1 l1 x1 r1 => ?_
      refine hb s1 b _ e2 R σ H1 N1 O1 x1 _ fun w H2 N2 O2 l2 x2 r2 => ?_
      cases e3 : dicD s'.ws b with
      | none => rw [e3] at hg; cases hg
      | some kvs =>
        cases e4 : a.key with
        | none => rw [e3, e4] at hg; cases hg
        | some k =>
          rw [e3, e4] at hg
          have ey := rep_key e4 (r1.mono l2)
          subst ey
          obtain ⟨p, es, rfl, he, ok⟩ := dicD_get e3 x2 r2
          refine ⟨p, _, rfl, .inl ⟨es, k, he, rfl, rfl⟩, ?_⟩
          have e5 : (valV es k).isSome = (getD kvs k).isSome := by
            cases hg2 : getD kvs k with
            | none => rw [(get_ok ok (k := k)).2 hg2]; rfl
            | some d => obtain ⟨z, hz, _⟩ := (get_ok ok (k := k)).1 d hg2; rw [hz]; rfl
          have e6 : (getD kvs k).isSome = c := by simpa using hg
          rw [e5, e6]
          exact (q.le (l1.trans l2)).here x2 (.bl _)
theorem ee_notIn (ha : EvE K ta ma) (hb : EvE K tb mb) : EvE K (tNotInU K ta tb) (mNotIn ma mb) := fun s d s' e R σ H N O x Q q => by
  obtain ⟨a, s1, e1, e⟩ := bindM_some e
  obtain ⟨b, s2, e2, e⟩ := bindM_some e
  obtain ⟨e3, e4⟩ := askM_some e
  simp only at e3 e4
  subst e4
  cases hg : gInB a b s'.ws with
  | none => rw [hg] at e3; cases e3
  | some c =>
    rw [hg] at e3
    cases e3
    unfold gInB at hg
    cases h : seqD s'.ws b with
    | some ds =>
      rw [h] at hg
      left
      refine ha s a s1 e1 R σ H N O x _ fun v H1 N1 O1 l1 x1 r1 => ?_
      refine hb s1 b _ e2 R σ H1 N1 O1 x1 _ fun w H2 N2 O2 l2 x2 r2 => ?_
      rcases in_ok x2 (r1.mono l2) r2 h hg with ⟨p, xs, h1, h2, h3, h4, h5⟩ | ⟨p, ps, h1, h2, h3, h4, h5⟩
      · exact .inl ⟨p, xs, h1, h2, h3, h4, by rw [if_pos rfl, h5]; exact (q.le (l1.trans l2)).here x2 (.bl _)⟩
      · exact .inr ⟨p, ps, h1, h2, h3, h4, by rw [h5]; exact (q.le (l1.trans l2)).here x2 (.bl _)⟩
    | none =>
      rw [h] at hg
      right
      refine ha s a s1 e1 R σ H N O x _ fun v H1 N1 O1 l1 x1 r1 => ?_
      refine hb s1 b _ e2 R σ H1 N1 O1 x1 _ fun w H2 N2 O2 l2 x2 r2 => ?_
      cases e3 : dicD s'.ws b with
      | none => rw [e3] at hg; cases hg
      | some kvs =>
        cases e4 : a.key with
        | none => rw [e3, e4] at hg; cases hg
        | some k =>
          rw [e3, e4] at hg
          have ey := rep_key e4 (r1.mono l2)
          subst ey
          obtain ⟨p, es, rfl, he, ok⟩ := dicD_get e3 x2 r2
          refine ⟨p, _, rfl, .inl ⟨es, k, he, rfl, rfl⟩, ?_⟩
          have e5 : (valV es k).isSome = (getD kvs k).isSome := by
            cases hg2 : getD kvs k with
            | none => rw [(get_ok ok (k := k)).2 hg2]; rfl
            | some d => obtain ⟨z, hz, _⟩ := (get_ok ok (k := k)).1 d hg2; rw [hz]; rfl
          have e6 : (getD kvs k).isSome = c := by simpa using hg
          rw [e5, e6]
          exact (q.le (l1.trans l2)).here x2 (.bl _)
/-! ### fields -/
theorem lookup_of {fs : List (Str × V)} {gs : List (Str × D)} (h : FsOk K N fs gs) {f : Str} (hl : gs.lookup f = some d) : ∃ v, fs.lookup f = some v ∧ Rep K N v d := by
  obtain ⟨hk, hi⟩ := h
  induction fs generalizing gs with
  | nil => cases gs with
    | nil => cases hl
    | cons q gs => simp at hk
  | cons p fs ih =>
    cases gs with
    | nil => simp at hk
    | cons q gs =>
      obtain ⟨pn, pv⟩ := p
      obtain ⟨qn, qd⟩ := q
      simp only [List.map_cons, List.cons.injEq] at hk
      obtain ⟨e, hk⟩ := hk
      subst e
      rw [List.lookup_cons] at hl ⊢
      cases e : (f == pn) with
      | true =>
        rw [e] at hl
        cases hl
        exact ⟨pv, rfl, hi 0 _ _ rfl rfl⟩
      | false =>
        rw [e] at hl
        exact ih hl hk (fun i p q h1 h2 => hi (i + 1) p q (by simpa using h1) (by simpa using h2))
/-- the class and the attributes of an instance -/
def insD (ws : List OO) : D → Option (Addr × List (Str × D))
  | .ins C gs => some (C, gs)
  | .loc i => match ws[i]? with
    | some (.ins C _ gs) => some (C, gs)
    | _ => none
  | _ => none
def gFld (C0 : Addr) (f : Str) (ws : List OO) (a : D) : Option D := match insD ws a with
  | some (C, gs) => if C = C0 then gs.lookup f else none
  | none => none
def mFld (C0 : Addr) (f : Str) (me : M D) : M D := bindM me fun a => askM fun ws => gFld C0 f ws a
theorem ee_fld {C0 : Addr} {f : Str} (h : EvE K te me) (c : Cls K C0) (n : NoAttr K C0 f) : EvE K (tFld K te f) (mFld C0 f me) := fun s d s' e R σ H N O x Q q => by
  obtain ⟨a, s1, e1, e⟩ := bindM_some e
  obtain ⟨e3, e4⟩ := askM_some e
  simp only at e3 e4
  subst e4
  refine h s a _ e1 R σ H N O x _ fun v H1 N1 O1 l1 x1 r1 => ?_
  unfold gFld at e3
  split at e3
  · rename_i C gs hi
    split at e3
    · rename_i hC
      subst hC
      cases a with
      | ins C' gs' =>
        cases hi
        cases r1 with
        | ins h hk hi =>
          obtain ⟨w, hw, rw'⟩ := lookup_of ⟨hk, hi⟩ e3
          exact ⟨_, _, _, _, w, rfl, x1.good.ex _ _ h, c, n, hw, (q.le l1).here x1 rw'⟩
      | loc i =>
        simp only [insD] at hi
        split at hi
        · rename_i hws
          cases hi
          cases r1 with
          | loc hL =>
            obtain ⟨dx, fs, hx, ok⟩ := x1.getO hws hL
            obtain ⟨w, hw, rw'⟩ := lookup_of ok e3
            exact ⟨_, _, _, _, w, rfl, hx, c, n, hw, (q.le l1).here x1 rw'⟩
        · cases hi
      | _ => cases hi
    · cases e3
  · cases e3
/-! ### isinstance -/
def D.tyn (ws : List OO) : D → Option String
  | .non => some "NoneType"
  | .bl _ => some "bool"
  | .int _ => some "int"
  | .str _ => some "str"
  | .tup _ => some "tuple"
  | .lst _ => some "list"
  | .dic _ => some "dict"
  | .loc i => match ws[i]? with
    | some (.lst _) => some "list"
    | some (.dic _) => some "dict"
    | _ => none
  | _ => none
def kinds : List String := ["int", "bool", "str", "list", "tuple", "dict"]
def tyns : List String := ["NoneType", "bool", "int", "str", "tuple", "list", "dict"]
def isTy (t c : String) : Bool := t == c || (t == "bool" && c == "int")
theorem kit_all : ∀ t ∈ tyns, ∀ c ∈ kinds, kitB t c = some (isTy t c) := by decide +kernel
theorem tyn_mem {ws : List OO} {n : String} (h : d.tyn ws = some n) : n ∈ tyns := by
  unfold D.tyn at h
  split at h <;> first | (cases h; decide) | (split at h <;> cases h <;> decide) | cases h
theorem tyn_ok {v : V} {n : String} (x : SR K R σ H N O s) (r : Rep K N v d) (h : d.tyn s.ws = some n) : TyX K H v (.type n) := by
  cases d with
  | non => cases r; cases h; exact .base .non
  | bl b => cases r; cases h; exact .base (.bl b)
  | int b => cases r; cases h; exact .base (.int b)
  | str b => cases r; cases h; exact .base (.str b)
  | tup ds =>
    cases h
    obtain ⟨a, xs, rfl, hx, _⟩ := r.tup_
    rcases same_t x.good.ex hx with (hx | ⟨o, hx⟩) | ⟨o, its, n, hk, hc, _⟩
    · exact .base (.tup hx)
    · exact .fTuple hx
    · exact .kTuple hk hc
  | lst ds =>
    cases h
    obtain ⟨a, xs, rfl, hx, _⟩ := r.lst_
    rcases same_l x.good.ex hx with (hx | ⟨o, hx⟩) | ⟨o, its, n, hk, hc, _⟩
    · exact .base (.lst hx)
    · exact .base (.frz hx)
    · exact .kList hk hc
  | dic kvs =>
    cases h
    cases r with
    | dic hx _ _ =>
      rcases same_rd x.good.ex hx with hx | ⟨o, hx⟩
      · exact .base (.dK hx)
      · exact .fDict hx
  | loc i =>
    simp only [D.tyn] at h
    cases hw : s.ws[i]? with
    | none => rw [hw] at h; cases h
    | some o =>
      rw [hw] at h
      cases r with
      | loc hL =>
        cases o with
        | lst ds =>
          cases h
          obtain ⟨xs, hx, _⟩ := x.getO hw hL
          exact .base (.lst hx)
        | dic ds =>
          cases h
          obtain ⟨xs, hx, _⟩ := x.getO hw hL
          exact .base (.dK hx)
        | ins C y gs => cases h
        | set _ => cases h
        | keys _ => cases h
  | ty _ => cases h
  | obj _ => cases h
  | set _ => cases h
  | keys _ => cases h
  | ins _ _ => cases h
def mIsi (cs : List String) (me : M D) : M D := bindM me fun a => askM fun ws => (a.tyn ws).map fun n => .bl (cs.any (isTy n))
theorem ee_isi {c : String} (h : EvE K te me) (hc : c ∈ kinds) : EvE K (tCB (rIsi K) (tCons te (tCons (tC (.ty c)) tNil))) (mIsi [c] me) := fun s d s' e R σ H N O x Q q => by
  obtain ⟨a, s1, e1, e⟩ := bindM_some e
  obtain ⟨e3, e4⟩ := askM_some e
  simp only at e3 e4
  subst e4
  cases e5 : a.tyn s'.ws with
  | none => rw [e5] at e3; cases e3
  | some n =>
    rw [e5] at e3
    cases e3
    refine h s a _ e1 R σ H N O x _ fun v H1 N1 O1 l1 x1 r1 => ?_
    refine ⟨v, _, _, .type c, isTy n c, rfl, .ty c, tyn_ok x1 r1 e5, kit_ty (kit_all n (tyn_mem e5) c hc), ?_⟩
    have := (q.le l1).here x1 (.bl _)
    simpa using this
theorem clsv_tys : ∀ cs : List String, Paired ClsV (cs.map V.ty) (cs.map Value.type)
  | [] => .nil
  | c :: cs => .cons (.ty c) (clsv_tys cs)
/-- a display of classes -/
def tTys : List String → TA
  | [] => tNil
  | c :: cs => tCons (tC (.ty c)) (tTys cs)
theorem tTys_run : ∀ {cs : List String} {σ : L2.St} {H : Hp} {Q : List V → Hp → Prop}, Q (cs.map V.ty) H → tTys cs σ H Q
  | [], _, _, _, h => h
  | c :: cs, _, _, Q, h => tTys_run (cs := cs) h
theorem kits {n : String} (hn : n ∈ tyns) : ∀ {cs : List String}, (∀ c ∈ cs, c ∈ kinds) → PySem.W.kitAny K (.type n) (cs.map Value.type) = some (cs.any (isTy n))
  | [], _ => rfl
  | c :: cs, h => by
    refine kitAny_cons (b := isTy n c) (kit_ty (kit_all n hn c (h c (List.mem_cons_self ..)))) (fun e => ?_) fun e => ?_
    · rw [kits hn fun c hc => h c (List.mem_cons_of_mem _ hc), List.any_cons, e]; rfl
    · rw [List.any_cons, e]; rfl
theorem ee_isiT {cs : List String} (h : EvE K te me) (hc : ∀ c ∈ cs, c ∈ kinds) (hz : cs.length ≤ most) : EvE K (tCB (rIsiT K) (tCons te (tCons (tTup (tTys cs)) tNil))) (mIsi cs me) := fun s d s' e R σ H N O x Q q => by
  obtain ⟨a, s1, e1, e⟩ := bindM_some e
  obtain ⟨e3, e4⟩ := askM_some e
  simp only at e3 e4
  subst e4
  cases e5 : a.tyn s'.ws with
  | none => rw [e5] at e3; cases e3
  | some n =>
    rw [e5] at e3
    cases e3
    refine h s a _ e1 R σ H N O x _ fun v H1 N1 O1 l1 x1 r1 => ?_
    refine tTys_run ⟨by rw [List.length_map]; exact most_le hz, fun p hp => ?_⟩
    have x2 := x1.skip (o := .tup (cs.map V.ty)) hp
    refine ⟨v, p, cs.map V.ty, _, cs.map Value.type, _, rfl, upd_same, ?_, tyn_ok x2 r1 e5, kits (tyn_mem e5) hc, (q.le l1).here x2 (.bl _)⟩
    exact clsv_tys cs
/-- what isinstance asks of an own class -/
structure ClF (K : PySem.W.Frag) (C : Addr) : Prop where
  cl : Cls K C
  ha : PySem.W.findIn K (.ref C) "__class__" = some (some (.builtin "object.__class__"))
  hn : PySem.W.specialIn K (.builtin "object.__class__") "__get__" = some (some (.builtin "getset_descriptor.__get__"))
  htk : PySem.W.takesIn K (.builtin "object.__class__") = some true
  hm : PySem.W.mroIn K C (.type "object") = some true
def mIsiC (C0 : Addr) (me : M D) : M D := bindM me fun a => askM fun ws => match insD ws a with
  | some (C, _) => if C = C0 then some (.bl true) else none
  | none => none
theorem ee_isiC {C0 : Addr} (h : EvE K te me) (c : ClF K C0) : EvE K (tCB (rIsi K) (tCons te (tCons (tC (.ref C0)) tNil))) (mIsiC C0 me) := fun s d s' e R σ H N O x Q q => by
  obtain ⟨a, s1, e1, e⟩ := bindM_some e
  obtain ⟨e3, e4⟩ := askM_some e
  simp only at e3 e4
  subst e4
  refine h s a _ e1 R σ H N O x _ fun v H1 N1 O1 l1 x1 r1 => ?_
  have main : ∀ (b : Addr) dx fs, H1 b = some (.ins C0 dx fs) → v = .ref b → d = .bl true → rIsi K [v, .ref C0] H1 Q := by
    rintro b dx fs hb rfl rfl
    refine ⟨_, _, _, .ref C0, true, rfl, .own C0, .base (.ins hb c.cl c.ha c.hn c.htk c.hm), ?_, (q.le l1).here x1 (.bl _)⟩
    unfold PySem.W.kitOne
    rw [if_pos (by simp)]
  split at e3
  · rename_i C gs hi
    split at e3
    · rename_i hC
      subst hC
      cases e3
      cases a with
      | ins C' gs' =>
        cases hi
        cases r1 with
        | ins h hk hi => exact main _ _ _ (x1.good.ex _ _ h) rfl rfl
      | loc i =>
        simp only [insD] at hi
        split at hi
        · rename_i hws
          cases hi
          cases r1 with
          | loc hL =>
            obtain ⟨dx, fs, hx, ok⟩ := x1.getO hws hL
            exact main _ _ _ hx rfl rfl
        · cases hi
      | _ => cases hi
    · cases e3
  · cases e3
end
end ML
set_option Elab.async false
set_option linter.all false
set_option maxRecDepth 100000
set_option maxHeartbeats 2000000
/-! Layer M: statements, targets, loops. -/
namespace ML
open PySem L2

inductive Fl where
  | nx | rt (d : D) | bk | ct
def GoF (K : KW) (R : Sto) (N : Kn) (s' : Stt) (E : Ends) : Fl → Prop
  | .nx => ∀ σ' H' N' O', Le N N' → SR K R σ' H' N' O' s' → E.nx σ' H'
  | .bk => ∀ σ' H' N' O', Le N N' → SR K R σ' H' N' O' s' → E.bk σ' H'
  | .ct => ∀ σ' H' N' O', Le N N' → SR K R σ' H' N' O' s' → E.ct σ' H'
  | .rt d => ∀ v σ' H' N' O', Le N N' → SR K R σ' H' N' O' s' → Rep K N' v d → E.rt v H'
def EvS (K : KW) (t : TS) (m : M Fl) : Prop := ∀ s f s', m s = some (f, s') → ∀ R σ H N O, SR K R σ H N O s → ∀ E : Ends, GoF K R N s' E f → t E σ H
section
variable {X : Cx} {K : KW} {R : Sto} {σ : L2.St} {N N' N1 : Kn} {H H' : Hp} {O O' : Sto} {s s' s1 : Stt} {d : D} {Q : VK} {ta tb tc te : TE} {ma mb mc me : M D} {t u : TS} {c : TT} {mt mu : M Bool} {tA tB : TA} {mA mB : M (List D)} {mO : M OO} {m m1 m2 : M Fl} {E : Ends}
theorem GoF.le {f : Fl} (g : GoF K R N s' E f) (l : Le N N1) : GoF K R N1 s' E f := by
  cases f with
  | nx => exact fun σ' H' N' O' l2 => g σ' H' N' O' (l.trans l2)
  | bk => exact fun σ' H' N' O' l2 => g σ' H' N' O' (l.trans l2)
  | ct => exact fun σ' H' N' O' l2 => g σ' H' N' O' (l.trans l2)
  | rt d => exact fun v σ' H' N' O' l2 => g v σ' H' N' O' (l.trans l2)
def mNext : M Fl := retM .nx
def mSeq (m1 m2 : M Fl) : M Fl := bindM m1 fun f => match f with
  | .nx => m2
  | f => retM f
theorem es_next : EvS K tNext mNext := fun s f s' e R σ H N O x E g => by
  cases e
  exact g σ H N O (Le.refl N) x
theorem es_seq (h1 : EvS K t m1) (h2 : EvS K u m2) : EvS K (tSeq t u) (mSeq m1 m2) := fun s f s' e R σ H N O x E g => by
  obtain ⟨f1, s1, e1, e⟩ := bindM_some e
  cases f1 with
  | nx => exact h1 s _ s1 e1 R σ H N O x { E with nx := u E } fun σ' H' N' O' l x' => h2 s1 f s' e R σ' H' N' O' x' E (g.le l)
  | rt d => cases e; exact h1 s _ _ e1 R σ H N O x { E with nx := u E } g
  | bk => cases e; exact h1 s _ _ e1 R σ H N O x { E with nx := u E } g
  | ct => cases e; exact h1 s _ _ e1 R σ H N O x { E with nx := u E } g
def mRet (me : M D) : M Fl := bindM me fun d => retM (.rt d)
theorem es_ret (h : EvE K te me) : EvS K (tRet te) (mRet me) := fun s f s' e R σ H N O x E g => by
  obtain ⟨a, s1, e1, e⟩ := bindM_some e
  cases e
  exact h s a _ e1 R σ H N O x _ fun v H1 N1 O1 l1 x1 r1 => g v σ H1 N1 O1 l1 x1 r1
def mRetN : M Fl := retM (.rt .non)
theorem es_retN : EvS K tRetN mRetN := fun s f s' e R σ H N O x E g => by
  cases e
  exact g .non σ H N O (Le.refl N) x .non
def mBreak : M Fl := retM .bk
def mCont : M Fl := retM .ct
theorem es_break : EvS K tBreak mBreak := fun s f s' e R σ H N O x E g => by
  cases e
  exact g σ H N O (Le.refl N) x
theorem es_cont : EvS K tCont mCont := fun s f s' e R σ H N O x E g => by
  cases e
  exact g σ H N O (Le.refl N) x
def mDrop (me : M D) : M Fl := bindM me fun _ => retM .nx
theorem es_drop (h : EvE K te me) : EvS K (tDrop te) (mDrop me) := fun s f s' e R σ H N O x E g => by
  obtain ⟨a, s1, e1, e⟩ := bindM_some e
  cases e
  exact h s a _ e1 R σ H N O x _ fun v H1 N1 O1 l1 x1 r1 => g σ H1 N1 O1 l1 x1
def mNever : M Fl := noM
theorem es_never : EvS K tNever mNever := fun s f s' e => by cases e
theorem es_ifS (h : EvT K c mt) (h1 : EvS K t m1) (h2 : EvS K u m2) : EvS K (tIfS c t u) (mIf mt m1 m2) := fun s f s' e R σ H N O x E g => by
  obtain ⟨a, s1, e1, e⟩ := bindM_some e
  refine h s a s1 e1 R σ H N O x _ fun H1 N1 O1 l1 x1 => ?_
  cases a with
  | true => rw [if_pos rfl] at e ⊢; exact h1 s1 f s' e R σ H1 N1 O1 x1 E (g.le l1)
  | false => rw [if_neg Bool.false_ne_true] at e ⊢; exact h2 s1 f s' e R σ H1 N1 O1 x1 E (g.le l1)
/-! ### targets -/
abbrev Tg := D → Env → Option Env
abbrev Tgs := List D → Env → Option Env
def EvG (K : KW) (g : TG) (m : Tg) (is : List Nat) : Prop := ∀ d s env', m d s.env = some env' → ∀ v R σ H N O, SR K R σ H N O s → Rep K N v d → ∀ Q : L2.St → Hp → Prop, (∀ σ', SR K R σ' H N O { s with env := env' } → (∀ j, j ∉ is → σ'[j]? = σ[j]?) → σ'.length = σ.length → Q σ' H) → g v σ H Q
def EvGs (K : KW) (g : TGs) (m : Tgs) (is : List Nat) : Prop := ∀ ds s env', m ds s.env = some env' → ∀ vs R σ H N O, SR K R σ H N O s → Reps K N vs ds → ∀ Q : L2.St → Hp → Prop, (∀ σ', SR K R σ' H N O { s with env := env' } → (∀ j, j ∉ is → σ'[j]? = σ[j]?) → σ'.length = σ.length → Q σ' H) → g vs σ H Q
def mgName (i : Nat) : Tg := fun d env => some (env.set i (.val d))
theorem eg_name {i : Nat} : EvG K (gName i) (mgName i) [i] := fun d s env' e v R σ H N O x r Q q => by
  cases e
  exact q _ (x.set r i) (fun j hj => List.getElem?_set_ne (fun z => hj (by simp [z]))) (by simp)
def mgNil : Tgs := fun ds env => match ds with
  | [] => some env
  | _ => none
def mgCons (g : Tg) (gs : Tgs) : Tgs := fun ds env => match ds with
  | d :: ds => (g d env).bind fun e1 => gs ds e1
  | [] => none
theorem eg_nil : EvGs K gNil mgNil [] := fun ds s env' e v R σ H N O x r Q q => by
  cases ds with
  | nil => cases e; exact ⟨r.nil_, q σ x (fun _ _ => rfl) rfl⟩
  | cons d ds => cases e
theorem eg_cons {g : TG} {gs : TGs} {mg : Tg} {mgs : Tgs} {is js : List Nat} (h : EvG K g mg is) (hs : EvGs K gs mgs js) : EvGs K (gCons g gs) (mgCons mg mgs) (is ++ js) := fun ds s env' e vs R σ H N O x r Q q => by
  cases ds with
  | nil => cases e
  | cons d ds =>
    simp only [mgCons] at e
    cases e1 : mg d s.env with
    | none => rw [e1] at e; cases e
    | some env1 =>
      rw [e1] at e
      obtain ⟨v, ws, rfl, r1, r2⟩ := r.cons_
      refine ⟨v, ws, rfl, h d s env1 e1 v R σ H N O x r1 _ fun σ' x' a1 l1 => hs ds { s with env := env1 } env' e ws R σ' H N O x' r2 Q fun σ'' x'' a2 l2 => q σ'' x'' (fun j hj => ?_) (l2.trans l1)⟩
      rw [List.mem_append] at hj
      exact (a2 j (fun z => hj (.inr z))).trans (a1 j (fun z => hj (.inl z)))
/-- a tuple's items, or a list's -/
def mgTup (n : Nat) (gs : Tgs) : Tg := fun d env => match d with
  | .tup ds => if ds.length = n then gs ds env else none
  | .lst ds => if ds.length = n then gs ds env else none
  | _ => none
def gTupU (K : PySem.W.Frag) (n : Nat) (g : TGs) : TG := fun v σ H Q => gTup K n g v σ H Q ∨ gUnl K n g v σ H Q
theorem pg_tupU {es : List Expr} {k : Nat} {pos : Pos} {t : TGs} {n : Nat} (hc : X.calm = true) (h : PGs X es t) (hn : (assignEach es X.env).length = n := by rfl) (hst : (assignEach es X.env).findIdx? (·.1) = none := by rfl) : PG X (.Tuple es k pos) (gTupU X.K n t) :=
  ⟨fun pins s σ H v u Q I r w => by
    rcases w with w | w
    · exact (pg_tup (k := k) (pos := pos) hc h hn hst).run pins s σ H v u Q I r w
    · exact (pg_unl (k := k) (pos := pos) hc h hn hst).run pins s σ H v u Q I r w⟩
theorem eg_tup {n : Nat} {gs : TGs} {mgs : Tgs} {is : List Nat} (hs : EvGs K gs mgs is) : EvG K (gTupU K n gs) (mgTup n mgs) is := fun d s env' e v R σ H N O x r Q q => by
  unfold mgTup at e
  split at e
  · split at e
    · rename_i hn
      obtain ⟨a, xs, rfl, hx, rs⟩ := r.tup_
      exact .inl ⟨a, xs, rfl, same_t x.good.ex hx, rs.1.trans hn, hs _ s env' e xs R σ H N O x rs Q q⟩
    · cases e
  · split at e
    · rename_i hn
      obtain ⟨a, xs, rfl, hx, rs⟩ := r.lst_
      exact .inr ⟨a, xs, rfl, same_l x.good.ex hx, rs.1.trans hn, hs _ s env' e xs R σ H N O x rs Q q⟩
    · cases e
  · cases e
def mAsg (me : M D) (g : Tg) : M Fl := bindM me fun d => fun s => (g d s.env).map fun e => (.nx, { s with env := e })
theorem es_asg {g : TG} {mg : Tg} {is : List Nat} (h : EvE K te me) (hg : EvG K g mg is) : EvS K (tAsg te g) (mAsg me mg) := fun s f s' e R σ H N O x E go => by
  obtain ⟨a, s1, e1, e⟩ := bindM_some e
  cases e2 : mg a s1.env with
  | none => rw [e2] at e; cases e
  | some env' =>
    rw [e2] at e
    cases e
    exact h s a s1 e1 R σ H N O x _ fun v H1 N1 O1 l1 x1 r1 => hg a s1 env' e2 v R σ H1 N1 O1 x1 r1 _ fun σ' x' _ _ => go σ' H1 N1 O1 l1 x'
/-- x = a new object, kept as one's own -/
def mOwn (i : Nat) (mo : M OO) : M Fl := bindM mo fun o => fun s => if o.unp = true then some (.nx, { s with env := s.env.set i (.own o) }) else none
theorem es_own {i : Nat} (h : EvO K te mO) : EvS K (tAsg te (gName i)) (mOwn i mO) := fun s f s' e R σ H N O x E go => by
  obtain ⟨o, s1, e1, e⟩ := bindM_some e
  split at e
  · rename_i hu
    cases e
    exact h s o s1 e1 R σ H N O x _ fun p H1 N1 O1 l1 x1 lo => go _ H1 N1 _ l1 (x1.own_ lo (.inl hu) i)
  · cases e
def mPar (i j : Nat) (ms : M (List D)) : M Fl := bindM ms fun ds => fun s => match ds with
  | [a, b] => some (.nx, { s with env := (s.env.set i (.val a)).set j (.val b) })
  | _ => none
theorem es_par {i j : Nat} (h : EvA K tA mA) : EvS K (tPar i j tA) (mPar i j mA) := fun s f s' e R σ H N O x E go => by
  obtain ⟨ds, s1, e1, e⟩ := bindM_some e
  match ds, e with
  | [a, b], e =>
    cases e
    refine h s _ s1 e1 R σ H N O x _ fun vs H1 N1 O1 l1 x1 rs => ?_
    obtain ⟨v, w, rfl, r1, r2⟩ := rs.two_
    exact ⟨v, w, rfl, go _ H1 N1 O1 l1 ((x1.set r1 i).set r2 j)⟩
/-! ### owned objects changed -/
theorem tyV_lst {v : V} {xs : List V} {a : Addr} (e : v = .ref a) (hx : H a = some (.lst xs)) : tyV K "list" v H := by
  subst e
  exact .inl ⟨rfl, xs, SqL.of hx⟩
/-- name.append(e): the list is one's own -/
def mAppV (i : Nat) (me : M D) : M D := fun s => match s.env[i]? with
  | some (.own (.lst _)) => (bindM me fun d => fun s1 => match s1.env[i]? with
    | some (.own (.lst ds)) => if ds.length < most then some (.non, { s1 with env := s1.env.set i (.own (.lst (ds ++ [d]))) }) else none
    | _ => none) s
  | _ => none
theorem ee_appV {i : Nat} (h : EvE K te me) : EvE K (tBM K "list" rAppend (tVar i) (tCons te tNil)) (mAppV i me) := fun s d s' e R σ H N O x Q q => by
  unfold mAppV at e
  split at e
  · rename_i ds0 h0
    obtain ⟨b, s1, e1, e⟩ := bindM_some e
    obtain ⟨a, ha, hO, hR, hL⟩ := x.loc i _ h0
    obtain ⟨xs0, hx0, _⟩ := (x.good.own a _ hO).2
    refine ⟨_, ha, tyV_lst rfl hx0, h s b s1 e1 R σ H N O x _ fun w H2 N2 O2 l2 x2 r2 => ?_⟩
    split at e
    · rename_i ds h1
      split at e
      · rename_i hz
        cases e
        obtain ⟨a', ha', hO', _⟩ := x2.loc i _ h1
        rw [ha] at ha'
        cases ha'
        obtain ⟨xs, hx, r⟩ := (x2.good.own a _ hO').2
        have x3 := x2.mut (o := .lst (xs ++ [w])) (oo := .lst (ds ++ [b])) h1 ha ⟨_, upd_same, r.app (Reps.one r2)⟩
        exact ⟨a, xs, w, rfl, rfl, hx, by rw [r.1]; exact most_lt hz, (q.le l2).here x3 .non⟩
      · cases e
    · cases e
  · cases e
/-- e0.append(e): a shared list -/
def mAppO (m0 me : M D) : M D := bindM m0 fun a => bindM me fun d => fun s => match a with
  | .loc k => match s.ws[k]? with
    | some (.lst ds) => if ds.length < most then some (.non, { s with ws := s.ws.set k (.lst (ds ++ [d])) }) else none
    | _ => none
  | _ => none
/-- e0.pop(i), e0.insert(i, e): a shared list -/
def mPopO (m0 me : M D) : M D := bindM m0 fun a => fun s0 => match a with
  | .loc k => match s0.ws[k]? with
    | some (.lst _) => (bindM me fun b => fun s => match b, s.ws[k]? with
      | .int i, some (.lst ds) => if -(2 ^ 63) ≤ i ∧ i < 2 ^ 63 then (match seqIndex? i ds.length with
        | some j => (match ds[j]? with
          | some d => some (d, { s with ws := s.ws.set k (.lst (ds.eraseIdx j)) })
          | none => none)
        | none => none) else none
      | _, _ => none) s0
    | _ => none
  | _ => none
theorem ee_popO (h0 : EvE K ta ma) (h : EvE K te me) : EvE K (tBM K "list" rPopAt ta (tCons te tNil)) (mPopO ma me) := fun s d s' e R σ H N O x Q q => by
  obtain ⟨a, s1, e1, e⟩ := bindM_some e
  split at e
  · rename_i k
    split at e
    · rename_i ds0 hw0
      obtain ⟨b, s2, e2, e⟩ := bindM_some e
      refine h0 s _ s1 e1 R σ H N O x _ fun v H1 N1 O1 l1 x1 r1 => ?_
      cases r1 with
      | @loc a _ hL =>
        obtain ⟨xs0, hx0, _⟩ := x1.getO hw0 hL
        refine ⟨tyV_lst rfl hx0, h s1 b s2 e2 R σ H1 N1 O1 x1 _ fun w H2 N2 O2 l2 x2 r2 => ?_⟩
        split at e
        · rename_i i ds hw
          split at e
          · rename_i hi
            cases e3 : seqIndex? i ds.length with
            | none => rw [e3] at e; cases e
            | some j =>
              rw [e3] at e
              simp only at e
              cases e4 : ds[j]? with
              | none => rw [e4] at e; cases e
              | some d0 =>
                rw [e4] at e
                cases e
                cases r2
                have hL2 := l2.L _ _ hL
                obtain ⟨xs, hx, r⟩ := x2.getO hw hL2
                obtain ⟨y, hy, ry⟩ := r.get e4
                have x3 := x2.mutO (o := .lst (xs.eraseIdx j)) (oo := .lst (ds.eraseIdx j)) hw hL2 ⟨_, upd_same, r.erase j⟩
                exact ⟨a, xs, i, j, y, rfl, rfl, hx, hi.1, hi.2, by rw [r.1]; exact e3, hy, (q.le (l1.trans l2)).here x3 ry⟩
          · cases e
        · cases e
    · cases e
  · cases e
/-- e1[e2] = e: lists and dicts, shared ones -/
def mSetO (me m1 m2 : M D) : M Fl := bindM me fun d => bindM m1 fun a => bindM m2 fun b => fun s => match a, b with
  | .loc k, .int i => match s.ws[k]? with
    | some (.lst ds) => (ixN ds.length i).map fun j => (.nx, { s with ws := s.ws.set k (.lst (ds.set j d)) })
    | _ => none
  | _, _ => none
theorem es_setO (h : EvE K te me) (h1 : EvE K ta ma) (h2 : EvE K tb mb) : EvS K (tAsg te (gSub ta tb rSetL)) (mSetO me ma mb) := fun s f s' e R σ H N O x E go => by
  obtain ⟨d, s1, e1, e⟩ := bindM_some e
  obtain ⟨a, s2, e2, e⟩ := bindM_some e
  obtain ⟨b, s3, e3, e⟩ := bindM_some e
  refine h s d s1 e1 R σ H N O x _ fun v H1 N1 O1 l1 x1 r1 => ?_
  refine h1 s1 a s2 e2 R σ H1 N1 O1 x1 _ fun w H2 N2 O2 l2 x2 r2 => ?_
  refine h2 s2 b s3 e3 R σ H2 N2 O2 x2 _ fun z H3 N3 O3 l3 x3 r3 => ?_
  cases a with
  | loc k =>
    cases b with
    | int i =>
      cases hw : s3.ws[k]? with
      | none => simp only [hw] at e; cases e
      | some o =>
        simp only [hw] at e
        cases o with
        | lst ds =>
          cases e4 : ixN ds.length i with
          | none => simp only [e4] at e; cases e
          | some j =>
            simp only [e4] at e
            cases e
            cases r3
            have r2' := r2.mono l3
            cases r2' with
            | @loc a _ hL =>
              obtain ⟨xs, hx, r⟩ := x3.getO hw hL
              have x4 := x3.mutO (o := .lst (xs.set j v)) (oo := .lst (ds.set j d)) hw hL ⟨_, upd_same, r.set j (r1.mono (l2.trans l3))⟩
              exact ⟨a, xs, i, j, rfl, rfl, hx, by rw [r.1]; exact e4, go σ _ N3 _ ((l1.trans l2).trans l3) x4⟩
        | dic _ => cases e
        | ins _ _ _ => cases e
        | set _ => cases e
        | keys _ => cases e
    | _ => cases e
  | _ => cases e
/-- name[e2] = e: an own list -/
def mSetV (i : Nat) (me m2 : M D) : M Fl := bindM me fun d => fun s1 => match s1.env[i]? with
  | some (.own (.lst _)) => (bindM m2 fun b => fun s => match b, s.env[i]? with
    | .int k, some (.own (.lst ds)) => (ixN ds.length k).map fun j => (.nx, { s with env := s.env.set i (.own (.lst (ds.set j d))) })
    | _, _ => none) s1
  | _ => none
theorem es_setV {i : Nat} (h : EvE K te me) (h2 : EvE K tb mb) : EvS K (tAsg te (gSub (tVar i) tb rSetL)) (mSetV i me mb) := fun s f s' e R σ H N O x E go => by
  obtain ⟨d, s1, e1, e⟩ := bindM_some e
  refine h s d s1 e1 R σ H N O x _ fun v H1 N1 O1 l1 x1 r1 => ?_
  split at e
  · rename_i ds0 h0
    obtain ⟨b, s2, e2, e⟩ := bindM_some e
    obtain ⟨a, ha, hO, hR, hL⟩ := x1.loc i _ h0
    refine ⟨_, ha, h2 s1 b s2 e2 R σ H1 N1 O1 x1 _ fun w H2 N2 O2 l2 x2 r2 => ?_⟩
    split at e
    · rename_i k ds hw
      cases e4 : ixN ds.length k with
      | none => rw [e4] at e; cases e
      | some j =>
        rw [e4] at e
        cases e
        cases r2
        obtain ⟨a', ha', hO', _⟩ := x2.loc i _ hw
        rw [ha] at ha'
        cases ha'
        obtain ⟨xs, hx, r⟩ := (x2.good.own a _ hO').2
        have x3 := x2.mut (o := .lst (xs.set j v)) (oo := .lst (ds.set j d)) hw ha ⟨_, upd_same, r.set j (r1.mono l2)⟩
        exact ⟨a, xs, k, j, rfl, rfl, hx, by rw [r.1]; exact e4, go σ _ N2 _ (l1.trans l2) x3⟩
    · cases e
  · cases e
/-! dicts: int and text keys -/
def putD (kvs : List (D × D)) (k : Key) (v : D) : List (D × D) := if (kvs.any fun kv => decide (kv.1.key = some k)) = true then kvs.map (fun kv => if kv.1.key = some k then (kv.1, v) else kv) else kvs ++ [(kD k, v)]
theorem kV_rep (k : Key) : Rep K N (kV k) (kD k) := by cases k with
  | inl i => exact .int i
  | inr s => exact .str s
theorem put_ok {es : List (Key × V)} {kvs : List (D × D)} (ok : KvOk K N es kvs) {k : Key} {v : V} {d : D} (r : Rep K N v d) : KvOk K N (putK es k v) (putD kvs k d) := by
  obtain ⟨hk, hi⟩ := ok
  have hl : es.length = kvs.length := by have := congrArg List.length hk; simpa using this
  have hkey : ∀ (i : Nat) (e : Key × V) (p : D × D), es[i]? = some e → kvs[i]? = some p → p.1 = kD e.1 := fun i e p h1 h2 => by
    have := congrArg (fun l => l[i]?) hk
    simp only [List.getElem?_map, h1, h2, Option.map_some, Option.some.injEq] at this
    exact this.symm
  have hany : (es.any fun kv => decide (kv.1 = k)) = (kvs.any fun kv => decide (kv.1.key = some k)) := by
    have e1 : (es.any fun kv => decide (kv.1 = k)) = ((es.map (fun e => kD e.1)).any fun z => decide (z.key = some k)) := by
      rw [List.any_map]
      congr 1
      funext e
      simp [kD_key]
    rw [e1, hk, List.any_map]
    rfl
  unfold putK putD
  rw [hany]
  by_cases hc : (kvs.any fun kv => decide (kv.1.key = some k)) = true
  · rw [if_pos hc, if_pos hc]
    constructor
    · rw [List.map_map, List.map_map]
      have e1 : List.map ((fun e => kD e.1) ∘ fun kv => if kv.1 = k then (kv.1, v) else kv) es = List.map (fun e => kD e.1) es := by
        apply List.map_congr_left
        intro e _
        simp only [Function.comp]
        split <;> rfl
      have e2 : List.map ((fun x => x.1) ∘ fun (kv : D × D) => if kv.1.key = some k then (kv.1, d) else kv) kvs = List.map (·.1) kvs := by
        apply List.map_congr_left
        intro e _
        simp only [Function.comp]
        split <;> rfl
      rw [e1, e2, hk]
    · intro i e p h1 h2
      rw [List.getElem?_map] at h1 h2
      cases q1 : es[i]? with
      | none => rw [q1] at h1; cases h1
      | some e0 =>
        cases q2 : kvs[i]? with
        | none => rw [q2] at h2; cases h2
        | some p0 =>
          rw [q1] at h1
          rw [q2] at h2
          simp only [Option.map_some, Option.some.injEq] at h1 h2
          have hk0 := hkey i e0 p0 q1 q2
          by_cases hz : e0.1 = k
          · rw [if_pos hz] at h1
            rw [if_pos (by rw [hk0, hz, kD_key])] at h2
            subst h1 h2
            exact r
          · rw [if_neg hz] at h1
            rw [if_neg (by rw [hk0, kD_key]; exact fun z => hz (Option.some.inj z))] at h2
            subst h1 h2
            exact hi i _ _ q1 q2
  · rw [if_neg hc, if_neg hc]
    constructor
    · rw [List.map_append, List.map_append, hk]
      rfl
    · intro i e p h1 h2
      by_cases hz : i < es.length
      · rw [List.getElem?_append_left hz] at h1
        rw [List.getElem?_append_left (by rw [← hl]; exact hz)] at h2
        exact hi i _ _ h1 h2
      · rw [List.getElem?_append_right (by omega)] at h1
        rw [List.getElem?_append_right (by rw [← hl]; omega), ← hl] at h2
        cases q : i - es.length with
        | zero =>
          rw [q] at h1 h2
          simp at h1 h2
          subst h1 h2
          exact r
        | succ m => rw [q] at h1; simp at h1
/-- name[k] = e: an own dict -/
def mDPutV (i : Nat) (me m2 : M D) : M Fl := bindM me fun d => fun s1 => match s1.env[i]? with
  | some (.own (.dic _)) => (bindM m2 fun b => fun s => match b.key, s.env[i]? with
    | some k, some (.own (.dic kvs)) => if kvs.length < most then some (.nx, { s with env := s.env.set i (.own (.dic (putD kvs k d))) }) else none
    | _, _ => none) s1
  | _ => none
theorem kv_len {es : List (Key × V)} {kvs : List (D × D)} (ok : KvOk K N es kvs) : es.length = kvs.length := by have := congrArg List.length ok.1; simpa using this
theorem es_dputV {i : Nat} (h : EvE K te me) (h2 : EvE K tb mb) : EvS K (sDPut (tVar i) tb te) (mDPutV i me mb) := fun s f s' e R σ H N O x E go => by
  obtain ⟨d, s1, e1, e⟩ := bindM_some e
  refine h s d s1 e1 R σ H N O x _ fun v H1 N1 O1 l1 x1 r1 => ?_
  split at e
  · rename_i ds0 h0
    obtain ⟨b, s2, e2, e⟩ := bindM_some e
    obtain ⟨a, ha, hO, hR, hL⟩ := x1.loc i _ h0
    refine ⟨_, ha, h2 s1 b s2 e2 R σ H1 N1 O1 x1 _ fun w H2 N2 O2 l2 x2 r2 => ?_⟩
    split at e
    · rename_i k kvs hk hw
      split at e
      · rename_i hz
        cases e
        have ey := rep_key hk r2
        subst ey
        obtain ⟨a', ha', hO', _⟩ := x2.loc i _ hw
        rw [ha] at ha'
        cases ha'
        obtain ⟨es, hx, ok⟩ := (x2.good.own a _ hO').2
        have x3 := x2.mut (o := .dK (putK es k v)) (oo := .dic (putD kvs k d)) hw ha ⟨_, upd_same, put_ok ok (r1.mono l2)⟩
        exact ⟨a, _, rfl, DPut.k hx (by rw [kv_len ok]; exact most_lt hz), go σ _ N2 _ (l1.trans l2) x3⟩
      · cases e
    · cases e
  · cases e
/-- self.f = e -/
def putFD (f : Str) (d : D) : List (Str × D) → List (Str × D)
  | [] => [(f, d)]
  | (g, x) :: r => if g = f then (g, d) :: r else (g, x) :: putFD f d r
theorem putF_ok {f : Str} {v : V} {d : D} (r : Rep K N v d) : ∀ {fs : List (Str × V)} {gs : List (Str × D)}, FsOk K N fs gs → FsOk K N (putF f v fs) (putFD f d gs)
  | [], [], _ => ⟨rfl, fun i p q h1 h2 => by
      cases i with
      | zero => simp [putF, putFD] at h1 h2; subst h1 h2; exact r
      | succ j => simp [putF] at h1⟩
  | [], _ :: _, h => by have := h.1; simp at this
  | _ :: _, [], h => by have := h.1; simp at this
  | (g, x) :: fs, (g', y) :: gs, ⟨hk, hi⟩ => by
    simp only [List.map_cons, List.cons.injEq] at hk
    obtain ⟨e, hk⟩ := hk
    subst e
    unfold putF putFD
    by_cases hz : g = f
    · rw [if_pos hz, if_pos hz]
      refine ⟨by simp [hk], fun i p q h1 h2 => ?_⟩
      cases i with
      | zero => simp at h1 h2; subst h1 h2; exact r
      | succ j => exact hi (j + 1) p q (by simpa using h1) (by simpa using h2)
    · rw [if_neg hz, if_neg hz]
      obtain ⟨i1, i2⟩ := putF_ok (f := f) r (fs := fs) (gs := gs) ⟨hk, fun i p q h1 h2 => hi (i + 1) p q (by simpa using h1) (by simpa using h2)⟩
      refine ⟨by simp [i1], fun i p q h1 h2 => ?_⟩
      cases i with
      | zero => simp at h1 h2; subst h1 h2; exact hi 0 _ _ rfl rfl
      | succ j => exact i2 j p q (by simpa using h1) (by simpa using h2)
/-- self.f = e where self is one's own object (a class's __init__) -/
def mFldV (C0 : Addr) (f : Str) (i : Nat) (me : M D) : M Fl := bindM me fun d => fun s => match s.env[i]? with
  | some (.own (.ins C y gs)) => if C = C0 ∧ gs.length < 1000 then some (.nx, { s with env := s.env.set i (.own (.ins C y (putFD f d gs))) }) else none
  | _ => none
theorem es_fldV {C0 : Addr} {f : Str} {i : Nat} (h : EvE K te me) (c : Cls K C0) (n : NoAttr K C0 f) : EvS K (sFld K (tVar i) te f) (mFldV C0 f i me) := fun s f' s' e R σ H N O x E go => by
  obtain ⟨d, s1, e1, e⟩ := bindM_some e
  refine h s d s1 e1 R σ H N O x _ fun v H1 N1 O1 l1 x1 r1 => ?_
  split at e
  · rename_i C y gs h0
    split at e
    · rename_i hz
      obtain ⟨hC, hz⟩ := hz
      cases e
      subst hC
      obtain ⟨a, ha, hO, hR, hL⟩ := x1.loc i _ h0
      obtain ⟨dx, fs, hx, ok⟩ := (x1.good.own a _ hO).2
      have hl : fs.length = gs.length := by have := congrArg List.length ok.1; simpa using this
      have x3 := x1.mut (o := .ins C dx (putF f v fs)) (oo := .ins C y (putFD f d gs)) h0 ha ⟨dx, _, upd_same, putF_ok r1 ok⟩ (by cases y; exact .inl rfl; exact .inr ⟨_, _, rfl⟩)
      exact ⟨_, ha, a, C, dx, fs, rfl, hx, c, n, by rw [hl]; exact hz, go σ _ N1 _ l1 x3⟩
    · cases e
  · cases e
end
end ML
set_option Elab.async false
set_option linter.all false
set_option maxRecDepth 100000
set_option maxHeartbeats 2000000
/-! Layer M: loops and comprehensions over what is walked. -/
namespace ML
open PySem L2

def ItD (K : KW) (J : It) (N : Kn) (ds : List D) : Prop := ∀ N1 H, Le N N1 → Same N1.h H →
  (∀ i, i < ds.length → J.go i H) ∧ J.stop ds.length H ∧ ∀ i x H', i < ds.length → J.yld i H x H' → ∃ d, ds[i]? = some d ∧ ∀ R σ O s, SR K R σ H N1 O s → ∃ N2, Le N1 N2 ∧ SR K R σ H' N2 O s ∧ Rep K N2 x d
def EvI (K : KW) (wi : TI) (m : M (List D)) : Prop := ∀ s ds s', m s = some (ds, s') → ∀ R σ H N O, SR K R σ H N O s → ∀ Q : It → Hp → Prop, (∀ J H' N' O', Le N N' → SR K R σ H' N' O' s' → ItD K J N' ds → Q J H') → wi σ H Q
section
variable {X : Cx} {K : KW} {R : Sto} {σ : L2.St} {N N' N1 : Kn} {H H' : Hp} {O O' : Sto} {s s' s1 : Stt} {d : D} {Q : VK} {ta tb tc te tk : TE} {ma mb mc me mk : M D} {t u : TS} {c : TT} {mt mu : M Bool} {tA tB : TA} {mA mB mi : M (List D)} {mO : M OO} {m m1 m2 : M Fl} {E : Ends} {wi : TI} {g : TG} {mg : Tg} {is : List Nat}
def loopM (g : Tg) (m : M Fl) : List D → M Fl
  | [] => retM .nx
  | d :: ds => fun s => match g d s.env with
    | none => none
    | some e => match m { s with env := e } with
      | none => none
      | some (f, s1) => match f with
        | .nx => loopM g m ds s1
        | .ct => loopM g m ds s1
        | .bk => some (.nx, s1)
        | .rt d => some (.rt d, s1)
def mFor (mi : M (List D)) (g : Tg) (m : M Fl) : M Fl := bindM mi fun ds => loopM g m ds
/-- the loop over an iterator that has come -/
theorem es_loop {J : It} {ds : List D} {f : Fl} (hg : EvG K g mg is) (hb : EvS K t m) (x : SR K R σ H N O s) (it : ItD K J N ds) (e : loopM mg m ds s = some (f, s')) (go : GoF K R N s' E f) :
    ∃ W : Nat → Nat → L2.St → Hp → Prop, (∃ m, W 0 m σ H) ∧ ∀ i m σ H, W i m σ H →
      (J.stop i H ∧ E.nx σ H) ∨ (J.go i H ∧ ∃ Nx : L2.St → Hp → Prop, (∀ σ' H', Nx σ' H' → ∃ m', m' < m ∧ W (i + 1) m' σ' H') ∧ ∀ x H', J.yld i H x H' → g x σ H' fun σ2 H2 => t { E with nx := Nx, ct := Nx, bk := E.nx } σ2 H2) := by
  refine ⟨fun i k σ' H' => k = ds.length - i ∧ i ≤ ds.length ∧ ∃ N' O' si, Le N N' ∧ SR K R σ' H' N' O' si ∧ loopM mg m (ds.drop i) si = some (f, s'), ⟨ds.length, rfl, Nat.zero_le _, N, O, s, Le.refl N, x, e⟩, ?_⟩
  rintro i k σ1 H1 ⟨rfl, hi, N1, O1, si, l1, x1, e1⟩
  obtain ⟨hgo, hstop, hyld⟩ := it N1 H1 l1 x1.good.ex
  by_cases hlt : i < ds.length
  · have ed : ds.drop i = ds[i] :: ds.drop (i + 1) := List.drop_eq_getElem_cons hlt
    rw [ed] at e1
    unfold loopM at e1
    cases e2 : mg ds[i] si.env with
    | none => rw [e2] at e1; cases e1
    | some env' =>
      rw [e2] at e1
      simp only at e1
      cases e3 : m { si with env := env' } with
      | none => rw [e3] at e1; cases e1
      | some p =>
        obtain ⟨fl, s2⟩ := p
        rw [e3] at e1
        simp only at e1
        refine .inr ⟨hgo i hlt, fun σ' H' => ∃ N' O', Le N N' ∧ SR K R σ' H' N' O' s2 ∧ loopM mg m (ds.drop (i + 1)) s2 = some (f, s'), fun σ' H' ⟨N', O', q1, q2, q3⟩ => ⟨ds.length - (i + 1), by omega, rfl, hlt, N', O', s2, q1, q2, q3⟩, fun v H' y => ?_⟩
        obtain ⟨d, hd, run⟩ := hyld i v H' hlt y
        obtain ⟨N2, l2, x2, r2⟩ := run R σ1 O1 si x1
        rw [List.getElem?_eq_getElem hlt] at hd
        cases hd
        refine hg ds[i] si env' e2 v R σ1 H' N2 O1 x2 r2 _ fun σ3 x3 _ _ => ?_
        refine hb _ fl s2 e3 R σ3 H' N2 O1 x3 _ ?_
        cases fl with
        | nx => exact fun σ' H'' N' O' l x' => ⟨N', O', (l1.trans l2).trans l, x', e1⟩
        | ct => exact fun σ' H'' N' O' l x' => ⟨N', O', (l1.trans l2).trans l, x', e1⟩
        | bk => cases e1; exact fun σ' H'' N' O' l x' => go σ' H'' N' O' ((l1.trans l2).trans l) x'
        | rt d => cases e1; exact fun v σ' H'' N' O' l x' r' => go v σ' H'' N' O' ((l1.trans l2).trans l) x' r'
  · have e0 : i = ds.length := by omega
    subst e0
    rw [List.drop_length] at e1
    cases e1
    exact .inl ⟨hstop, go σ1 H1 N1 O1 l1 x1⟩
theorem es_for (hi : EvI K wi mi) (hg : EvG K g mg is) (hb : EvS K t m) : EvS K (tFor wi g t) (mFor mi mg m) := fun s f s' e R σ H N O x E go => by
  obtain ⟨ds, s1, e1, e⟩ := bindM_some e
  exact hi s ds s1 e1 R σ H N O x _ fun J H1 N1 O1 l1 x1 it => es_loop hg hb x1 it e (go.le l1)
/-! ### while -/
def whileM (c : M Bool) (m : M Fl) : Nat → M Fl
  | 0 => noM
  | n + 1 => bindM c fun b => if b = true then bindM m fun f => match f with
    | .nx => whileM c m n
    | .ct => whileM c m n
    | .bk => retM .nx
    | .rt d => retM (.rt d) else retM .nx
theorem es_while {n : Nat} (hc : EvT K c mt) (hb : EvS K t m) : EvS K (tWhile c t) (whileM mt m n) := fun s f s' e R σ H N O x E go => by
  refine ⟨fun k σ' H' => ∃ N' O' si, Le N N' ∧ SR K R σ' H' N' O' si ∧ whileM mt m k si = some (f, s'), ⟨n, N, O, s, Le.refl N, x, e⟩, ?_⟩
  rintro k σ1 H1 ⟨N1, O1, si, l1, x1, e1⟩
  cases k with
  | zero => cases e1
  | succ k =>
    unfold whileM at e1
    obtain ⟨b, s1, e2, e1⟩ := bindM_some e1
    refine hc si b s1 e2 R σ1 H1 N1 O1 x1 _ fun H2 N2 O2 l2 x2 => ?_
    cases b with
    | true =>
      rw [if_pos rfl] at e1 ⊢
      obtain ⟨fl, s2, e3, e1⟩ := bindM_some e1
      refine ⟨fun σ' H' => ∃ N' O', Le N N' ∧ SR K R σ' H' N' O' s2 ∧ whileM mt m k s2 = some (f, s'), fun σ' H' ⟨N', O', q1, q2, q3⟩ => ⟨k, Nat.lt_succ_self k, N', O', s2, q1, q2, q3⟩, ?_⟩
      refine hb s1 fl s2 e3 R σ1 H2 N2 O2 x2 _ ?_
      cases fl with
      | nx => exact fun σ' H'' N' O' l x' => ⟨N', O', (l1.trans l2).trans l, x', e1⟩
      | ct => exact fun σ' H'' N' O' l x' => ⟨N', O', (l1.trans l2).trans l, x', e1⟩
      | bk => cases e1; exact fun σ' H'' N' O' l x' => go σ' H'' N' O' ((l1.trans l2).trans l) x'
      | rt d => cases e1; exact fun v σ' H'' N' O' l x' r' => go v σ' H'' N' O' ((l1.trans l2).trans l) x' r'
    | false =>
      rw [if_neg Bool.false_ne_true] at e1 ⊢
      cases e1
      exact go σ1 H2 N2 O2 (l1.trans l2) x2
/-! ### comprehensions -/
def wipeM (env : Env) : List Nat → Env
  | [] => env
  | v :: vs => (wipeM env vs).set v .no
def rstM (e0 e1 : Env) : List Nat → Env
  | [] => e1
  | v :: vs => (rstM e0 e1 vs).set v (e0.getD v .no)
def Sl.free : Sl → Bool
  | .own _ => false
  | _ => true
theorem SR.wipe (x : SR K R σ H N O s) : ∀ vs, SR K R (L2.wipe σ vs) H N O { s with env := wipeM s.env vs }
  | [] => x
  | v :: vs => (SR.wipe x vs).clr v
theorem wipeM_in {e : Env} {j : Nat} : ∀ {vs : List Nat}, j ∈ vs → j < e.length → (wipeM e vs)[j]? = some .no
  | [], h, _ => by cases h
  | v :: vs, h, hl => by
    unfold wipeM
    have len : ∀ vs, (wipeM e vs).length = e.length := fun vs => by
      induction vs with
      | nil => rfl
      | cons w ws ih => unfold wipeM; rw [List.length_set, ih]
    by_cases hj : v = j
    · subst hj
      rw [List.getElem?_set_self (by rw [len]; exact hl)]
    · rw [List.getElem?_set_ne hj]
      exact wipeM_in (by rcases List.mem_cons.mp h with z | z; exact absurd z.symm hj; exact z) hl
theorem rstM_len (e0 e1 : Env) : ∀ vs, (rstM e0 e1 vs).length = e1.length
  | [] => rfl
  | v :: vs => by unfold rstM; rw [List.length_set, rstM_len e0 e1 vs]
theorem rstM_in {e0 e1 : Env} {j : Nat} : ∀ {vs : List Nat}, j ∈ vs → j < e1.length → (rstM e0 e1 vs)[j]? = some (e0.getD j .no)
  | [], h, _ => by cases h
  | v :: vs, h, hl => by
    unfold rstM
    by_cases hj : v = j
    · subst hj
      rw [List.getElem?_set_self (by rw [rstM_len]; exact hl)]
    · rw [List.getElem?_set_ne hj]
      exact rstM_in (by rcases List.mem_cons.mp h with z | z; exact absurd z.symm hj; exact z) hl
theorem rstM_out {e0 e1 : Env} {j : Nat} : ∀ {vs : List Nat}, j ∉ vs → (rstM e0 e1 vs)[j]? = e1[j]?
  | [], _ => rfl
  | v :: vs, h => by
    unfold rstM
    rw [List.getElem?_set_ne (fun z => h (by simp [z]))]
    exact rstM_out fun z => h (List.mem_cons_of_mem _ z)
theorem wipe_in {σ : L2.St} {j : Nat} : ∀ {vs : List Nat}, j ∈ vs → j < σ.length → (L2.wipe σ vs)[j]? = some none
  | [], h, _ => by cases h
  | v :: vs, h, hl => by
    unfold L2.wipe
    by_cases hj : v = j
    · subst hj
      rw [List.getElem?_set_self (by rw [wipe_length]; exact hl)]
    · rw [List.getElem?_set_ne hj]
      exact wipe_in (by rcases List.mem_cons.mp h with z | z; exact absurd z.symm hj; exact z) hl
theorem wipe_same {σ σ' : L2.St} {vs : List Nat} (h : ∀ j, j ∉ vs → σ'[j]? = σ[j]?) (hl : σ'.length = σ.length) : L2.wipe σ' vs = L2.wipe σ vs := by
  apply List.ext_getElem?
  intro j
  by_cases hj : j ∈ vs
  · by_cases hn : j < σ.length
    · rw [wipe_in hj hn, wipe_in hj (by rw [hl]; exact hn)]
    · rw [List.getElem?_eq_none (by rw [wipe_length]; omega), List.getElem?_eq_none (by rw [wipe_length]; omega)]
  · rw [wipe_out hj, wipe_out hj]; exact h j hj
theorem wipe_wipe {σ σ' : L2.St} {vs : List Nat} (h : ∀ j, j ∉ vs → σ'[j]? = (L2.wipe σ vs)[j]?) (hl : σ'.length = σ.length) : L2.wipe σ' vs = L2.wipe σ vs :=
  wipe_same (fun j hj => (h j hj).trans (wipe_out hj)) hl
/-- the names of a comprehension stand again as ahead of it -/
theorem SR.restore {vs : List Nat} {s0 : Stt} {N0 : Kn} {H0 : Hp} {O0 : Sto} (x0 : SR K R σ H0 N0 O0 s0) (l : Le N0 N) (fr : vs.all (fun j => (s0.env.getD j .no).free) = true) {e1 : Env} {ws : List OO}
    (x : SR K R (L2.wipe σ vs) H N O ⟨e1, ws⟩) (hw : ∀ j ∈ vs, ∀ o, e1[j]? ≠ some (.own o)) : SR K R σ H N O ⟨rstM s0.env e1 vs, ws⟩ := by
  have el : e1.length = σ.length := by
    have h1 := x.len
    rw [wipe_length] at h1
    exact h1.symm
  have at_ : ∀ j, j ∉ vs → σ[j]? = (L2.wipe σ vs)[j]? := fun j hj => (wipe_out hj).symm
  have own_ : ∀ j o, (rstM s0.env e1 vs)[j]? = some (.own o) → j ∉ vs ∧ e1[j]? = some (.own o) := fun j o h => by
    by_cases hj : j ∈ vs
    · have hl : j < e1.length := by
        have := (List.getElem?_eq_some_iff.mp h).1
        rw [rstM_len] at this; exact this
      rw [rstM_in hj hl] at h
      have := List.all_eq_true.mp fr j hj
      cases h2 : s0.env.getD j .no with
      | own o' => rw [h2] at this; cases this
      | no => rw [h2] at h; cases h
      | val d => rw [h2] at h; cases h
    · rw [rstM_out hj] at h; exact ⟨hj, h⟩
  refine ⟨x.good, by rw [rstM_len, el], fun i d h => ?_, fun i o h => ?_, fun i j o o' a h1 h2 h3 h4 => ?_, x.out, x.outO, x.nd, x.rest, fun i C gs a h1 h2 => (own_ i _ h1).elim fun q1 q2 => x.pin i C gs a q2 (by rw [← at_ i q1]; exact h2)⟩
  · by_cases hj : i ∈ vs
    · have hl : i < e1.length := by
        have := (List.getElem?_eq_some_iff.mp h).1
        rw [rstM_len] at this; exact this
      have h' : (rstM s0.env e1 vs)[i]? = some (.val d) := h
      rw [rstM_in hj hl] at h'
      have hs : s0.env[i]? = some (.val d) := by
        rw [List.getD_eq_getElem?_getD] at h'
        cases h2 : s0.env[i]? with
        | none => rw [h2] at h'; cases h'
        | some z => rw [h2] at h'; simpa using h'
      obtain ⟨v, q, r⟩ := x0.val i d hs
      exact ⟨v, q, r.mono l⟩
    · have h' : (rstM s0.env e1 vs)[i]? = some (.val d) := h
      rw [rstM_out hj] at h'
      obtain ⟨v, q, r⟩ := x.val i d h'
      exact ⟨v, by rw [at_ i hj]; exact q, r⟩
  · obtain ⟨hj, h'⟩ := own_ i o h
    obtain ⟨a, q1, q2⟩ := x.loc i o h'
    exact ⟨a, by rw [at_ i hj]; exact q1, q2⟩
  · obtain ⟨hj, h1'⟩ := own_ i o h1
    obtain ⟨hk, h2'⟩ := own_ j o' h2
    exact x.inj i j o o' a h1' h2' (by rw [← at_ i hj]; exact h3) (by rw [← at_ j hk]; exact h4)
/-- [e for x in ds if b] -/
def loopC (g : Tg) (mt : M Bool) (me : M D) (vs : List Nat) : List D → List D → Stt → Option (List D × Stt)
  | [], acc, s => some (acc, s)
  | d :: ds, acc, s => match g d s.env with
    | none => none
    | some e => match mt { s with env := e } with
      | none => none
      | some (true, s1) => (match me s1 with
        | none => none
        | some (y, s2) => if acc.length < most then loopC g mt me vs ds (acc ++ [y]) { s2 with env := wipeM s2.env vs } else none)
      | some (false, s1) => loopC g mt me vs ds acc { s1 with env := wipeM s1.env vs }
def compM (vs : List Nat) (run : Stt → Option (OO × Stt)) : M OO := fun s => if vs.all (fun j => (s.env.getD j .no).free) = true then
    (match run { s with env := wipeM s.env vs } with
      | some (o, s1) => some (o, { s1 with env := rstM s.env s1.env vs })
      | none => none)
  else none
def mLc (mi : M (List D)) (g : Tg) (mt : M Bool) (me : M D) (vs : List Nat) : M OO := bindM mi fun ds => compM vs fun s => (loopC g mt me vs ds [] s).map fun p => (.lst p.1, p.2)
theorem wiped_no {e : Env} {vs : List Nat} : ∀ j ∈ vs, ∀ o, (wipeM e vs)[j]? ≠ some (.own o) := fun j hj o h => by
  have hl : j < e.length := by
    have len : ∀ vs, (wipeM e vs).length = e.length := fun vs => by
      induction vs with
      | nil => rfl
      | cons w ws ih => unfold wipeM; rw [List.length_set, ih]
    have := (List.getElem?_eq_some_iff.mp h).1
    rw [len] at this; exact this
  rw [wipeM_in hj hl] at h
  cases h
theorem loopC_clean {g : Tg} {mt : M Bool} {me : M D} {vs : List Nat} : ∀ {ds acc acc' : List D} {s s' : Stt}, loopC g mt me vs ds acc s = some (acc', s') → (∀ j ∈ vs, ∀ o, s.env[j]? ≠ some (.own o)) → ∀ j ∈ vs, ∀ o, s'.env[j]? ≠ some (.own o)
  | [], acc, acc', s, s', e, h => by cases e; exact h
  | d :: ds, acc, acc', s, s', e, h => by
    unfold loopC at e
    split at e
    · cases e
    · split at e
      · cases e
      · split at e
        · cases e
        · split at e
          · exact loopC_clean e wiped_no
          · cases e
      · exact loopC_clean e wiped_no
theorem SR.lone_mono {p : Addr} {o : OO} (l : Le N N') (h : N'.h p = none) (h2 : p ∉ N'.L) (h3 : O' p = none) (k : ∀ u, H p = some u → H' p = some u) (lo : Lone K N O H p o) : Lone K N' O' H' p o := ⟨h, h3, h2, OOk.mono l k lo.2.2.2⟩
/-- p's object set apart from what a reading may change: it is the rest's -/
def radd (R : Sto) (p : Addr) (o : OO) : Sto := dset R p o
theorem SR.lend (x : SR K R σ H N O s) {p : Addr} {o : OO} (lo : Lone K N O H p o) : SR K (dset R p o) σ H N (dset O p o) s := by
  obtain ⟨hn, ho, hL, ok⟩ := lo
  have ne : ∀ (j : Nat) (o' : OO) (a : Addr), s.env[j]? = some (.own o') → σ[j]? = some (some (.ref a)) → a ≠ p := fun j o' a h1 h2 z => by
    obtain ⟨b, q1, q2, _⟩ := x.loc j o' h1
    rw [h2] at q1
    cases q1
    subst z
    rw [ho] at q2
    cases q2
  refine ⟨x.good.take hn ok, x.len, x.val, fun j o' h => ?_, x.inj, x.out, fun j b u h1 h2 => ?_, x.nd, fun b u e => ?_, x.pin⟩
  · obtain ⟨a, q1, q2, q3, q4⟩ := x.loc j o' h
    have hb := ne j o' a h q1
    exact ⟨a, q1, by rw [dset_ne hb]; exact q2, by rw [dset_ne hb]; exact q3, q4⟩
  · obtain ⟨q1, q2⟩ := x.outO j b u h1 h2
    have hb : b ≠ p := fun z => by subst z; exact hL (List.mem_of_getElem? h1)
    exact ⟨by rw [dset_ne hb]; exact q1, by rw [dset_ne hb]; exact q2⟩
  · by_cases hb : b = p
    · subst hb; rw [dset_same] at e ⊢; exact e
    · rw [dset_ne hb] at e ⊢; exact x.rest b u e
theorem SR.back {p : Addr} {o : OO} (x : SR K (dset R p o) σ H N O s) (hR : R p = none) : SR K R σ H N (ddrop O p) s ∧ Lone K N (ddrop O p) H p o := by
  have hO : O p = some o := x.rest p o dset_same
  have hL : p ∉ N.L := fun z => by
    obtain ⟨i, hi⟩ := List.mem_iff_getElem?.mp z
    have hl : i < s.ws.length := by rw [← x.out]; exact (List.getElem?_eq_some_iff.mp hi).1
    have := (x.outO i p _ hi (List.getElem?_eq_getElem hl)).2
    rw [dset_same] at this; cases this
  have sub : Sub (ddrop O p) O := fun b u e => by
    by_cases hb : b = p
    · subst hb; rw [ddrop_same] at e; cases e
    · rw [ddrop_ne hb] at e; exact e
  refine ⟨⟨x.good.sub sub, x.len, x.val, fun j o' h => ?_, x.inj, x.out, fun j b u h1 h2 => ?_, x.nd, fun b u e => ?_, x.pin⟩, (x.good.own p o hO).1, ddrop_same, hL, (x.good.own p o hO).2⟩
  · obtain ⟨a, q1, q2, q3, q4⟩ := x.loc j o' h
    have hb : a ≠ p := fun z => by subst z; rw [dset_same] at q3; cases q3
    exact ⟨a, q1, by rw [ddrop_ne hb]; exact q2, by rw [dset_ne hb] at q3; exact q3, q4⟩
  · obtain ⟨q1, q2⟩ := x.outO j b u h1 h2
    have hb : b ≠ p := fun z => by subst z; exact hL (List.mem_of_getElem? h1)
    exact ⟨by rw [ddrop_ne hb]; exact q1, by rw [dset_ne hb] at q2; exact q2⟩
  · have hb : b ≠ p := fun z => by subst z; rw [hR] at e; cases e
    rw [ddrop_ne hb]
    exact x.rest b u (by rw [dset_ne hb]; exact e)
/-- the rest's object changed -/
theorem SR.mutR {p : Addr} {o : OO} (x : SR K (dset R p o) σ H N O s) {ho : HO} {oo : OO} (ok : OOk K N (upd H p ho) p oo) : SR K (dset R p oo) σ (upd H p ho) N (dset O p oo) s := by
  have hO : O p = some o := x.rest p o dset_same
  have hL : p ∉ N.L := fun z => by
    obtain ⟨i, hi⟩ := List.mem_iff_getElem?.mp z
    have hl : i < s.ws.length := by rw [← x.out]; exact (List.getElem?_eq_some_iff.mp hi).1
    have := (x.outO i p _ hi (List.getElem?_eq_getElem hl)).2
    rw [dset_same] at this; cases this
  refine ⟨x.good.mut hO ok, x.len, x.val, fun j o' h => ?_, x.inj, x.out, fun j b u h1 h2 => ?_, x.nd, fun b u e => ?_, x.pin⟩
  · obtain ⟨a, q1, q2, q3, q4⟩ := x.loc j o' h
    have hb : a ≠ p := fun z => by subst z; rw [dset_same] at q3; cases q3
    exact ⟨a, q1, by rw [dset_ne hb]; exact q2, by rw [dset_ne hb] at q3 ⊢; exact q3, q4⟩
  · obtain ⟨q1, q2⟩ := x.outO j b u h1 h2
    have hb : b ≠ p := fun z => by subst z; exact hL (List.mem_of_getElem? h1)
    exact ⟨by rw [dset_ne hb]; exact q1, by rw [dset_ne hb] at q2 ⊢; exact q2⟩
  · by_cases hb : b = p
    · subst hb; rw [dset_same] at e ⊢; exact e
    · rw [dset_ne hb] at e ⊢; exact x.rest b u (by rw [dset_ne hb]; exact e)
theorem eo_lc {vs : List Nat} (hi : EvI K wi mi) (hg : EvG K g mg is) (hv : ∀ j ∈ is, j ∈ vs) (ht : EvT K c mt) (he : EvE K te me) : EvO K (tLc wi g c te vs) (mLc mi mg mt me vs) := fun s o s' e R σ H N O x Q q => by
  obtain ⟨ds, s1, e1, e⟩ := bindM_some e
  unfold compM at e
  split at e
  · rename_i hfr
    split at e
    · rename_i o2 s2 e2
      cases e
      cases e3 : loopC mg mt me vs ds [] { s1 with env := wipeM s1.env vs } with
      | none => simp only [e3] at e2; cases e2
      | some p =>
        obtain ⟨acc', s3⟩ := p
        simp only [e3] at e2
        cases e2
        refine hi s ds s1 e1 R σ H N O x _ fun J H1 N1 O1 l1 x1 it => ?_
        intro L hL
        obtain ⟨x2, lo⟩ := lone_new x1 (o := .lst []) (oo := .lst []) hL ⟨[], upd_same, Reps.nil⟩
        have hRL : R L = none := by
          cases z : R L with
          | none => rfl
          | some u => have := x1.rest L u z; rw [(x1.good.free hL).2] at this; cases this
        have x3 := (x2.lend lo).wipe vs
        refine ⟨fun i k H' => k = ds.length - i ∧ i ≤ ds.length ∧ ∃ N' O' acc si, Le N1 N' ∧ SR K (dset R L (.lst acc)) (L2.wipe σ vs) H' N' O' si ∧ loopC mg mt me vs (ds.drop i) acc si = some (acc', s3), ⟨ds.length, rfl, Nat.zero_le _, N1, _, [], _, Le.refl _, x3, e3⟩, ?_⟩
        rintro i k H2 ⟨rfl, hle, N2, O2, acc, si, l2, xi, ei⟩
        obtain ⟨hgo, hstop, hyld⟩ := it N2 H2 l2 xi.good.ex
        by_cases hlt : i < ds.length
        · have ed : ds.drop i = ds[i] :: ds.drop (i + 1) := List.drop_eq_getElem_cons hlt
          rw [ed] at ei
          unfold loopC at ei
          cases e4 : mg ds[i] si.env with
          | none => rw [e4] at ei; cases ei
          | some env' =>
            rw [e4] at ei
            simp only at ei
            cases e5 : mt { si with env := env' } with
            | none => rw [e5] at ei; cases ei
            | some p =>
              obtain ⟨b, s4⟩ := p
              rw [e5] at ei
              refine .inr ⟨hgo i hlt, fun H' => ∃ N' O' acc si, Le N1 N' ∧ SR K (dset R L (.lst acc)) (L2.wipe σ vs) H' N' O' si ∧ loopC mg mt me vs (ds.drop (i + 1)) acc si = some (acc', s3), fun H' ⟨N', O', a, b, q1, q2, q3⟩ => ⟨ds.length - (i + 1), by omega, rfl, hlt, N', O', a, b, q1, q2, q3⟩, fun v H' y => ?_⟩
              obtain ⟨d, hd, run⟩ := hyld i v H' hlt y
              obtain ⟨N3, l3, x4, r4⟩ := run _ _ O2 si xi
              rw [List.getElem?_eq_getElem hlt] at hd
              cases hd
              refine hg ds[i] si env' e4 v _ _ H' N3 O2 x4 r4 _ fun σ5 x5 a5 ln5 => ?_
              have hwp : L2.wipe σ5 vs = L2.wipe σ vs := wipe_wipe (fun j hj => a5 j (fun z => hj (hv j z))) (ln5.trans (wipe_length _ _))
              refine ⟨hwp, ht _ b s4 e5 _ σ5 H' N3 O2 x5 _ fun H5 N5 O5 l5 x6 => ?_⟩
              cases b with
              | true =>
                rw [if_pos rfl]
                simp only at ei
                cases e6 : me s4 with
                | none => rw [e6] at ei; cases ei
                | some p =>
                  obtain ⟨y6, s6⟩ := p
                  rw [e6] at ei
                  simp only at ei
                  split at ei
                  · rename_i hz
                    refine he s4 y6 s6 e6 _ σ5 H5 N5 O5 x6 _ fun w H6 N6 O6 l6 x7 r7 => ?_
                    have hO : O6 L = some (.lst acc) := x7.rest L _ dset_same
                    obtain ⟨xs, hx, rs⟩ := (x7.good.own L _ hO).2
                    have x8 := x7.mutR (ho := .lst (xs ++ [w])) (oo := .lst (acc ++ [y6])) ⟨_, upd_same, rs.app (Reps.one r7)⟩
                    have x9 := x8.wipe vs
                    rw [hwp] at x9
                    exact ⟨xs, hx, by rw [rs.1]; exact most_lt hz, N6, _, _, _, ((l2.trans l3).trans l5).trans l6, x9, ei⟩
                  · cases ei
              | false =>
                rw [if_neg Bool.false_ne_true]
                have x9 := x6.wipe vs
                rw [hwp] at x9
                exact ⟨N5, _, _, _, (l2.trans l3).trans l5, x9, ei⟩
        · have e0 : i = ds.length := by omega
          subst e0
          rw [List.drop_length] at ei
          cases ei
          refine .inl ⟨hstop, ?_⟩
          obtain ⟨xb, lb⟩ := xi.back hRL
          have clean := loopC_clean e3 (fun j hj o => wiped_no j hj o)
          exact q L H2 N2 _ (l1.trans l2) (x1.restore l2 hfr xb clean) lb
    · cases e
  · cases e
end
end ML
set_option Elab.async false
set_option linter.all false
set_option maxRecDepth 100000
set_option maxHeartbeats 2000000
/-! enumerate and zip over lists and tuples, in any mix. -/
namespace ML
open PySem PySem.Spec PyProof.Rows L2

/-! ### a list (true) or a tuple (false) -/
def SqB (K : PySem.W.Frag) (H : Hp) (a : Addr) : Bool → List V → Prop
  | true, xs => SqL K H a xs
  | false, xs => SqT K H a xs
def ItrB (h : Heap) (it a : Addr) (i : Nat) : Bool → Prop
  | true => h.IsListIter it a i
  | false => h.IsTupleIter it a i
def SeqB (h : Heap) (a : Addr) (its : Array Value) : Bool → Prop
  | true => h.IsList a its
  | false => h.IsTuple a its
def objB (a : Addr) : Bool → Obj
  | true => { cls := .type "list_iterator", data := .fields #[.ref a, .int 0 0] }
  | false => { cls := .type "tuple_iterator", data := .fields #[.ref a, .int 0 0] }
section
variable {X : Cx} {pins : List (Addr × Obj)} {σ : L2.St} {H : Hp} {s : Shared} {a : Addr} {b : Bool} {xs ys : List V}
theorem SqB.get (I : Inv X pins σ H s) (h : SqB X.K H a b xs) : ∃ its : List Value, Vals xs its ∧ SeqB s.heap a its.toArray b ∧ xs.length ≤ sizeLine ∧ a < s.heap.objs.size := by
  cases b with
  | true =>
    obtain ⟨its, rv, p, hz⟩ := I.list h
    exact ⟨its, rv, p.isList, hz, p.lt⟩
  | false =>
    obtain ⟨its, rv, p, hz⟩ := I.tuple h
    obtain ⟨o, ho, r⟩ := id p
    exact ⟨its, rv, (show s.heap.IsTuple a its.toArray from p), hz, Heap.lt_size ho⟩
theorem SqB.inj (I : Inv X pins σ H s) (h : SqB X.K H a b xs) (h' : SqB X.K H a b ys) : xs = ys := by
  cases b with
  | true => exact I.list_inj h h'
  | false => exact I.tuple_inj h h'
theorem drawsB {prog : Program} {w : World} {A : Around} (hh : A.handled = none) (it a : Addr) (hne : a ≠ it) (items : Array Value) (b : Bool) :
    Draws prog w A it [it, a] items.size (fun i v => items[i]? = some v) (fun i h => ItrB h it a i b ∧ SeqB h a items b) := by
  cases b with
  | true => exact Draws.list hh it a hne items
  | false => exact Draws.tuple hh it a hne items
theorem beginsB (a : Addr) (items : Array Value) (b : Bool) : Begins (.ref a) (objB a b) fun h => SeqB h a items b := by
  cases b with
  | true => exact begins_list a items
  | false => exact begins_tuple a items
theorem ItrB.at {h h' : Heap} {it a : Addr} {i : Nat} {b : Bool} (x : ItrB h it a i b) (k : ∀ o, h.get? it = some o → h'.get? it = some o) : ItrB h' it a i b := by
  cases b with
  | true => exact Heap.IsListIter.at x k
  | false => exact Heap.IsTupleIter.at x k
theorem ItrB.obj {h : Heap} {it a : Addr} {i : Nat} {b : Bool} (x : ItrB h it a i b) : ∃ o, h.get? it = some o ∧ ∀ v, o.data ≠ .cell v := by
  cases b with
  | true =>
    obtain ⟨o, e, c, d⟩ := x
    exact ⟨o, e, fun v z => by rw [d] at z; cases z⟩
  | false =>
    obtain ⟨o, e, c, d⟩ := x
    exact ⟨o, e, fun v z => by rw [d] at z; cases z⟩
theorem ItrB.new {h : Heap} {it a : Addr} {b : Bool} (x : h.get? it = some (objB a b)) : ItrB h it a 0 b := by
  cases b with
  | true => exact ⟨_, x, rfl, rfl⟩
  | false => exact ⟨_, x, rfl, rfl⟩
end
theorem handled_in1 {A : Around} (h : A.handled = none) : A.in1.handled = none := h

/-! ### a walk that gives new tuples (WalksT), as a Turn -/
/-- own: the walk's cells; Own: what is true of them ahead of turn i. step, stop: the library's walk, found from what stands -/
theorem turn_pairs {P : Program} {w : World} {K : PySem.W.Frag} {elts : List Expr} {kk : Nat} {tpos : Pos} {J : It} {own : List Addr} {it : Addr} {Own : Nat → Heap → Prop} (hit : it ∈ own)
    (live : ∀ i h, Own i h → ∀ c ∈ own, ∃ o, h.get? c = some o ∧ ∀ v, o.data ≠ .cell v)
    (frame : ∀ i h h', Own i h → (∀ c ∈ own, ∀ o, h.get? c = some o → h'.get? c = some o) → Own i h')
    (step : ∀ (X : Cx), X.prog = P → X.w = w → X.K = K → X.A.handled = none → ∀ (i : Nat) (pins : List (Addr × Obj)) (σ : L2.St) (H : Hp) (s : Shared), Inv X pins σ H s → Own i s.heap → J.go i H →
      ∃ fp wr n Pt St Mid, WalksT P w X.A it fp wr n Pt St Mid ∧ (∀ c ∈ wr, c ∈ own) ∧ i < n ∧ St i s.heap ∧ (∀ h', St (i + 1) h' → Own (i + 1) h') ∧
        ∀ us, Pt i us → ∃ xs, Vals xs us.toList ∧ xs.length ≤ sizeLine ∧ ∀ T, H T = none → J.yld i H (.ref T) (upd H T (.tup xs)))
    (stop : ∀ (X : Cx), X.prog = P → X.w = w → X.K = K → X.A.handled = none → ∀ (i : Nat) (pins : List (Addr × Obj)) (σ : L2.St) (H : Hp) (s : Shared), Inv X pins σ H s → Own i s.heap → J.stop i H →
      ∃ fp wr Pt St Mid, WalksT P w X.A it fp wr i Pt St Mid ∧ (∀ c ∈ wr, c ∈ own) ∧ St i s.heap)
    (self : ∀ (A : Around) (i : Nat) (s : Shared) (Q : Value → Shared → Prop) (E : Value → Shared → Prop), Own i s.heap → Q (.ref it) s → wpAny (model P w) A (pyIter (.ref it)) Q E s) :
    Turn P w K (.Tuple elts kk tpos) J own it Own := by
  refine ⟨hit, live, frame, fun X e1 e2 e3 hc i pins s σ H E I hf st hg => ?_, fun X e1 e2 e3 hc i pins s σ H E I hf st hg => ?_, self⟩
  · obtain ⟨fp, wr, n, Pt, St, Mid, W, sub, hlt, hst, nxt, val⟩ := step X e1 e2 e3 (I.ok.hd hc) i pins σ H s I st hg
    have below : ∀ c ∈ own, c < s.heap.objs.size := fun c hm => by
      obtain ⟨o, ho, _⟩ := live i _ st c hm
      exact Heap.lt_size ho
    refine W.item i s _ E hlt hst fun T us h1 tk hus hT hTu hmid k1 => ⟨_, rfl, ?_⟩
    refine W.go elts kk tpos i T { s with heap := h1, toks := tk } _ E hmid fun h2 st2 k2 => ?_
    obtain ⟨xs, rv, hz, hy⟩ := val us hus
    have hnew : H T = none := I.hok.fresh hT
    have tup2 : h2.IsTuple T us := by
      obtain ⟨o, ho, r⟩ := hTu
      exact ⟨o, k2 T o (W.apart i T _ hmid) ho, r⟩
    have laid : ObjOk X.prog X.w (upd H T (.tup xs)) h2 T (.tup xs) := ⟨hz, us.toList, rv, by rw [Array.toArray_toList]; exact tup2⟩
    refine ⟨.ref T, upd H T (.tup xs), I.turnedNew (t' := tk) (ch := own) (fun c o hn q => k2 c o (fun z => hn (sub c z)) (k1 c o (fun z => hn (sub c z)) q)) hf hT laid, rfl, hy T hnew, nxt h2 st2, fun c hm => ?_⟩
    have hlow := below c hm
    rw [upd_ne (fun z => Nat.lt_irrefl _ (Nat.lt_of_lt_of_le (by rw [← z]; exact hlow) hT))]
    exact (hf c hm).1
  · obtain ⟨fp, wr, Pt, St, Mid, W, sub, hst⟩ := stop X e1 e2 e3 (I.ok.hd hc) i pins σ H s I st hg
    subst e1 e2
    exact W.done s _ E hst fun h1 tk k1 => ⟨rfl, I.turnedL (t' := tk) (ch := own) (fun c o hn q => k1 c o (fun z => hn (sub c z)) q) hf⟩
/-- the item of a sequence that stands -/
theorem SqB.item {X : Cx} {pins : List (Addr × Obj)} {σ : L2.St} {H : Hp} {s : Shared} {a : Addr} {b : Bool} {xs : List V} {its : List Value} {i : Nat} {u : Value} (rv : Vals xs its) (hu : its.toArray[i]? = some u) : ∃ x, xs[i]? = some x ∧ RelV x u := by
  have h1 : its[i]? = some u := by simpa using hu
  cases e : xs[i]? with
  | none =>
    rw [rv.none_of e] at h1
    cases h1
  | some x =>
    obtain ⟨u', h2, r⟩ := rv.get e
    rw [h1] at h2
    cases h2
    exact ⟨x, rfl, r⟩

/-! ### enumerate -/
/-- enumerate's maker, over whatever an iterator is made of -/
theorem meets_enumOne {v : Value} {o : Obj} {G : Heap → Prop} (B : Begins v o G) :
    Meets (Builtin.«enumerate.__new__» ⟨[.type "enumerate", v], []⟩) (fun _ R s => G s.heap ∧
      R (.ok (.ret (.ref (s.heap.push o).objs.size))) { s with heap := (s.heap.push o).push { cls := .type "enumerate", data := .fields #[.none, .bool false, .ref s.heap.objs.size, rawInt 0, .none, .none] } }) := by
  refine .of_wp fun prog w A R s hs => ?_
  obtain ⟨heap, gens, drawn, toks, os⟩ := s
  obtain ⟨hG, hR⟩ := hs
  have isA := sub_enumerate
  have begin_ : ∀ {A' : Around} {E' : Value → Shared → Prop} {Q' : Value → Shared → Prop}, Q' (.ref heap.objs.size) ⟨heap.push o, gens, drawn, toks, os⟩ →
      wpAny (model prog w) A' (pyIter v) Q' E' ⟨heap, gens, drawn, toks, os⟩ := fun q => B.iter prog w _ _ ⟨heap, gens, drawn, toks, os⟩ _ hG q
  wp_walk using begin_
  refine wpAny_stack_any fun frames => wpAny_pure ?_
  split
  · rename_i cls _ _ _ _ _
    cases (cls == Value.type "enumerate") <;> (wp_walk using begin_; exact ⟨_, rfl, hR⟩)
  · wp_walk using begin_
    exact ⟨_, rfl, hR⟩
theorem call_enumOne {prog : Program} {w : World} {A : Around} {E : Value → Shared → Prop} {s : Shared} {v : Value} {o : Obj} {G : Heap → Prop} {Q : Value → Shared → Prop} (B : Begins v o G) (hG : G s.heap)
    (k : ∀ h1, IsEnum h1 (s.heap.objs.size + 1) s.heap.objs.size 0 .none → h1.get? s.heap.objs.size = some o → (∀ c u, s.heap.get? c = some u → h1.get? c = some u) → Q (.ref (s.heap.objs.size + 1)) { s with heap := h1 }) :
    wpAny (model prog w) A (call (.type "enumerate") [v]) Q E s := by
  have one : (s.heap.push o).objs.size = s.heap.objs.size + 1 := by rw [Heap.size_push]
  refine callType_new F.called_enumerate (by decide) (F.typeCall_enumerate_1 _) (F.newCall_enumerate_1 _) (fun x => F.args_object_init_2 x _) F.entry_enumerate_new (meets_enumOne B) ⟨hG, ?_⟩
  have there := Heap.get?_push_size (s.heap.push o) (o := { cls := .type "enumerate", data := .fields #[.none, .bool false, .ref s.heap.objs.size, rawInt 0, .none, .none] }) rfl
  show _ ∧ _
  rw [one] at there ⊢
  exact ⟨⟨_, there, rfl⟩, k _ there (Heap.get?_push_of_some _ (Heap.get?_push_size _ B.free)) fun c u e => Heap.get?_push_of_some _ (Heap.get?_push_of_some _ e)⟩
def IteB (K : PySem.W.Frag) (a : Addr) (b : Bool) : It where
  go := fun i H => ∃ (xs : List V) (x : V), SqB K H a b xs ∧ xs[i]? = some x
  yld := fun i H v H' => ∃ T x, v = .ref T ∧ H T = none ∧ H' = upd H T (.tup [.int (i : Nat), x]) ∧ ∀ xs, SqB K H a b xs → xs[i]? = some x
  stop := fun i H => ∃ xs : List V, SqB K H a b xs ∧ xs.length = i
def OwnE (a e it : Addr) (b : Bool) (i : Nat) (h : Heap) : Prop := (∃ old, IsEnum h e it ((i : Nat) : Int) old) ∧ ItrB h it a i b ∧ e ≠ it ∧ e ≠ a ∧ it ≠ a
theorem turn_enumB {P : Program} {w : World} {K : PySem.W.Frag} {elts : List Expr} {kk : Nat} {tpos : Pos} (a e it : Addr) (b : Bool) : Turn P w K (.Tuple elts kk tpos) (IteB K a b) [e, it] e (OwnE a e it b) := by
  refine turn_pairs (by simp) (fun i h st c hm => ?_) (fun i h h' st k => ?_) (fun X e1 e2 e3 hh i pins σ H s I st hg => ?_) (fun X e1 e2 e3 hh i pins σ H s I st hg => ?_) fun A i s Q E st q => ?_
  · obtain ⟨⟨old, h1⟩, h2, _⟩ := st
    rcases List.mem_cons.mp hm with rfl | hm
    · exact ⟨_, h1, fun v z => nomatch z⟩
    · rw [List.mem_singleton.mp hm]
      exact h2.obj
  · obtain ⟨⟨old, h1⟩, h2, ne⟩ := st
    exact ⟨⟨old, k e (by simp) _ h1⟩, h2.at fun o z => k it (by simp) o z, ne⟩
  · subst e1 e2 e3
    obtain ⟨⟨old, h1⟩, h2, n1, n2, n3⟩ := st
    obtain ⟨xs, x, hq, hx⟩ := hg
    obtain ⟨its, rv, p, hz, _⟩ := SqB.get I hq
    have hi : i < its.toArray.size := by
      have hlt := (List.getElem?_eq_some_iff.mp hx).1
      rw [rv.length] at hlt
      simpa using hlt
    refine ⟨_, _, _, _, _, _, WalksT.enumerateD (drawsB (handled_in1 hh) it a (Ne.symm n3) its.toArray b) e n1 (by simp [n1, n2]) (by simp), fun c hm => by simpa using hm, hi, ⟨⟨old, h1⟩, h2, p⟩, fun h' z => ⟨z.1, z.2.1, n1, n2, n3⟩, ?_⟩
    rintro us ⟨t, u, hu, rfl⟩
    obtain ⟨y, hy, ry⟩ := SqB.item (X := X) (pins := pins) (σ := σ) (H := H) (s := s) (a := a) (b := b) rv hu
    exact ⟨[.int (i : Nat), y], .cons ⟨t, rfl⟩ (.cons ry .nil), by show 2 ≤ sizeLine; decide, fun T hT => ⟨T, y, rfl, hT, rfl, fun ys hys => by rw [SqB.inj I hys hq]; exact hy⟩⟩
  · subst e1 e2 e3
    obtain ⟨⟨old, h1⟩, h2, n1, n2, n3⟩ := st
    obtain ⟨xs, hq, hx⟩ := hg
    obtain ⟨its, rv, p, hz, _⟩ := SqB.get I hq
    have hi : i = its.toArray.size := by
      rw [rv.length] at hx
      simpa using hx.symm
    subst hi
    exact ⟨_, _, _, _, _, WalksT.enumerateD (drawsB (handled_in1 hh) it a (Ne.symm n3) its.toArray b) e n1 (by simp [n1, n2]) (by simp), fun c hm => by simpa using hm, ⟨⟨old, h1⟩, h2, p⟩⟩
  · obtain ⟨⟨old, h1⟩, _⟩ := st
    exact wpAny_pyIter_enum h1 q
def iEnumB (K : PySem.W.Frag) (ta : TA) : TI := fun σ H R => ta σ H fun vs H1 => ∃ a b xs, vs = [.ref a] ∧ SqB K H1 a b xs ∧ R (IteB K a b) H1
theorem vals_ref1 {a : Addr} {us : List Value} (r : Vals [.ref a] us) : us = [.ref a] := by
  cases r with
  | cons r1 rr => cases rr; cases r1; rfl
theorem vals_ref2 {a c : Addr} {us : List Value} (r : Vals [.ref a, .ref c] us) : us = [.ref a, .ref c] := by
  cases r with
  | cons r1 rr =>
    cases rr with
    | cons r2 rr => cases rr; cases r1; cases r2; rfl
theorem pi_enumB {X : Cx} {e : Expr} {ta : TA} {p pos tpos : Pos} {elts : List Expr} {kk : Nat} (hg : Gl X "enumerate") (hm : X.mg "enumerate" = none) (ha : PA X [e] ta) (hst : starEach [e] X.env = [(false, eval e X.env)] := by rfl) :
    PI X (.Tuple elts kk tpos) (.Call (.Name "enumerate" p) [e] [] pos) (iEnumB X.K ta) := by
  constructor
  intro pins s σ H R I h
  refine Call_ (ld_blt I hg hm boot_enumerate (PyProof.Rows.callWith_type1 ?_ hst rfl))
  refine thn (ha.run pos pins s σ H _ I h) fun us s1 ⟨vs, H1, I1, r1, a, b, xs, ev, hq, q⟩ => ?_
  subst ev
  rw [vals_ref1 r1]
  obtain ⟨its, rv, sq, hz, low⟩ := SqB.get I1 hq
  refine call_enumOne (beginsB a its.toArray b) sq fun h1 he hi k1 => wpAny_pyIter_enum he ?_
  have apart : OwnE a (s1.heap.objs.size + 1) s1.heap.objs.size b 0 h1 :=
    ⟨⟨.none, he⟩, ItrB.new hi, Nat.succ_ne_self _, Nat.ne_of_gt (Nat.lt_of_lt_of_le low (Nat.le_succ _)), Nat.ne_of_gt low⟩
  refine ⟨s1.heap.objs.size + 1, [s1.heap.objs.size + 1, s1.heap.objs.size], _, _, H1, rfl, I1.kept (t' := s1.toks) k1, turn_enumB a (s1.heap.objs.size + 1) s1.heap.objs.size b, apart, fun c hc => ?_, q⟩
  have up : s1.heap.objs.size ≤ c := by
    rcases List.mem_cons.mp hc with rfl | hc
    · exact Nat.le_succ _
    · rw [List.mem_singleton.mp hc]; exact Nat.le_refl _
  exact I1.fpOk up (I1.hok.fresh up)

/-! ### zip -/
def ItzB (K : PySem.W.Frag) (a c : Addr) (b b' : Bool) : It where
  go := fun i H => ∃ (xs ys : List V) (x y : V), SqB K H a b xs ∧ SqB K H c b' ys ∧ xs[i]? = some x ∧ ys[i]? = some y
  yld := fun i H v H' => ∃ T x y, v = .ref T ∧ H T = none ∧ H' = upd H T (.tup [x, y]) ∧ (∀ xs, SqB K H a b xs → xs[i]? = some x) ∧ ∀ ys, SqB K H c b' ys → ys[i]? = some y
  stop := fun i H => ∃ xs ys : List V, SqB K H a b xs ∧ SqB K H c b' ys ∧ i = min xs.length ys.length
/-- the cells of a zip over a and c -/
structure ZipOff (z TI TO i1 i2 a c : Addr) : Prop where
  TIz : TI ≠ z
  TOz : TO ≠ z
  TITO : TI ≠ TO
  TIi1 : TI ≠ i1
  TIi2 : TI ≠ i2
  zi1 : z ≠ i1
  zi2 : z ≠ i2
  Ti1 : TO ≠ i1
  Ti2 : TO ≠ i2
  i12 : i1 ≠ i2
  za : z ≠ a
  zc : z ≠ c
  TOa : TO ≠ a
  TOc : TO ≠ c
  i1a : i1 ≠ a
  i1c : i1 ≠ c
  i2a : i2 ≠ a
  i2c : i2 ≠ c
theorem ZipOff.sep {z TI TO i1 i2 a c : Addr} (D : ZipOff z TI TO i1 i2 a c) : ZipSep2 z TI TO i1 i2 [i1, a] [i2, c] :=
  ⟨D.TIz, D.TOz, D.TITO, D.TIi1, by simp, by simp [D.zi1, D.za], by simp [D.Ti1, D.TOa], D.TIi2, by simp, by simp [D.zi2, D.zc], by simp [D.Ti2, D.TOc], by simp [D.i12, D.i1c], by simp [D.i12.symm, D.i2a]⟩
theorem zipOff_new {n a c : Nat} (ha : a < n) (hc : c < n) : ZipOff (n + 4) (n + 2) (n + 3) n (n + 1) a c := by
  constructor <;> (show ¬ ((_ : Nat) = _); omega)
def OwnZ (a c z TI TO i1 i2 : Addr) (b b' : Bool) (i : Nat) (h : Heap) : Prop := IsZip h z TI TO .none ∧ IsTupOf2 h TI (.ref i1) (.ref i2) ∧ (∃ x y, IsTupOf2 h TO x y) ∧ ItrB h i1 a i b ∧ ItrB h i2 c i b'
theorem turn_zipB {P : Program} {w : World} {K : PySem.W.Frag} {elts : List Expr} {kk : Nat} {tpos : Pos} {a c z TI TO i1 i2 : Addr} {b b' : Bool} (D : ZipOff z TI TO i1 i2 a c) :
    Turn P w K (.Tuple elts kk tpos) (ItzB K a c b b') [z, TI, TO, i1, i2] z (OwnZ a c z TI TO i1 i2 b b') := by
  have inOwn : ∀ e, e ∈ [z, TO, i1, i2] → e ∈ [z, TI, TO, i1, i2] := fun e hm => by
    simp only [List.mem_cons, List.not_mem_nil, or_false] at hm ⊢
    rcases hm with q | q | q | q <;> simp [q]
  refine turn_pairs (by simp) (fun i h st e hm => ?_) (fun i h h' st k => ?_) (fun X e1 e2 e3 hh i pins σ H s I st hg => ?_) (fun X e1 e2 e3 hh i pins σ H s I st hg => ?_) fun A i s Q E st q => wpAny_pyIter_zip st.1 q
  · obtain ⟨g1, g2, ⟨x, y, g3⟩, g4, g5⟩ := st
    simp only [List.mem_cons, List.not_mem_nil, or_false] at hm
    rcases hm with rfl | rfl | rfl | rfl | rfl
    · exact ⟨_, g1, fun v q => nomatch q⟩
    · exact ⟨_, g2, fun v q => nomatch q⟩
    · exact ⟨_, g3, fun v q => nomatch q⟩
    · exact g4.obj
    · exact g5.obj
  · obtain ⟨g1, g2, ⟨x, y, g3⟩, g4, g5⟩ := st
    exact ⟨k z (by simp) _ g1, k TI (by simp) _ g2, ⟨x, y, k TO (by simp) _ g3⟩, g4.at (k i1 (by simp)), g5.at (k i2 (by simp))⟩
  · subst e1 e2 e3
    obtain ⟨g1, g2, g3, g4, g5⟩ := st
    obtain ⟨xs, ys, x, y, qx, qy, hx, hy⟩ := hg
    obtain ⟨its, rv, p, _, _⟩ := SqB.get I qx
    obtain ⟨jts, rw', p', _, _⟩ := SqB.get I qy
    have m1 : i < its.length := by rw [← rv.length]; exact (List.getElem?_eq_some_iff.mp hx).1
    have m2 : i < jts.length := by rw [← rw'.length]; exact (List.getElem?_eq_some_iff.mp hy).1
    refine ⟨_, _, _, _, _, _, WalksT.zipD2 D.sep (drawsB (handled_in1 hh) i1 a (Ne.symm D.i1a) its.toArray b) (drawsB (handled_in1 hh) i2 c (Ne.symm D.i2c) jts.toArray b'), inOwn, by simp; omega, ⟨g1, g2, g3, ⟨g4, p⟩, g5, p'⟩,
      fun h' ⟨q1, q2, q3, q4, q5⟩ => ⟨q1, q2, q3, q4.1, q5.1⟩, ?_⟩
    rintro us ⟨u, u', hu, hu', rfl⟩
    obtain ⟨x1, hx1, r1⟩ := SqB.item (X := X) (pins := pins) (σ := σ) (H := H) (s := s) (a := a) (b := b) rv hu
    obtain ⟨y1, hy1, r2⟩ := SqB.item (X := X) (pins := pins) (σ := σ) (H := H) (s := s) (a := a) (b := b) rw' hu'
    exact ⟨[x1, y1], .cons r1 (.cons r2 .nil), by show 2 ≤ sizeLine; decide, fun T hT => ⟨T, x1, y1, rfl, hT, rfl, fun l hl => by rw [SqB.inj I hl qx]; exact hx1, fun l hl => by rw [SqB.inj I hl qy]; exact hy1⟩⟩
  · subst e1 e2 e3
    obtain ⟨g1, g2, g3, g4, g5⟩ := st
    obtain ⟨xs, ys, qx, qy, hi⟩ := hg
    obtain ⟨its, rv, p, _, _⟩ := SqB.get I qx
    obtain ⟨jts, rw', p', _, _⟩ := SqB.get I qy
    have hi' : i = min its.toArray.size jts.toArray.size := by simp; rw [← rv.length, ← rw'.length]; exact hi
    subst hi'
    exact ⟨_, _, _, _, _, WalksT.zipD2 D.sep (drawsB (handled_in1 hh) i1 a (Ne.symm D.i1a) its.toArray b) (drawsB (handled_in1 hh) i2 c (Ne.symm D.i2c) jts.toArray b'), inOwn, ⟨g1, g2, g3, ⟨g4, p⟩, g5, p'⟩⟩
def iZipB (K : PySem.W.Frag) (ta : TA) : TI := fun σ H R => ta σ H fun vs H1 => ∃ a c b b' xs ys, vs = [.ref a, .ref c] ∧ SqB K H1 a b xs ∧ SqB K H1 c b' ys ∧ R (ItzB K a c b b') H1
theorem five_up {n c : Nat} (h : c ∈ [n + 4, n + 2, n + 3, n, n + 1]) : n ≤ c := by
  simp only [List.mem_cons, List.not_mem_nil, or_false] at h
  omega
theorem pi_zipB {X : Cx} {e e2 : Expr} {ta : TA} {p pos tpos : Pos} {elts : List Expr} {kk : Nat} (hg : Gl X "zip") (hm : X.mg "zip" = none) (ha : PA X [e, e2] ta)
    (hst : starEach [e, e2] X.env = (false, eval e X.env) :: starEach [e2] X.env := by rfl) (hpl : (backTo pos (starEach [e2] X.env)).any (·.1) = false := by rfl) : PI X (.Tuple elts kk tpos) (.Call (.Name "zip" p) [e, e2] [] pos) (iZipB X.K ta) := by
  constructor
  intro pins s σ H R I h
  refine Call_ (ld_blt I hg hm PyProof.Rows.boot_zip (PyProof.Rows.callWith_type1 ?_ hst hpl))
  refine thn (ha.run pos pins s σ H _ I h) fun us s1 ⟨vs, H1, I1, r1, a, c, b, b', xs, ys, ev, qx, qy, q⟩ => ?_
  subst ev
  rw [vals_ref2 r1]
  obtain ⟨its, rv, p1, _, la⟩ := SqB.get I1 qx
  obtain ⟨jts, rw', p2, _, lc⟩ := SqB.get I1 qy
  refine zip_begins2 (beginsB a its.toArray b) (beginsB c jts.toArray b') p1 p2 fun h1 g1 g2 g3 g4 g5 _ k1 => wpAny_pyIter_zip g1 ?_
  exact ⟨_, [s1.heap.objs.size + 4, s1.heap.objs.size + 2, s1.heap.objs.size + 3, s1.heap.objs.size, s1.heap.objs.size + 1], _, _, H1, rfl, I1.kept (t' := s1.toks) k1, turn_zipB (zipOff_new la lc),
    ⟨g1, g2, ⟨_, _, g3⟩, ItrB.new g4, ItrB.new g5⟩, fun e hm => I1.fpOk (five_up hm) (I1.hok.fresh (five_up hm)), q⟩

end ML
set_option Elab.async false
set_option linter.all false
set_option maxRecDepth 100000
set_option maxHeartbeats 2000000
/-! list(zip(a, b)): the pairs stay, each a new tuple. -/
namespace ML
open PySem PySem.Spec PyProof.Rows L2

section
variable {prog : Program} {w : World} {A : Around} {E : Value → Shared → Prop} {s : Shared} {a c z TI TO i1 i2 : Addr} {b b' : Bool} {its jts : Array Value}
/-- the next pair while the one before is kept -/
theorem zip_kept_item {T : Addr} {f : Bool} {oT : Obj} {i : Nat} {Q : Option Value → Shared → Prop} (hh : A.handled = none) (D : ZipOff z TI TO i1 i2 a c) (hz : IsZipHeld s.heap z TI TO T f) (hT : s.heap.get? T = some oT) (hTI : IsTupOf2 s.heap TI (.ref i1) (.ref i2))
    (h1 : ItrB s.heap i1 a i b) (p1 : SeqB s.heap a its b) (h2 : ItrB s.heap i2 c i b') (p2 : SeqB s.heap c jts b') (l1 : i < its.size) (l2 : i < jts.size)
    (k : ∀ u v h1 tk, its[i]? = some u → jts[i]? = some v → IsZipHeld h1 z TI TO T true → (ItrB h1 i1 a (i + 1) b ∧ SeqB h1 a its b) → (ItrB h1 i2 c (i + 1) b' ∧ SeqB h1 c jts b') → IsTupOf2 h1 s.heap.objs.size u v → h1.objs.size = s.heap.objs.size + 1 →
      (∀ e o, e ≠ z → e ≠ i1 → e ≠ i2 → s.heap.get? e = some o → h1.get? e = some o) → Q (some (.ref s.heap.objs.size)) { s with heap := h1, toks := tk }) :
    wpAny (model prog w) A (pyNext (.ref z)) Q E s := by
  obtain ⟨heap, gens, drawn, toks, os⟩ := s
  have D1 := drawsB (prog := prog) (w := w) (A := A.in1) (handled_in1 hh) i1 a (Ne.symm D.i1a) its b
  have D2 := drawsB (prog := prog) (w := w) (A := A.in1) (handled_in1 hh) i2 c (Ne.symm D.i2c) jts b'
  have off1 : z ∉ [i1, a] := by simp [D.zi1, D.za]
  have off2 : z ∉ [i2, c] := by simp [D.zi2, D.zc]
  have off12 : i1 ∉ [i2, c] := by simp [D.i12, D.i1c]
  have off21 : i2 ∉ [i1, a] := by simp [D.i12.symm, D.i2a]
  have ty : Shared.TypeIs ⟨heap, gens, drawn, toks, os⟩ (.ref z) "zip" := ⟨_, hz, rfl⟩
  unfold pyNext
  refine wpAny_bind (wpAny_attempt (wpAny_callSpecial?_slot (name := Str.ofString "__next__") ty F.slot_zip_next (wpAny_call_entry F.slot_zip_next ty F.entry_zip_next ?_ (F.args_zip_next_1 _))))
  show wpAny _ _ (field (.ref z) 2 >>= _) _ _ _
  refine wpAny_bind (wpAny_field hz rfl (x := .bool false) rfl ?_)
  show wpAny _ _ (field (.ref z) 3 >>= _) _ _ _
  refine wpAny_bind (wpAny_field hz rfl (x := .ref TI) rfl ?_)
  refine wpAny_bind (wpAny_seqItems hTI rfl ?_)
  show wpAny _ _ (Builtin.SmallTypes.ownedTupleIsFree (.ref z) >>= _) _ _ _
  refine wpAny_bind (wpAny_tupleHeld_zip hz hT fun g0 hz0 sb0 => ?_)
  replace sb0 : Heap.SameBut z heap g0 := sb0
  simp only [Bool.false_eq_true, if_false]
  refine wpAny_bind ?_
  rw [← Array.forIn_toList]
  simp only [List.forIn_cons, List.forIn_nil]
  refine wpAny_bind (wpAny_bind (wpAny_holding ?_))
  show wpAny _ _ (Builtin.SmallTypes.nextOf (.ref i1) >>= _) _ _ ⟨g0, gens, drawn, toks, os⟩
  refine wpAny_bind (D1.item i _ _ _ l1 (D1.over ⟨h1, p1⟩ sb0 off1) fun u g1 tk1 hu st1 sb1 => wpAny_pure (wpAny_pure ?_))
  replace sb1 : Heap.SameBut i1 g0 g1 := sb1
  refine wpAny_bind (wpAny_bind (wpAny_holding ?_))
  show wpAny _ _ (Builtin.SmallTypes.nextOf (.ref i2) >>= _) _ _ ⟨g1, gens, drawn, tk1, os⟩
  refine wpAny_bind (D2.item i _ _ _ l2 (D2.over (D2.over ⟨h2, p2⟩ sb0 off2) sb1 off12) fun v g2 tk2 hv st2 sb2 => wpAny_pure (wpAny_pure (wpAny_pure ?_)))
  replace sb2 : Heap.SameBut i2 g1 g2 := sb2
  show wpAny _ _ (newTuple [u, v] >>= _) _ _ _
  refine wpAny_bind (wpAny_newTuple (wpAny_pure ⟨_, rfl, ?_⟩))
  have size2 : g2.objs.size = heap.objs.size := by rw [sb2.1, sb1.1, sb0.1]
  have push : ∀ e o, g2.get? e = some o → (g2.push { cls := .type "tuple", data := .seq #[u, v] }).get? e = some o := fun e o q => Heap.get?_push_of_some _ q
  have here : IsTupOf2 (g2.push { cls := .type "tuple", data := .seq #[u, v] }) g2.objs.size u v := Heap.get?_push_size _ rfl
  have big : (g2.push { cls := .type "tuple", data := .seq #[u, v] }).objs.size = g2.objs.size + 1 := Heap.size_push ..
  refine wpAny_pure ?_
  show Q (some (.ref g2.objs.size)) _
  rw [size2] at here big ⊢
  refine k u v _ tk2 hu hv (push _ _ (sb2.extBut _ _ D.zi2 (sb1.extBut _ _ D.zi1 hz0))) ?_ ?_ here big fun e o n1 n2 n3 q => push _ _ (sb2.extBut _ _ n3 (sb1.extBut _ _ n2 (sb0.extBut _ _ n1 q)))
  · exact D1.frame _ _ _ (D1.over st1 sb2 off21) fun e _ o q => push e o q
  · exact D2.frame _ _ _ st2 fun e _ o q => push e o q
theorem zip_kept_end {T : Addr} {f : Bool} {oT : Obj} {i : Nat} {Q : Option Value → Shared → Prop} (hh : A.handled = none) (D : ZipOff z TI TO i1 i2 a c) (hz : IsZipHeld s.heap z TI TO T f) (hT : s.heap.get? T = some oT) (hTI : IsTupOf2 s.heap TI (.ref i1) (.ref i2))
    (h1 : ItrB s.heap i1 a i b) (p1 : SeqB s.heap a its b) (h2 : ItrB s.heap i2 c i b') (p2 : SeqB s.heap c jts b') (hi : i = min its.size jts.size)
    (k : ∀ h1 tk, (∀ e o, e ≠ z → e ≠ i1 → e ≠ i2 → s.heap.get? e = some o → h1.get? e = some o) → Q none { s with heap := h1, toks := tk }) :
    wpAny (model prog w) A (pyNext (.ref z)) Q E s := by
  obtain ⟨heap, gens, drawn, toks, os⟩ := s
  have D1 := drawsB (prog := prog) (w := w) (A := A.in1) (handled_in1 hh) i1 a (Ne.symm D.i1a) its b
  have D2 := drawsB (prog := prog) (w := w) (A := A.in1) (handled_in1 hh) i2 c (Ne.symm D.i2c) jts b'
  have off1 : z ∉ [i1, a] := by simp [D.zi1, D.za]
  have off2 : z ∉ [i2, c] := by simp [D.zi2, D.zc]
  have off12 : i1 ∉ [i2, c] := by simp [D.i12, D.i1c]
  have ty : Shared.TypeIs ⟨heap, gens, drawn, toks, os⟩ (.ref z) "zip" := ⟨_, hz, rfl⟩
  unfold pyNext
  refine wpAny_bind (wpAny_attempt (wpAny_callSpecial?_slot (name := Str.ofString "__next__") ty F.slot_zip_next (wpAny_call_entry F.slot_zip_next ty F.entry_zip_next ?_ (F.args_zip_next_1 _))))
  have stops : ∀ h1 tk e, (∀ e o, e ≠ z → e ≠ i1 → e ≠ i2 → heap.get? e = some o → h1.get? e = some o) → (∃ o, h1.get? e = some o ∧ o.cls = .type "StopIteration") →
      wpAny (model prog w) A (do if ← isInstance (.ref e) (.type "StopIteration") then pure none else throw (.ref e)) Q E ⟨h1, gens, drawn, tk, os⟩ := fun h1 tk e kp ⟨o, ho, hc⟩ =>
    wpAny_bind (wpAny_isInstance (T := "StopIteration") (b := true) ⟨o, ho, hc⟩ isSubtype_stop (wpAny_pure (k h1 tk kp)))
  show wpAny _ _ (field (.ref z) 2 >>= _) _ _ _
  refine wpAny_bind (wpAny_field hz rfl (x := .bool false) rfl ?_)
  show wpAny _ _ (field (.ref z) 3 >>= _) _ _ _
  refine wpAny_bind (wpAny_field hz rfl (x := .ref TI) rfl ?_)
  refine wpAny_bind (wpAny_seqItems hTI rfl ?_)
  show wpAny _ _ (Builtin.SmallTypes.ownedTupleIsFree (.ref z) >>= _) _ _ _
  refine wpAny_bind (wpAny_tupleHeld_zip hz hT fun g0 hz0 sb0 => ?_)
  replace sb0 : Heap.SameBut z heap g0 := sb0
  simp only [Bool.false_eq_true, if_false]
  refine wpAny_bind ?_
  rw [← Array.forIn_toList]
  simp only [List.forIn_cons, List.forIn_nil]
  refine wpAny_bind (wpAny_bind (wpAny_holding ?_))
  show wpAny _ _ (Builtin.SmallTypes.nextOf (.ref i1) >>= _) _ _ ⟨g0, gens, drawn, toks, os⟩
  by_cases l1 : i < its.size
  · refine wpAny_bind (D1.item i _ _ _ l1 (D1.over ⟨h1, p1⟩ sb0 off1) fun u g1 tk1 hu st1 sb1 => wpAny_pure (wpAny_pure ?_))
    replace sb1 : Heap.SameBut i1 g0 g1 := sb1
    refine wpAny_bind (wpAny_bind (wpAny_holding ?_))
    show wpAny _ _ (Builtin.SmallTypes.nextOf (.ref i2) >>= _) _ _ ⟨g1, gens, drawn, tk1, os⟩
    have hj : i = jts.size := by omega
    subst hj
    exact wpAny_bind (D2.done _ _ _ (D2.over (D2.over ⟨h2, p2⟩ sb0 off2) sb1 off12) fun g2 e sb2 he => stops g2 tk1 e (fun e o n1 n2 n3 q => sb2 _ _ n3 (sb1.extBut _ _ n2 (sb0.extBut _ _ n1 q))) he)
  · have hj : i = its.size := by omega
    subst hj
    exact wpAny_bind (D1.done _ _ _ (D1.over ⟨h1, p1⟩ sb0 off1) fun g1 e sb1 he => stops g1 toks e (fun e o n1 n2 n3 q => sb1 _ _ n2 (sb0.extBut _ _ n1 q)) he)

/-- what stands ahead of turn i -/
structure ZSt (its jts : Array Value) (a c z TI TO i1 i2 S : Addr) (b b' : Bool) (i : Nat) (h : Heap) : Prop where
  pair : IsTupOf2 h TI (.ref i1) (.ref i2)
  fst : ItrB h i1 a i b
  src1 : SeqB h a its b
  snd : ItrB h i2 c i b'
  src2 : SeqB h c jts b'
  zip : (IsZip h z TI TO .none ∧ ∃ x y, IsTupOf2 h TO x y) ∨ ∃ T f oT, IsZipHeld h z TI TO T f ∧ h.get? T = some oT ∧ T ≠ z ∧ T ≠ i1 ∧ T ≠ i2 ∧ T ≠ S
theorem SeqB.at {h h' : Heap} {a : Addr} {its : Array Value} {b : Bool} (x : SeqB h a its b) (k : ∀ o, h.get? a = some o → h'.get? a = some o) : SeqB h' a its b := by
  cases b with
  | true => exact Heap.IsList.at x k
  | false => exact Heap.IsTuple.at x k
theorem ZSt.keep {S : Addr} {i : Nat} {h h' : Heap} (x : ZSt its jts a c z TI TO i1 i2 S b b' i h) (n : ∀ e, e = TI ∨ e = i1 ∨ e = a ∨ e = i2 ∨ e = c ∨ e = z ∨ e = TO → e ≠ S) (k : ∀ e o, e ≠ S → h.get? e = some o → h'.get? e = some o) : ZSt its jts a c z TI TO i1 i2 S b b' i h' := by
  refine ⟨k _ _ (n _ (by simp)) x.pair, x.fst.at fun o q => k _ _ (n _ (by simp)) q, x.src1.at fun o q => k _ _ (n _ (by simp)) q, x.snd.at fun o q => k _ _ (n _ (by simp)) q, x.src2.at fun o q => k _ _ (n _ (by simp)) q, ?_⟩
  rcases x.zip with ⟨q1, u, v, q2⟩ | ⟨T, f, oT, q1, q2, q3, q4, q5, q6⟩
  · exact .inl ⟨k _ _ (n _ (by simp)) q1, u, v, k _ _ (n _ (by simp)) q2⟩
  · exact .inr ⟨T, f, oT, k _ _ (n _ (by simp)) q1, k _ _ q6 q2, q3, q4, q5, q6⟩
theorem zst_item {S : Addr} {i : Nat} {Q : Option Value → Shared → Prop} (hh : A.handled = none) (D : ZipOff z TI TO i1 i2 a c) (hS : S < s.heap.objs.size) (st : ZSt its jts a c z TI TO i1 i2 S b b' i s.heap) (l1 : i < its.size) (l2 : i < jts.size)
    (k : ∀ u v h1 tk, its[i]? = some u → jts[i]? = some v → ZSt its jts a c z TI TO i1 i2 S b b' (i + 1) h1 → IsTupOf2 h1 s.heap.objs.size u v → h1.objs.size = s.heap.objs.size + 1 →
      (∀ e o, e ≠ z → e ≠ TO → e ≠ i1 → e ≠ i2 → s.heap.get? e = some o → h1.get? e = some o) → Q (some (.ref s.heap.objs.size)) { s with heap := h1, toks := tk }) :
    wpAny (model prog w) A (pyNext (.ref z)) Q E s := by
  have low : ∀ {e o}, s.heap.get? e = some o → s.heap.objs.size ≠ e := fun q => Nat.ne_of_gt (Heap.lt_size q)
  obtain ⟨o1, q1, _⟩ := st.fst.obj
  obtain ⟨o2, q2, _⟩ := st.snd.obj
  rcases st.zip with ⟨hz, x, y, hTO⟩ | ⟨T, f, oT, hz, hT, n1, n2, n3, n4⟩
  · refine wpAny_pyNext_zipD2_item D.sep (drawsB (handled_in1 hh) i1 a (Ne.symm D.i1a) its b) (drawsB (handled_in1 hh) i2 c (Ne.symm D.i2c) jts b') hz st.pair hTO ⟨st.fst, st.src1⟩ ⟨st.snd, st.src2⟩ l1 l2 fun u v h1 tk hu hv z1 t1 s1 s2 new size keep => ?_
    exact k u v h1 tk hu hv ⟨keep _ _ D.TIz D.TITO D.TIi1 D.TIi2 st.pair, s1.1, s1.2, s2.1, s2.2, .inr ⟨_, false, _, z1, new, low hz, low q1, low q2, Nat.ne_of_gt hS⟩⟩ new size keep
  · refine zip_kept_item hh D hz hT st.pair st.fst st.src1 st.snd st.src2 l1 l2 fun u v h1 tk hu hv z1 s1 s2 new size keep => ?_
    exact k u v h1 tk hu hv ⟨keep _ _ D.TIz D.TIi1 D.TIi2 st.pair, s1.1, s1.2, s2.1, s2.2, .inr ⟨T, true, oT, z1, keep _ _ n1 n2 n3 hT, n1, n2, n3, n4⟩⟩ new size fun e o m1 _ m3 m4 q => keep e o m1 m3 m4 q
theorem zst_end {S : Addr} {i : Nat} {Q : Option Value → Shared → Prop} (hh : A.handled = none) (D : ZipOff z TI TO i1 i2 a c) (st : ZSt its jts a c z TI TO i1 i2 S b b' i s.heap) (hi : i = min its.size jts.size)
    (k : ∀ h1 tk, (∀ e o, e ≠ z → e ≠ TO → e ≠ i1 → e ≠ i2 → s.heap.get? e = some o → h1.get? e = some o) → Q none { s with heap := h1, toks := tk }) :
    wpAny (model prog w) A (pyNext (.ref z)) Q E s := by
  rcases st.zip with ⟨hz, x, y, hTO⟩ | ⟨T, f, oT, hz, hT, n1, n2, n3, n4⟩
  · exact wpAny_pyNext_zipD2_end D.sep (drawsB (handled_in1 hh) i1 a (Ne.symm D.i1a) its b) (drawsB (handled_in1 hh) i2 c (Ne.symm D.i2c) jts b') hz st.pair hTO ⟨st.fst, st.src1⟩ ⟨st.snd, st.src2⟩ (by omega) (by omega) (by omega) fun h1 tk keep => k h1 tk keep
  · exact zip_kept_end hh D hz hT st.pair st.fst st.src1 st.snd st.src2 hi fun h1 tk keep => k h1 tk fun e o m1 _ m3 m4 q => keep e o m1 m3 m4 q

/-- the pairs made so far, above the cell z -/
structure ZPairs (its jts : Array Value) (z : Addr) (h : Heap) (as : List Addr) : Prop where
  up : as.Pairwise (· < ·)
  above : ∀ t ∈ as, z < t
  got : ∀ (j : Nat) (t : Addr), as[j]? = some t → ∃ u v, its[j]? = some u ∧ jts[j]? = some v ∧ IsTupOf2 h t u v
theorem ZPairs.lt {h : Heap} {as : List Addr} (g : ZPairs its jts z h as) {t : Addr} (ht : t ∈ as) : t < h.objs.size := by
  obtain ⟨j, hj⟩ := List.mem_iff_getElem?.mp ht
  obtain ⟨_, _, _, _, e⟩ := g.got j t hj
  exact Heap.lt_size e
/-- the cells of the zip are low -/
structure ZLow (a c z TI TO i1 i2 S : Addr) : Prop where
  off : ZipOff z TI TO i1 i2 a c
  notS : ∀ e, e = TI ∨ e = i1 ∨ e = a ∨ e = i2 ∨ e = c ∨ e = z ∨ e = TO → e ≠ S
  low : TO < z ∧ i1 < z ∧ i2 < z ∧ z < S
theorem zip_fill {S : Addr} {R : Result → Shared → Prop} (hh : A.handled = none) (Z : ZLow a c z TI TO i1 i2 S) (res : Value) (hn : its.size ≤ sizeLine) {g : Heap}
    (k : ∀ h1 tk acc n as, (∀ e o, e ≠ S → e ≠ z → e ≠ TO → e ≠ i1 → e ≠ i2 → g.get? e = some o → h1.get? e = some o) → h1.get? S = some { cls := .type "list", dict := none, data := .seq acc n, slots := #[] } →
      as.length = min its.size jts.size → ZPairs its jts S h1 as → acc.toList = as.map Value.ref → R (.ok (.ret res)) { s with heap := h1, toks := tk }) :
    ∀ (m i : Nat) (h : Heap) (tk n : Nat) (acc : Array Value) (as : List Addr), min its.size jts.size - i = m → i ≤ min its.size jts.size → ZSt its jts a c z TI TO i1 i2 S b b' i h →
      (∀ e o, e ≠ S → e ≠ z → e ≠ TO → e ≠ i1 → e ≠ i2 → g.get? e = some o → h.get? e = some o) → h.get? S = some { cls := .type "list", dict := none, data := .seq acc n, slots := #[] } →
      acc.toList = as.map Value.ref → as.length = i → ZPairs its jts S h as →
      codeAny (model prog w) A (.builtin "list.extend.loop" ⟨[.ref S, .ref z, res], []⟩) R { s with heap := h, toks := tk } := by
  obtain ⟨D, notS, lTO, li1, li2, lz⟩ := Z
  have Sz : S ≠ z := (notS z (by simp)).symm
  have STO : S ≠ TO := (notS TO (by simp)).symm
  have S1 : S ≠ i1 := (notS i1 (by simp)).symm
  have S2 : S ≠ i2 := (notS i2 (by simp)).symm
  have high : ∀ {t : Addr}, S < t → t ≠ z ∧ t ≠ TO ∧ t ≠ i1 ∧ t ≠ i2 ∧ t ≠ S := fun {t} h => by
    have hz : z < t := Nat.lt_trans lz h
    exact ⟨Nat.ne_of_gt hz, Nat.ne_of_gt (Nat.lt_trans lTO hz), Nat.ne_of_gt (Nat.lt_trans li1 hz), Nat.ne_of_gt (Nat.lt_trans li2 hz), Nat.ne_of_gt h⟩
  intro m
  induction m with
  | zero =>
    intro i h tk n acc as hm hi st keep hS hacc hal G
    refine codeAny_builtin PySem.F.entry_extend_loop ?_
    rw [Around.under_plainId PySem.F.plain_extend_loop _]
    show wpAny _ A.in1 (pyNext (.ref z) >>= _) _ _ _
    refine wpAny_bind (zst_end (A := A.in1) (s := { s with heap := h, toks := tk }) (handled_in1 hh) D st (by omega) fun h1 tk1 kp => wpAny_pure ?_)
    refine k h1 tk1 acc n as (fun e o n1 n2 n3 n4 n5 q => kp e o n2 n3 n4 n5 (keep e o n1 n2 n3 n4 n5 q)) (kp S _ Sz STO S1 S2 hS) (by omega) ⟨G.up, G.above, fun j t hj => ?_⟩ hacc
    obtain ⟨u, v, e1, e2, e3⟩ := G.got j t hj
    obtain ⟨n1, n2, n3, n4, _⟩ := high (G.above t (List.mem_of_getElem? hj))
    exact ⟨u, v, e1, e2, kp t _ n1 n2 n3 n4 e3⟩
  | succ m ih =>
    intro i h tk n acc as hm hi st keep hS hacc hal G
    have Sl : S < h.objs.size := Heap.lt_size hS
    have size_i : acc.size = i := by rw [← Array.length_toList, hacc, List.length_map, hal]
    refine codeAny_builtin PySem.F.entry_extend_loop ?_
    rw [Around.under_plainId PySem.F.plain_extend_loop _]
    show wpAny _ A.in1 (pyNext (.ref z) >>= _) _ _ _
    refine wpAny_bind (zst_item (A := A.in1) (s := { s with heap := h, toks := tk }) (handled_in1 hh) D Sl st (by omega) (by omega) fun u v h1 tk1 hu hv st1 new size kp => ?_)
    dsimp only at new size kp ⊢
    have hS1 := kp S _ Sz STO S1 S2 hS
    have other : ∀ e o, e ≠ S → h1.get? e = some o → (h1.update S (Obj.mapSeq (·.push (Value.ref h.objs.size)))).get? e = some o := fun e o ne q => (Heap.get?_update_other _ _ (Ne.symm ne)).trans q
    show wpAny _ A.in1 (updateSeq S (·.push (Value.ref h.objs.size)) >>= _) _ _ _
    refine wpAny_bind (wpAny_updateSeq hS1 rfl (wpAny_pure ⟨plainId_quiet PySem.F.plain_extend_loop _, ?_⟩) (by rw [size_i]; omega) (by show (acc.push (Value.ref h.objs.size)).size ≤ sizeLine + 1; rw [Array.size_push, size_i]; omega))
    refine ih (i + 1) _ tk1 _ (acc.push (Value.ref h.objs.size)) (as ++ [h.objs.size]) (by omega) (by omega) (st1.keep notS other) (fun e o n1 n2 n3 n4 n5 q => other e o n1 (kp e o n2 n3 n4 n5 (keep e o n1 n2 n3 n4 n5 q))) (Heap.get?_update_self _ hS1 rfl)
      (by rw [Array.toList_push, hacc, List.map_append]; rfl) (by rw [List.length_append, hal]; rfl) ⟨?_, fun t ht => ?_, fun j t hj => ?_⟩
    · refine List.pairwise_append.mpr ⟨G.up, List.pairwise_singleton _ _, fun x hx y hy => ?_⟩
      rw [List.mem_singleton.mp hy]
      exact G.lt hx
    · rcases List.mem_append.mp ht with ht | ht
      · exact G.above t ht
      · rw [List.mem_singleton.mp ht]; exact Sl
    · by_cases hjl : j < as.length
      · rw [List.getElem?_append_left hjl] at hj
        obtain ⟨u', v', e1, e2, e3⟩ := G.got j t hj
        obtain ⟨n1, n2, n3, n4, n5⟩ := high (G.above t (List.mem_of_getElem? hj))
        exact ⟨u', v', e1, e2, other t _ n5 (kp t _ n1 n2 n3 n4 e3)⟩
      · rw [List.getElem?_append_right (by omega)] at hj
        cases q : j - as.length with
        | zero =>
          rw [q] at hj
          have e : h.objs.size = t := by simpa using hj
          subst e
          have ej : j = i := by omega
          subst ej
          exact ⟨u, v, hu, hv, other _ _ (Nat.ne_of_gt Sl) new⟩
        | succ r => rw [q] at hj; simp at hj
theorem zip_no_len : typeLookup (.type "zip") "__len__" = pure none := am_miss_of_fast (by decide +kernel)
theorem zip_no_hint : typeLookup (.type "zip") "__length_hint__" = pure none := am_miss_of_fast (by decide +kernel)
theorem zip_hint (ty : s.TypeIs (.ref z) "zip") {Q : Bool → Shared → Prop} (k : Q true s) : wpAny (model prog w) A (Builtin.List.listLengthHint (.ref z)) Q E s := by
  unfold Builtin.List.listLengthHint
  refine wpAny_bind (wpAny_specialOf ty zip_no_len ?_)
  exact wpAny_bind (wpAny_specialOf ty zip_no_hint (wpAny_pure k))
/-- list(z), z a zip that was just made -/
theorem call_listZip {Q : Value → Shared → Prop} (hh : A.handled = none) (D : ZipOff z TI TO i1 i2 a c) (low : TO < z ∧ i1 < z ∧ i2 < z) (hn : its.size ≤ sizeLine) (st : ∀ S, s.heap.objs.size ≤ S → ZSt its jts a c z TI TO i1 i2 S b b' 0 s.heap)
    (k : ∀ h1 tk acc n as, (∀ e o, e ≠ z → e ≠ TO → e ≠ i1 → e ≠ i2 → s.heap.get? e = some o → h1.get? e = some o) → h1.get? s.heap.objs.size = some { cls := .type "list", dict := none, data := .seq acc n, slots := #[] } →
      as.length = min its.size jts.size → ZPairs its jts s.heap.objs.size h1 as → acc.toList = as.map Value.ref → Q (.ref s.heap.objs.size) { s with heap := h1, toks := tk }) :
    wpAny (model prog w) A (call (.type "list") [.ref z]) Q E s := by
  obtain ⟨heap, gens, drawn, toks, os⟩ := s
  have st0 := st heap.objs.size (Nat.le_refl _)
  have zAt : ∃ fs, heap.get? z = some { cls := .type "zip", dict := none, data := .fields fs, slots := #[] } := by
    rcases st0.zip with ⟨q, _⟩ | ⟨_, _, _, q, _⟩
    · exact ⟨_, q⟩
    · exact ⟨_, q⟩
  obtain ⟨fs, hz⟩ := zAt
  have small : ∀ {e o}, heap.get? e = some o → e < heap.objs.size := fun q => Heap.lt_size q
  have notS : ∀ e, e = TI ∨ e = i1 ∨ e = a ∨ e = i2 ∨ e = c ∨ e = z ∨ e = TO → e < heap.objs.size := fun e he => by
    have lz : z < heap.objs.size := small hz
    rcases he with rfl | rfl | rfl | rfl | rfl | rfl | rfl
    · exact small st0.pair
    · exact Nat.lt_trans low.2.1 lz
    · cases b with
      | true => obtain ⟨o, q, _⟩ := st0.src1; exact small q
      | false => obtain ⟨o, q, _⟩ := st0.src1; exact small q
    · exact Nat.lt_trans low.2.2 lz
    · cases b' with
      | true => obtain ⟨o, q, _⟩ := st0.src2; exact small q
      | false => obtain ⟨o, q, _⟩ := st0.src2; exact small q
    · exact lz
    · exact Nat.lt_trans low.1 lz
  have Z : ZLow a c z TI TO i1 i2 heap.objs.size := ⟨D, fun e he => Nat.ne_of_lt (notS e he), low.1, low.2.1, low.2.2, small hz⟩
  refine callType_codes (Q₁ := fun x s₁ => x = .ref heap.objs.size ∧ s₁ = ⟨heap.push { cls := .type "list", data := .seq #[] }, gens, drawn, toks, os⟩) PySem.F.called_list (PySem.F.typeCall_list_1 _) PySem.F.entry_list_init (code_list_new _ ⟨rfl, rfl⟩) fun x s₁ hx => ?_
  obtain ⟨rfl, rfl⟩ := hx
  have hS : (heap.push { cls := .type "list", data := .seq #[] }).get? heap.objs.size = some { cls := .type "list", data := .seq #[] } := Heap.get?_push_size _ rfl
  refine ⟨⟨_, hS, rfl⟩, PySem.F.args_list_init_2 _ _, ?_⟩
  show wpAny _ _ (do let old ← Builtin.List.listItems (.ref heap.objs.size); Builtin.List.listUpdate (.ref heap.objs.size) (fun _ => #[]); letGo old.toList.reverse; Builtin.List.listExtendWith (.ref heap.objs.size) (.ref z) .none) _ _ _
  refine wpAny_bind ?_
  unfold Builtin.List.listItems
  refine wpAny_bind (wpAny_seqItems hS rfl (wpAny_pure ?_))
  show wpAny _ _ (updateSeq heap.objs.size (fun _ => #[]) >>= fun _ => letGo (#[] : Array Value).toList.reverse >>= fun _ => Builtin.List.listExtendWith (.ref heap.objs.size) (.ref z) .none) _ _ _
  refine wpAny_bind (wpAny_updateSeq hS rfl (wpAny_bind (wpAny_letGo ?_)))
  have hS1 := Heap.get?_update_self (Obj.mapSeq (fun _ => (#[] : Array Value))) hS rfl
  have old1 : ∀ e o, e ≠ heap.objs.size → heap.get? e = some o → ((heap.push { cls := .type "list", data := .seq #[] }).update heap.objs.size (Obj.mapSeq (fun _ => (#[] : Array Value)))).get? e = some o :=
    fun e o ne q => (Heap.get?_update_other _ _ (Ne.symm ne)).trans (Heap.get?_push_of_some _ q)
  generalize (heap.push { cls := .type "list", data := .seq #[] }).update heap.objs.size (Obj.mapSeq (fun _ => (#[] : Array Value))) = h1 at hS1 old1
  have hz1 : h1.get? z = some { cls := .type "zip", dict := none, data := .fields fs, slots := #[] } := old1 _ _ (Nat.ne_of_lt (small hz)) hz
  have ty : ∀ (hp : Heap), hp.get? z = some { cls := .type "zip", dict := none, data := .fields fs, slots := #[] } → Shared.TypeIs ⟨hp, gens, drawn, toks, os⟩ (.ref z) "zip" := fun hp q => ⟨_, q, rfl⟩
  unfold Builtin.List.listExtendWith
  refine wpAny_bind (wpAny_typeOf (T := "zip") (ty h1 hz1) ?_)
  have c1 : Builtin.List.listSameRef (.ref heap.objs.size) (.ref z) = false := by simp [Builtin.List.listSameRef]; exact Nat.ne_of_gt (small hz)
  have c2 : (Value.type "zip" == Value.type "list") = false := by decide
  have c3 : (Value.type "zip" == Value.type "tuple") = false := by decide
  simp only [c1, c2, c3, Bool.or_false, Bool.false_eq_true, if_false]
  have iterz : ∀ {Q' : Value → Shared → Prop} {E' : Value → Shared → Prop} {A' : Around}, Q' (.ref z) ⟨h1, gens, drawn, toks, os⟩ → wpAny (model prog w) A' (pyIter (.ref z)) Q' E' ⟨h1, gens, drawn, toks, os⟩ := fun {Q' E' A'} q => by
    rcases st0.zip with ⟨qz, _⟩ | ⟨T, f, _, qz, _⟩
    · rw [qz] at hz; cases hz; exact wpAny_pyIter_zip (f0 := .none) hz1 q
    · rw [qz] at hz; cases hz
      refine wpAny_pyIter_slot (ty h1 hz1) PySem.F.slot_zip_iter (wpAny_call_entry PySem.F.slot_zip_iter (ty h1 hz1) PySem.F.entry_zip_iter ?_ (PySem.F.args_zip_iter_1 _))
      show wpAny _ _ (ret (.ref z)) _ _ _
      exact wpAny_pure ⟨_, rfl, "zip", _, ty h1 hz1, PySem.F.slot_zip_next.lookup, q⟩
  refine wpAny_bind (iterz ?_)
  refine wpAny_bind (wpAny_holding (zip_hint (ty h1 hz1) ?_))
  simp only [Bool.true_or, if_true]
  refine wpAny_bind (wpAny_rule (wpAny_bind ?_))
  show wpAny _ _ (updateSeq heap.objs.size (·.push .none) >>= fun _ => updateSeq heap.objs.size (·.pop)) _ _ _
  refine wpAny_bind (wpAny_updateSeq hS1 rfl ?_)
  have hS2 := Heap.get?_update_self (Obj.mapSeq (·.push Value.none)) hS1 rfl
  refine wpAny_updateSeq (hz := by seq_fits) hS2 rfl ?_
  have hS3 := Heap.get?_update_self (Obj.mapSeq (·.pop)) hS2 rfl
  have old3 : ∀ e o, e ≠ heap.objs.size → heap.get? e = some o → ((h1.update heap.objs.size (Obj.mapSeq (·.push Value.none))).update heap.objs.size (Obj.mapSeq (·.pop))).get? e = some o :=
    fun e o ne q => (Heap.get?_update_other _ _ (Ne.symm ne)).trans ((Heap.get?_update_other _ _ (Ne.symm ne)).trans (old1 e o ne q))
  refine wpAny_pure ⟨plainId_quiet PySem.F.plain_extend_loop _, ?_⟩
  refine zip_fill (A := A.in1) (s := ⟨heap, gens, drawn, toks, os⟩) (g := heap) (handled_in1 hh) Z .none hn (fun h2 tk acc n as keep hS' hl G hacc => ⟨rfl, k h2 tk acc n as (fun e o n1 n2 n3 n4 q => keep e o (Nat.ne_of_lt (small q)) n1 n2 n3 n4 q) hS' hl G hacc⟩)
    _ 0 _ toks _ #[] [] rfl (Nat.zero_le _) (st0.keep Z.notS old3) (fun e o n1 _ _ _ _ q => old3 e o n1 q) hS3 rfl rfl ⟨List.Pairwise.nil, (fun _ q => nomatch q), fun j t q => by simp at q⟩
end
end ML
set_option Elab.async false
set_option linter.all false
set_option maxRecDepth 100000
set_option maxHeartbeats 2000000
/-! list(zip(a, b)) as a rule, and by data. -/
namespace ML
open PySem PySem.Spec PyProof.Rows L2

/-- many new objects are laid at once -/
theorem inv_many {X : Cx} {pins : List (Addr × Obj)} {σ : L2.St} {H H' : Hp} {s : Shared} {h' : Heap} {tk : Nat} (I : Inv X pins σ H s) (kp : ∀ e o, s.heap.get? e = some o → h'.get? e = some o)
    (old : ∀ e, e < s.heap.objs.size → H' e = H e) (new : ∀ e o, s.heap.objs.size ≤ e → H' e = some o → ObjOk X.prog X.w H' h' e o) : Inv X pins σ H' { s with heap := h', toks := tk } := by
  have same : ∀ {e u}, H e = some u → H' e = some u := fun {e u} q => by rw [old e (I.hok.lt q)]; exact q
  refine I.un ⟨fun e o q _ _ _ => kp e o q, fun e o q _ _ _ => ⟨o.slots, kp e o q⟩, fun e o q n _ => by rw [old e (Heap.lt_size q)]; exact n, fun e o q _ => ⟨o, kp e o q⟩, fun e xs q => same q, fun e o u q => same q, fun e ps q => ⟨#[], by rw [same q]; simp⟩⟩ fun e o q => ?_
  by_cases he : e < s.heap.objs.size
  · rw [old e he] at q
    exact (I.hok e o q).stay (fun c u _ r => kp c u r) (fun _ r => same r) fun _ _ r => same r
  · exact new e o (Nat.le_of_not_lt he) q
/-- the abstract heap with the pairs and their list -/
def layZ (H : Hp) (L : Addr) (as : List Addr) (xs ys : List V) : Hp := fun e => if e = L then some (.lst (as.map V.ref)) else match as.findIdx? (fun t => decide (t = e)) with
  | some j => (match xs[j]?, ys[j]? with
    | some x, some y => some (.tup [x, y])
    | _, _ => H e)
  | none => H e
def tListZip (K : PySem.W.Frag) (ta : TA) : TE := fun σ H Q => ta σ H fun vs H1 => ∃ a c b b' xs ys, vs = [.ref a, .ref c] ∧ SqB K H1 a b xs ∧ SqB K H1 c b' ys ∧
  ∀ L as, H1 L = none → (∀ t ∈ as, H1 t = none ∧ t ≠ L) → as.Nodup → as.length = min xs.length ys.length → Q (.ref L) (layZ H1 L as xs ys)
theorem ne_up {n e : Nat} (k : Nat) (h : e < n) : e ≠ n + k := by omega
theorem lt_up {n m e t : Nat} (h : e < n) (h1 : n ≤ m) (h2 : m < t) : t ≠ e := by omega
theorem pe_listZip {X : Cx} {e e2 : Expr} {ta : TA} {p p2 pos pos2 : Pos} (hg : Gl X "list") (hm : X.mg "list" = none) (hg2 : Gl X "zip") (hm2 : X.mg "zip" = none) (ha : PA X [e, e2] ta) (hc : X.calm = true := by rfl)
    (hst : starEach [e, e2] X.env = (false, eval e X.env) :: starEach [e2] X.env := by rfl) (hpl : (backTo pos2 (starEach [e2] X.env)).any (·.1) = false := by rfl)
    (hst1 : starEach [.Call (.Name "zip" p2) [e, e2] [] pos2] X.env = (false, eval (.Call (.Name "zip" p2) [e, e2] [] pos2) X.env) :: starEach [] X.env := by rfl) :
    PE X (.Call (.Name "list" p) [.Call (.Name "zip" p2) [e, e2] [] pos2] [] pos) (tListZip X.K ta) := by
  constructor
  intro pins s σ H Q I h
  refine wpAny_Call_Name_kw (ld_blt I hg hm boot_list ?_)
  refine PyProof.Rows.callWith_type1 ?_ hst1 rfl
  rw [hst1]
  show wpAny _ _ (spliced ((false, eval (.Call (.Name "zip" p2) [e, e2] [] pos2) X.env) :: backTo pos (starEach [] X.env))) _ _ s
  refine Calls.spliced_cons ?_
  refine Call_ (ld_blt I hg2 hm2 PyProof.Rows.boot_zip (PyProof.Rows.callWith_type1 ?_ hst hpl))
  refine thn (ha.run pos2 pins s σ H _ I h) fun us s1 ⟨vs, H1, I1, r1, a, c, b, b', xs, ys, ev, qx, qy, q⟩ => ?_
  subst ev
  rw [vals_ref2 r1]
  obtain ⟨its, rv, p1, z1, la⟩ := SqB.get I1 qx
  obtain ⟨jts, rw', q1, _, lc⟩ := SqB.get I1 qy
  refine zip_begins2 (beginsB a its.toArray b) (beginsB c jts.toArray b') p1 q1 fun h1 g1 g2 g3 g4 g5 gs k1 => ?_
  refine Calls.spliced_nil ?_
  have src1 : SeqB h1 a its.toArray b := p1.at fun o r => k1 a o r
  have src2 : SeqB h1 c jts.toArray b' := q1.at fun o r => k1 c o r
  have l1 : its.toArray.size = xs.length := by simp; exact rv.length.symm
  have l2 : jts.toArray.size = ys.length := by simp; exact rw'.length.symm
  refine call_listZip (s := { s1 with heap := h1 }) (its := its.toArray) (jts := jts.toArray) (a := a) (c := c) (b := b) (b' := b') (I1.ok.hd hc) (zipOff_new la lc) (by show (_ : Nat) < _ ∧ (_ : Nat) < _ ∧ (_ : Nat) < _; omega) (by rw [l1]; exact z1)
    (fun S _ => ⟨g2, ItrB.new g4, src1, ItrB.new g5, src2, .inl ⟨g1, _, _, g3⟩⟩) fun h2 tk acc n as kp hS hl G hacc => ?_
  dsimp only at kp hS G ⊢
  have big : h1.objs.size = s1.heap.objs.size + 5 := gs
  have keep : ∀ e o, s1.heap.get? e = some o → h2.get? e = some o := fun e o r => by
    have lt : e < s1.heap.objs.size := Heap.lt_size r
    exact kp e o (ne_up 4 lt) (ne_up 3 lt) (Nat.ne_of_lt lt) (ne_up 1 lt) (k1 e o r)
  have above : ∀ t ∈ as, h1.objs.size < t := fun t ht => G.above t ht
  have nd : as.Nodup := G.up.imp fun {x y} (h : (x : Nat) < y) => Nat.ne_of_lt h
  have low : s1.heap.objs.size ≤ h1.objs.size := by rw [big]; omega
  have freeL : H1 h1.objs.size = none := I1.hok.fresh low
  have freeT : ∀ t ∈ as, H1 t = none ∧ t ≠ h1.objs.size := fun t ht => ⟨I1.hok.fresh (Nat.le_trans low (Nat.le_of_lt (above t ht))), Nat.ne_of_gt (above t ht)⟩
  have hl' : as.length = min xs.length ys.length := by rw [hl, l1, l2]
  refine ⟨.ref h1.objs.size, layZ H1 h1.objs.size as xs ys, inv_many (s := s1) (tk := tk) I1 keep (fun e he => ?_) (fun e o he r => ?_), rfl, q _ as freeL freeT nd hl'⟩
  · unfold layZ
    rw [if_neg (fun z => Nat.lt_irrefl _ (Nat.lt_of_lt_of_le he (by rw [z]; exact low)))]
    have none_ : as.findIdx? (fun t => decide (t = e)) = none := by
      rw [List.findIdx?_eq_none_iff]
      intro t ht
      exact decide_eq_false (lt_up he low (above t ht))
    rw [none_]
  · unfold layZ at r
    by_cases heL : e = h1.objs.size
    · rw [if_pos heL] at r
      subst heL
      cases r
      have ea : acc = (as.map Value.ref).toArray := by rw [← hacc, Array.toArray_toList]
      have len : as.length ≤ sizeLine := by rw [hl']; exact Nat.le_trans (Nat.min_le_left _ _) z1
      refine ⟨by rw [List.length_map]; exact len, as.map Value.ref, n, ?_, by rw [hS, ea]⟩
      clear hS hacc ea G above nd freeT hl hl' len
      induction as with
      | nil => exact .nil
      | cons t as ih => exact .cons rfl ih
    · rw [if_neg heL] at r
      cases qf : as.findIdx? (fun t => decide (t = e)) with
      | none =>
        rw [qf] at r
        rw [I1.hok.fresh he] at r
        cases r
      | some j =>
        rw [qf] at r
        rw [List.findIdx?_eq_some_iff_getElem] at qf
        obtain ⟨hj, e1, _⟩ := qf
        have e2 : as[j] = e := of_decide_eq_true e1
        have hjx : j < xs.length := by omega
        have hjy : j < ys.length := by omega
        simp only [List.getElem?_eq_getElem hjx, List.getElem?_eq_getElem hjy, Option.some.injEq] at r
        subst r
        obtain ⟨u, v, hu, hv, ht⟩ := G.got j e (by rw [← e2]; exact List.getElem?_eq_getElem hj)
        obtain ⟨x', hx', rx⟩ := SqB.item (X := X) (pins := pins) (σ := σ) (H := H1) (s := s1) (a := a) (b := b) rv hu
        obtain ⟨y', hy', ry⟩ := SqB.item (X := X) (pins := pins) (σ := σ) (H := H1) (s := s1) (a := a) (b := b) rw' hv
        rw [List.getElem?_eq_getElem hjx] at hx'
        rw [List.getElem?_eq_getElem hjy] at hy'
        cases hx'
        cases hy'
        exact ⟨by show 2 ≤ sizeLine; decide, [u, v], .cons rx (.cons ry .nil), ⟨_, ht, rfl, _, rfl⟩⟩

section
variable {H : Hp}
theorem layZ_off {L : Addr} {as : List Addr} {xs ys : List V} {e : Addr} (h1 : e ≠ L) (h2 : e ∉ as) : layZ H L as xs ys e = H e := by
  unfold layZ
  rw [if_neg h1]
  have none_ : as.findIdx? (fun t => decide (t = e)) = none := by
    rw [List.findIdx?_eq_none_iff]
    exact fun t ht => decide_eq_false fun z => h2 (z ▸ ht)
  rw [none_]
theorem layZ_at {L : Addr} {as : List Addr} {xs ys : List V} {j : Nat} {t : Addr} {x y : V} (hj : as[j]? = some t) (nd : as.Nodup) (hL : t ≠ L) (hx : xs[j]? = some x) (hy : ys[j]? = some y) : layZ H L as xs ys t = some (.tup [x, y]) := by
  unfold layZ
  rw [if_neg hL]
  obtain ⟨hl, e⟩ := List.getElem?_eq_some_iff.mp hj
  have at_ : as.findIdx? (fun u => decide (u = t)) = some j := by
    rw [List.findIdx?_eq_some_iff_getElem]
    refine ⟨hl, decide_eq_true e, fun i hi => ?_⟩
    have ne : as[i] ≠ t := fun z => Nat.ne_of_lt hi ((List.getElem_inj nd).mp (z.trans e.symm))
    simpa using ne
  rw [at_]
  simp only [hx, hy]
end
end ML
set_option Elab.async false
set_option linter.all false
set_option maxRecDepth 100000
set_option maxHeartbeats 2000000
/-! Layer M: what is walked: lists, tuples, ranges, enumerate, zip, a dict's items; dict comprehensions. -/
namespace ML
open PySem L2
section
variable {X : Cx} {K : KW} {R : Sto} {σ : L2.St} {N N' N1 : Kn} {H H' : Hp} {O O' : Sto} {s s' s1 : Stt} {d : D} {ds es : List D} {Q : VK} {ta tb tc te tk : TE} {ma mb mc me mk : M D} {t u : TS} {c : TT} {mt mu : M Bool} {tA tB : TA} {mA mB mi : M (List D)} {mO : M OO} {m m1 m2 : M Fl} {E : Ends} {wi : TI} {g : TG} {mg : Tg} {is : List Nat}
/-- lists and tuples that are known -/
def D.items : D → Option (List D)
  | .tup ds => some ds
  | .lst ds => some ds
  | _ => none
def isLst : D → Bool
  | .lst _ => true
  | _ => false
theorem items_get {v : V} (h : d.items = some ds) (r : Rep K N v d) : ∃ a xs, v = .ref a ∧ SqB K N.h a (isLst d) xs ∧ Reps K N xs ds := by
  cases d <;> simp [D.items] at h <;> subst h
  · obtain ⟨a, xs, rfl, h, q⟩ := r.tup_
    exact ⟨a, xs, rfl, h, q⟩
  · obtain ⟨a, xs, rfl, h, q⟩ := r.lst_
    exact ⟨a, xs, rfl, h, q⟩
theorem sqB_mono {h h' : Hp} {a : Addr} {b : Bool} {xs : List V} (e : Same h h') (x : SqB K h a b xs) : SqB K h' a b xs := by
  cases b with
  | true => exact same_l e x
  | false => exact same_t e x
def mItems (me : M D) : M (List D) := bindM me fun d => liftM d.items
def iSeq (K : PySem.W.Frag) (te : TE) : TI := fun σ H R => iList K te σ H R ∨ iTup K te σ H R
theorem pi_seq {tg e : Expr} {te : TE} (h1 : PI X tg e (iList X.K te)) (h2 : PI X tg e (iTup X.K te)) : PI X tg e (iSeq X.K te) := ⟨fun pins s σ H R I w => by
  rcases w with w | w
  · exact h1.run pins s σ H R I w
  · exact h2.run pins s σ H R I w⟩
theorem ei_seq (h : EvE K te me) : EvI K (iSeq K te) (mItems me) := fun s ds s' e R σ H N O x Q q => by
  obtain ⟨d, s1, e1, e⟩ := bindM_some e
  obtain ⟨e2, e3⟩ := liftM_some e
  simp only at e2 e3
  subst e3
  cases d with
  | tup es =>
    cases e2
    right
    refine h s _ _ e1 R σ H N O x _ fun v H1 N1 O1 l1 x1 r1 => ?_
    obtain ⟨a, xs, rfl, hx, rs⟩ := r1.tup_
    refine ⟨a, rfl, ⟨xs, same_t x1.good.ex hx⟩, q _ H1 N1 O1 l1 x1 fun N2 H2 sm sm2 => ?_⟩
    have hx2 := same_t sm2 (same_t sm.h hx)
    have w := walk_tup (K := K) (a := a) (xs := xs)
    refine ⟨fun i hi => w.goes i H2 (by rw [rs.1]; exact hi) hx2, ?_, fun i x H' hi y => ?_⟩
    · rw [← rs.1]; exact w.stops H2 hx2
    · obtain ⟨rfl, hx3⟩ := w.yields i H2 x H' (by rw [rs.1]; exact hi) hx2 y
      exact ⟨ds[i], List.getElem?_eq_getElem hi, fun R σ O s x => ⟨N2, Le.refl _, x, (rs.2 i _ _ hx3 (List.getElem?_eq_getElem hi)).mono sm⟩⟩
  | lst es =>
    cases e2
    left
    refine h s _ _ e1 R σ H N O x _ fun v H1 N1 O1 l1 x1 r1 => ?_
    obtain ⟨a, xs, rfl, hx, rs⟩ := r1.lst_
    refine ⟨a, rfl, ⟨xs, same_l x1.good.ex hx⟩, q _ H1 N1 O1 l1 x1 fun N2 H2 sm sm2 => ?_⟩
    have hx2 := same_l sm2 (same_l sm.h hx)
    have w := walk_list (K := K) (a := a) (xs := xs)
    refine ⟨fun i hi => w.goes i H2 (by rw [rs.1]; exact hi) hx2, ?_, fun i x H' hi y => ?_⟩
    · rw [← rs.1]; exact w.stops H2 hx2
    · obtain ⟨rfl, hx3⟩ := w.yields i H2 x H' (by rw [rs.1]; exact hi) hx2 y
      exact ⟨ds[i], List.getElem?_eq_getElem hi, fun R σ O s x => ⟨N2, Le.refl _, x, (rs.2 i _ _ hx3 (List.getElem?_eq_getElem hi)).mono sm⟩⟩
  | _ => cases e2
/-! ### ranges -/
def rngD (a c : Int) (n : Nat) : List D := (List.range n).map fun i => .int (a + (i : Nat) * c)
theorem rngD_len {a c : Int} {n : Nat} : (rngD a c n).length = n := by simp [rngD]
theorem rngD_get {a c : Int} {n i : Nat} (h : i < n) : (rngD a c n)[i]? = some (.int (a + (i : Nat) * c)) := by simp [rngD, h]
def mRng1 (ms : M (List D)) : M (List D) := bindM ms fun ds => match ds with
  | [.int n] => if n.natAbs < 2 ^ 62 then retM (rngD 0 1 n.toNat) else noM
  | _ => noM
def mRng2 (ms : M (List D)) : M (List D) := bindM ms fun ds => match ds with
  | [.int a, .int b] => if a.natAbs < 2 ^ 62 ∧ b.natAbs < 2 ^ 62 then retM (rngD a 1 (b - a).toNat) else noM
  | _ => noM
/-- down by one -/
def mRngD (ms : M (List D)) : M (List D) := bindM ms fun ds => match ds with
  | [.int a, .int b, .int c] => if c = -1 ∧ b ≤ a ∧ a.natAbs < 2 ^ 60 ∧ b.natAbs < 2 ^ 60 then retM (rngD a c (a - b).toNat) else noM
  | _ => noM
theorem ei_rng1 (h : EvA K tA mA) : EvI K (iRng1 tA) (mRng1 mA) := fun s ds s' e R σ H N O x Q q => by
  obtain ⟨as, s1, e1, e⟩ := bindM_some e
  split at e
  · rename_i n
    split at e
    · rename_i hn
      cases e
      refine h s _ _ e1 R σ H N O x _ fun vs H1 N1 O1 l1 x1 rs => ?_
      obtain ⟨v, rfl, rv⟩ := rs.one_
      cases rv
      refine ⟨n, rfl, by omega, by omega, q _ H1 N1 O1 l1 x1 fun N2 H2 sm sm2 => ?_⟩
      have w := walk_range (lo := 0) (n := n.toNat)
      refine ⟨fun i hi => w.goes i H2 (by simpa [rngD] using hi) trivial, ?_, fun i x H' hi y => ?_⟩
      · rw [rngD_len]; exact w.stops H2 trivial
      · have hi' : i < n.toNat := by simpa [rngD] using hi
        obtain ⟨rfl, rfl⟩ := w.yields i H2 x H' hi' trivial y
        refine ⟨_, rngD_get hi', fun R σ O s x => ⟨N2, Le.refl _, x, ?_⟩⟩
        rw [Int.mul_one]
        exact .int _
    · cases e
  · cases e
theorem ei_rng2 (h : EvA K tA mA) : EvI K (iRng2 tA) (mRng2 mA) := fun s ds s' e R σ H N O x Q q => by
  obtain ⟨as, s1, e1, e⟩ := bindM_some e
  split at e
  · rename_i a b
    split at e
    · rename_i hn
      cases e
      refine h s _ _ e1 R σ H N O x _ fun vs H1 N1 O1 l1 x1 rs => ?_
      obtain ⟨v, w, rfl, rv, rw'⟩ := rs.two_
      cases rv; cases rw'
      refine ⟨a, b, rfl, by omega, q _ H1 N1 O1 l1 x1 fun N2 H2 sm sm2 => ?_⟩
      have w := walk_range (lo := a) (n := (b - a).toNat)
      refine ⟨fun i hi => w.goes i H2 (by simpa [rngD] using hi) trivial, ?_, fun i x H' hi y => ?_⟩
      · rw [rngD_len]; exact w.stops H2 trivial
      · have hi' : i < (b - a).toNat := by simpa [rngD] using hi
        obtain ⟨rfl, rfl⟩ := w.yields i H2 x H' hi' trivial y
        refine ⟨_, rngD_get hi', fun R σ O s x => ⟨N2, Le.refl _, x, ?_⟩⟩
        rw [Int.mul_one]
        exact .int _
    · cases e
  · cases e
theorem rgC_down {a b : Int} (h : b ≤ a) (ha : a.natAbs < 2 ^ 60) (hb : b.natAbs < 2 ^ 60) : RgC a b (-1) (a - b).toNat := RgC.neg (by omega) (by omega) (by omega) (by omega)
theorem ei_rngD (h : EvA K tA mA) : EvI K (iRng3 tA) (mRngD mA) := fun s ds s' e R σ H N O x Q q => by
  obtain ⟨as, s1, e1, e⟩ := bindM_some e
  split at e
  · rename_i a b c
    split at e
    · rename_i hn
      obtain ⟨hc, hle, ha, hb⟩ := hn
      subst hc
      cases e
      refine h s _ _ e1 R σ H N O x _ fun vs H1 N1 O1 l1 x1 rs => ?_
      obtain ⟨v, w, u, rfl, rv, rw', ru⟩ := rs.three_
      cases rv; cases rw'; cases ru
      refine ⟨a, b, -1, (a - b).toNat, rfl, rgC_down hle ha hb, q _ H1 N1 O1 l1 x1 fun N2 H2 sm sm2 => ?_⟩
      have w := walk_rangeC (lo := a) (c := -1) (n := (a - b).toNat)
      refine ⟨fun i hi => w.goes i H2 (by simpa [rngD] using hi) trivial, ?_, fun i x H' hi y => ?_⟩
      · rw [rngD_len]; exact w.stops H2 trivial
      · have hi' : i < (a - b).toNat := by simpa [rngD] using hi
        obtain ⟨rfl, rfl⟩ := w.yields i H2 x H' hi' trivial y
        exact ⟨_, rngD_get hi', fun R σ O s x => ⟨N2, Le.refl _, x, .int _⟩⟩
    · cases e
  · cases e
/-! ### enumerate, zip -/
def enumFrom (n : Nat) : List D → List D
  | [] => []
  | d :: ds => .tup [.int n, d] :: enumFrom (n + 1) ds
theorem enumFrom_get {i : Nat} : ∀ {n : Nat} {ds : List D}, ds[i]? = some d → (enumFrom n ds)[i]? = some (.tup [.int ((n + i : Nat) : Int), d]) := by
  induction i with
  | zero => intro n ds h; cases ds with
    | nil => cases h
    | cons e ds => cases h; rfl
  | succ i ih => intro n ds h; cases ds with
    | nil => cases h
    | cons e ds =>
      have := ih (n := n + 1) (ds := ds) (by simpa using h)
      rw [show n + 1 + i = n + (i + 1) by omega] at this
      simpa [enumFrom] using this
theorem enumFrom_len : ∀ {n : Nat} {ds : List D}, (enumFrom n ds).length = ds.length
  | _, [] => rfl
  | n, d :: ds => by simp [enumFrom, enumFrom_len (n := n + 1) (ds := ds)]
def zipD : List D → List D → List D
  | d :: ds, e :: es => .tup [d, e] :: zipD ds es
  | _, _ => []
theorem zipD_len : ∀ {ds es : List D}, (zipD ds es).length = min ds.length es.length
  | [], _ => by simp [zipD]
  | _ :: _, [] => by simp [zipD]
  | d :: ds, e :: es => by simp [zipD, zipD_len (ds := ds) (es := es)]
theorem zipD_get {i : Nat} {d1 d2 : D} : ∀ {ds es : List D}, ds[i]? = some d1 → es[i]? = some d2 → (zipD ds es)[i]? = some (.tup [d1, d2]) := by
  induction i with
  | zero => intro ds es h h2; cases ds with
    | nil => cases h
    | cons d ds => cases es with
      | nil => cases h2
      | cons e es => cases h; cases h2; rfl
  | succ i ih => intro ds es h h2; cases ds with
    | nil => cases h
    | cons d ds => cases es with
      | nil => cases h2
      | cons e es => simpa [zipD] using ih (ds := ds) (es := es) (by simpa using h) (by simpa using h2)
def mEnum (ms : M (List D)) : M (List D) := bindM ms fun ds => match ds with
  | [d] => liftM (d.items.map (enumFrom 0))
  | _ => noM
def mZip (ms : M (List D)) : M (List D) := bindM ms fun ds => match ds with
  | [d, e] => liftM (d.items.bind fun xs => e.items.map fun ys => zipD xs ys)
  | _ => noM
theorem new_tup {T : Addr} {xs : List V} {ds : List D} (hT : H T = none) (rs : Reps K N xs ds) : ∀ R σ O s, SR K R σ H N O s → ∃ N2, Le N N2 ∧ SR K R σ (upd H T (.tup xs)) N2 O s ∧ Rep K N2 (.ref T) (.tup ds) := fun R σ O s x =>
  ⟨N.up T (.tup xs), le_up (x.good.free hT).1, x.new hT, .tup (SqT.of (upd_same : (N.up T (.tup xs)).h T = some (.tup xs))) rs.1 fun j x' d h1 h2 => (rs.2 j x' d h1 h2).mono (le_up (x.good.free hT).1)⟩
theorem ei_enum (h : EvA K tA mA) : EvI K (iEnumB K tA) (mEnum mA) := fun s ds s' e R σ H N O x Q q => by
  obtain ⟨as, s1, e1, e⟩ := bindM_some e
  split at e
  · rename_i d
    obtain ⟨e2, e3⟩ := liftM_some e
    simp only at e2 e3
    subst e3
    cases e4 : d.items with
    | none => rw [e4] at e2; cases e2
    | some es =>
      rw [e4] at e2
      cases e2
      refine h s _ _ e1 R σ H N O x _ fun vs H1 N1 O1 l1 x1 rs => ?_
      obtain ⟨v, rfl, rv⟩ := rs.one_
      obtain ⟨a, xs, rfl, hq, rx⟩ := items_get e4 rv
      refine ⟨a, isLst d, xs, rfl, sqB_mono x1.good.ex hq, q _ H1 N1 O1 l1 x1 fun N2 H2 sm sm2 => ?_⟩
      have hq2 := sqB_mono sm2 (sqB_mono sm.h hq)
      refine ⟨fun i hi => ?_, ?_, fun i x H' hi y => ?_⟩
      · have hi' : i < xs.length := by rw [rx.1]; simpa [enumFrom_len] using hi
        exact ⟨xs, xs[i], hq2, List.getElem?_eq_getElem hi'⟩
      · exact ⟨xs, hq2, by rw [enumFrom_len, rx.1]⟩
      · have hi2 : i < es.length := by simpa [enumFrom_len] using hi
        obtain ⟨T, x1, rfl, hT, rfl, hx⟩ := y
        have hx1 := hx xs hq2
        refine ⟨_, enumFrom_get (List.getElem?_eq_getElem hi2), ?_⟩
        rw [Nat.zero_add]
        exact new_tup hT (Reps.cons (.int _) (Reps.one ((rx.2 i x1 _ hx1 (List.getElem?_eq_getElem hi2)).mono sm)))
  · cases e
theorem ei_zip (h : EvA K tA mA) : EvI K (iZipB K tA) (mZip mA) := fun s ds s' e R σ H N O x Q q => by
  obtain ⟨as, s1, e1, e⟩ := bindM_some e
  split at e
  · rename_i d d2
    obtain ⟨e2, e3⟩ := liftM_some e
    simp only at e2 e3
    subst e3
    cases e4 : d.items with
    | none => rw [e4] at e2; cases e2
    | some es =>
      cases e5 : d2.items with
      | none => rw [e4, e5] at e2; cases e2
      | some fs =>
        rw [e4, e5] at e2
        cases e2
        refine h s _ _ e1 R σ H N O x _ fun vs H1 N1 O1 l1 x1 rs => ?_
        obtain ⟨v, w, rfl, rv, rw'⟩ := rs.two_
        obtain ⟨a, xs, rfl, hq, rx⟩ := items_get e4 rv
        obtain ⟨c, ys, rfl, hq', ry⟩ := items_get e5 rw'
        refine ⟨a, c, isLst d, isLst d2, xs, ys, rfl, sqB_mono x1.good.ex hq, sqB_mono x1.good.ex hq', q _ H1 N1 O1 l1 x1 fun N2 H2 sm sm2 => ?_⟩
        have hx2 := sqB_mono sm2 (sqB_mono sm.h hq)
        have hy2 := sqB_mono sm2 (sqB_mono sm.h hq')
        refine ⟨fun i hi => ?_, ?_, fun i x H' hi y => ?_⟩
        · rw [zipD_len, ← rx.1, ← ry.1] at hi
          exact ⟨xs, ys, xs[i], ys[i], hx2, hy2, List.getElem?_eq_getElem _, List.getElem?_eq_getElem _⟩
        · exact ⟨xs, ys, hx2, hy2, by rw [zipD_len, rx.1, ry.1]⟩
        · rw [zipD_len] at hi
          have h1 : i < es.length := by omega
          have h2 : i < fs.length := by omega
          obtain ⟨T, x1, y1, rfl, hT, rfl, hx, hy⟩ := y
          have hx1 := hx xs hx2
          have hy1 := hy ys hy2
          exact ⟨_, zipD_get (List.getElem?_eq_getElem h1) (List.getElem?_eq_getElem h2), new_tup hT (Reps.cons ((rx.2 i x1 _ hx1 (List.getElem?_eq_getElem h1)).mono sm) (Reps.one ((ry.2 i y1 _ hy1 (List.getElem?_eq_getElem h2)).mono sm)))⟩
  · cases e
/-- list(zip(a, b)) -/
def mListZip (ms : M (List D)) : M D := bindM (mZip ms) fun ds => retM (.lst ds)
theorem ee_listZip (h : EvA K tA mA) : EvE K (tListZip K tA) (mListZip mA) := fun s d0 s' e R σ H N O x Q q => by
  obtain ⟨zs, s2, e, e0⟩ := bindM_some e
  cases e0
  obtain ⟨as, s1, e1, e⟩ := bindM_some e
  split at e
  · rename_i d d2
    obtain ⟨e2, e3⟩ := liftM_some e
    simp only at e2 e3
    subst e3
    cases e4 : d.items with
    | none => rw [e4] at e2; cases e2
    | some es =>
      cases e5 : d2.items with
      | none => rw [e4, e5] at e2; cases e2
      | some fs =>
        rw [e4, e5] at e2
        cases e2
        refine h s _ _ e1 R σ H N O x _ fun vs H1 N1 O1 l1 x1 rs => ?_
        obtain ⟨v, w, rfl, rv, rw'⟩ := rs.two_
        obtain ⟨a, xs, rfl, hq, rx⟩ := items_get e4 rv
        obtain ⟨c, ys, rfl, hq', ry⟩ := items_get e5 rw'
        refine ⟨a, c, isLst d, isLst d2, xs, ys, rfl, sqB_mono x1.good.ex hq, sqB_mono x1.good.ex hq', fun L as hL hT nd hl => ?_⟩
        have free : ∀ e, (e = L ∨ e ∈ as) → H1 e = none := fun e he => he.elim (fun z => z ▸ hL) fun z => (hT e z).1
        have s1 : Same N1.h (layZ N1.h L as xs ys) := fun e o q => by
          have off : ¬ (e = L ∨ e ∈ as) := fun z => by
            have := (x1.good.free (free e z)).1
            rw [q] at this; cases this
          rw [layZ_off (fun z => off (.inl z)) (fun z => off (.inr z))]
          exact q
        have sH : Same H1 (layZ H1 L as xs ys) := fun e o q => by
          have off : ¬ (e = L ∨ e ∈ as) := fun z => by
            have := free e z
            rw [q] at this; cases this
          rw [layZ_off (fun z => off (.inl z)) (fun z => off (.inr z))]
          exact q
        have le : Le N1 { N1 with h := layZ N1.h L as xs ys } := ⟨s1, fun _ _ h => h, rfl⟩
        have gd : Good K { N1 with h := layZ N1.h L as xs ys } O1 (layZ H1 L as xs ys) := by
          refine ⟨fun e o q => ?_, fun e o q => ?_⟩
          · by_cases he : e = L ∨ e ∈ as
            · rw [← q]
              show _ = layZ N1.h L as xs ys e
              unfold layZ
              by_cases hz : e = L
              · rw [if_pos hz, if_pos hz]
              · rw [if_neg hz, if_neg hz]
                have n0 := free e he
                have n1 := (x1.good.free n0).1
                rw [n0, n1]
            · have q' : layZ N1.h L as xs ys e = some o := q
              rw [layZ_off (fun z => he (.inl z)) (fun z => he (.inr z))] at q' ⊢
              exact x1.good.ex e o q'
          · obtain ⟨q1, q2⟩ := x1.good.own e o q
            have off : ¬ (e = L ∨ e ∈ as) := fun z => by
              obtain ⟨u, hu⟩ := OOk.ex_ q2
              rw [free e z] at hu; cases hu
            exact ⟨by show layZ N1.h L as xs ys e = none; rw [layZ_off (fun z => off (.inl z)) (fun z => off (.inr z))]; exact q1, OOk.mono le (fun u hu => sH e u hu) q2⟩
        refine q _ _ _ O1 (l1.trans le) (x1.more le rfl gd) ?_
        have hlen : as.length = (zipD es fs).length := by rw [hl, zipD_len, rx.1, ry.1]
        refine .lst (xs := as.map V.ref) (SqL.of ?_) (by rw [List.length_map, hlen]) fun j x d hx hd => ?_
        · show layZ N1.h L as xs ys L = _
          unfold layZ; rw [if_pos rfl]
        · rw [List.getElem?_map] at hx
          cases hj : as[j]? with
          | none => rw [hj] at hx; cases hx
          | some t =>
            rw [hj] at hx
            cases hx
            have jl : j < (zipD es fs).length := (List.getElem?_eq_some_iff.mp hd).1
            rw [zipD_len] at jl
            have h1 : j < es.length := by omega
            have h2 : j < fs.length := by omega
            rw [zipD_get (List.getElem?_eq_getElem h1) (List.getElem?_eq_getElem h2)] at hd
            cases hd
            obtain ⟨x1, hx1, r1⟩ := rx.get (List.getElem?_eq_getElem h1)
            obtain ⟨y1, hy1, r2⟩ := ry.get (List.getElem?_eq_getElem h2)
            have rs : Reps K N1 [x1, y1] [es[j], fs[j]] := Reps.cons r1 (Reps.one r2)
            exact .tup (SqT.of (layZ_at hj nd (hT t (List.mem_of_getElem? hj)).2 hx1 hy1)) rs.1 fun i x d e1 e2 => (rs.2 i x d e1 e2).mono le
  · cases e
end
end ML
set_option Elab.async false
set_option linter.all false
set_option maxRecDepth 100000
set_option maxHeartbeats 2000000
/-! Layer M: a dict locked while it is walked. -/
namespace ML
open PySem L2
def tLk (t : TS) : TS := fun E σ H => tLock t E σ H ∨ t E σ H
theorem ps_lk {X : Cx} {st : Stmt} {t : TS} (h : PS X st t) : PS X st (tLk t) := ⟨fun pins s σ H D I hw => by
  rcases hw with hw | hw
  · exact (ps_lock h).run pins s σ H D I hw
  · exact h.run pins s σ H D I hw⟩
def tLkE (t : TE) : TE := fun σ H Q => tLockE t σ H Q ∨ t σ H Q
theorem pe_lk {X : Cx} {e : Expr} {t : TE} (h : PE X e t) : PE X e (tLkE t) := ⟨fun pins s σ H Q I hw => by
  rcases hw with hw | hw
  · exact (pe_lock h).run pins s σ H Q I hw
  · exact h.run pins s σ H Q I hw⟩
section
variable {X : Cx} {K : KW} {R : Sto} {σ : L2.St} {N N' N1 : Kn} {H H' : Hp} {O O' : Sto} {s s' s1 : Stt} {d : D} {ds es : List D} {Q : VK} {ta tb tc te tk : TE} {ma mb mc me mk : M D} {t u : TS} {c : TT} {mt mu : M Bool} {tA tB : TA} {mA mB mi : M (List D)} {mO : M OO} {m m1 m2 : M Fl} {E : Ends} {wi : TI} {g : TG} {mg : Tg} {is : List Nat} {b : Addr} {kes : List (Key × V)} {o : Obj}
theorem rd_lock {h : Hp} (hb : h b = some (.dK kes)) {a : Addr} {u : HO} (x : Rd h a u) : Rd (upd h b (.frz o (.dK kes))) a u := by
  by_cases hz : a = b
  · subst hz
    rcases x with x | ⟨q, x⟩
    · rw [hb] at x; cases x; exact .inr ⟨o, upd_same⟩
    · rw [hb] at x; cases x
  · rcases x with x | ⟨q, x⟩
    · exact .inl (by rw [upd_ne hz]; exact x)
    · exact .inr ⟨q, by rw [upd_ne hz]; exact x⟩
theorem rd_unlock {h : Hp} (hb : h b = some (.frz o (.dK kes))) {a : Addr} {u : HO} (hu : ∀ q v, u ≠ .frz q v) (x : Rd h a u) : Rd (upd h b (.dK kes)) a u := by
  by_cases hz : a = b
  · subst hz
    rcases x with x | ⟨q, x⟩
    · rw [hb] at x; cases x; exact absurd rfl (hu _ _)
    · rw [hb] at x; cases x; exact .inl upd_same
  · rcases x with x | ⟨q, x⟩
    · exact .inl (by rw [upd_ne hz]; exact x)
    · exact .inr ⟨q, by rw [upd_ne hz]; exact x⟩
theorem Rep.lock (hb : N.h b = some (.dK kes)) {v : V} {d : D} (r : Rep K N v d) : Rep K (N.up b (.frz o (.dK kes))) v d := by
  induction r with
  | non => exact .non
  | bl b => exact .bl b
  | int i => exact .int i
  | str s => exact .str s
  | ty n => exact .ty n
  | obj a => exact .obj a
  | tup h hl _ ih => exact .tup (h.elim (fun h => .inl (rd_lock hb h)) .inr) hl ih
  | lst h hl _ ih => exact .lst (h.elim (fun h => .inl (rd_lock hb h)) .inr) hl ih
  | dic h hk _ ih => exact .dic (rd_lock hb h) hk ih
  | @set a S ns h hn hs => exact .set (show upd N.h b _ a = _ by rw [upd_ne (fun z => by subst z; rw [hb] at h; cases h)]; exact h) hn hs
  | @ins a C dx fs gs h hk _ ih => exact .ins (show upd N.h b _ a = _ by rw [upd_ne (fun z => by subst z; rw [hb] at h; cases h)]; exact h) hk ih
  | loc h => exact .loc h
  | @keys a od xs ks h ko hl hn _ ih => exact .keys (show upd N.h b _ a = _ by rw [upd_ne (fun z => by subst z; rw [hb] at h; cases h)]; exact h) ko hl hn ih
theorem Rep.unlock (hb : N.h b = some (.frz o (.dK kes))) {v : V} {d : D} (r : Rep K N v d) : Rep K (N.up b (.dK kes)) v d := by
  induction r with
  | non => exact .non
  | bl b => exact .bl b
  | int i => exact .int i
  | str s => exact .str s
  | ty n => exact .ty n
  | obj a => exact .obj a
  | tup h hl _ ih => exact .tup (h.elim (fun h => .inl (rd_unlock hb (fun _ _ z => nomatch z) h)) .inr) hl ih
  | lst h hl _ ih => exact .lst (h.elim (fun h => .inl (rd_unlock hb (fun _ _ z => nomatch z) h)) .inr) hl ih
  | dic h hk _ ih => exact .dic (rd_unlock hb (fun _ _ z => nomatch z) h) hk ih
  | @set a S ns h hn hs => exact .set (show upd N.h b _ a = _ by rw [upd_ne (fun z => by subst z; rw [hb] at h; cases h)]; exact h) hn hs
  | @ins a C dx fs gs h hk _ ih => exact .ins (show upd N.h b _ a = _ by rw [upd_ne (fun z => by subst z; rw [hb] at h; cases h)]; exact h) hk ih
  | loc h => exact .loc h
  | @keys a od xs ks h ko hl hn _ ih => exact .keys (show upd N.h b _ a = _ by rw [upd_ne (fun z => by subst z; rw [hb] at h; cases h)]; exact h) ko hl hn ih
theorem OOk.rep {a : Addr} {oo : OO} (e : ∀ v d, Rep K N v d → Rep K N' v d) (hh : ∀ u, H a = some u → H' a = some u) (h : OOk K N H a oo) : OOk K N' H' a oo := by
  cases oo with
  | lst ds => obtain ⟨xs, q, r⟩ := h; exact ⟨xs, hh _ q, r.1, fun i x d h1 h2 => e _ _ (r.2 i x d h1 h2)⟩
  | dic kvs => obtain ⟨es, q, r⟩ := h; exact ⟨es, hh _ q, r.1, fun i x p h1 h2 => e _ _ (r.2 i x p h1 h2)⟩
  | ins C y gs => obtain ⟨dx, fs, q, r⟩ := h; exact ⟨dx, fs, hh _ q, r.1, fun i x p h1 h2 => e _ _ (r.2 i x p h1 h2)⟩
  | set ns => obtain ⟨S, q, r⟩ := h; exact ⟨S, hh _ q, r⟩
  | keys ks => obtain ⟨od, xs, q, ko, hl, hn, r⟩ := h; exact ⟨od, xs, hh _ q, ko, hl, hn, fun i x d h1 h2 => e _ _ (r i x d h1 h2)⟩
/-- the known heap and the whole heap change at b alone -/
theorem SR.at {u : HO} (x : SR K R σ H N O s) (hb : N.h b ≠ none) (e : ∀ v d, Rep K N v d → Rep K (N.up b u) v d) : SR K R σ (upd H b u) (N.up b u) O s := by
  have hO : ∀ c w, O c = some w → c ≠ b := fun c w h z => by subst z; exact hb (x.good.own c w h).1
  refine ⟨⟨fun c w h => ?_, fun c w h => ?_⟩, x.len, fun i d h => ?_, x.loc, x.inj, x.out, x.outO, x.nd, x.rest, x.pin⟩
  · have h' : upd N.h b u c = some w := h
    by_cases hc : c = b
    · subst hc; rw [upd_same] at h' ⊢; exact h'
    · rw [upd_ne hc] at h' ⊢; exact x.good.ex c w h'
  · obtain ⟨q1, q2⟩ := x.good.own c w h
    have hc := hO c w h
    exact ⟨by show upd N.h b u c = none; rw [upd_ne hc]; exact q1, OOk.rep e (fun v hv => by rw [upd_ne hc]; exact hv) q2⟩
  · obtain ⟨v, q, r⟩ := x.val i d h
    exact ⟨v, q, e _ _ r⟩
theorem SR.lock (x : SR K R σ H N O s) (hb : N.h b = some (.dK kes)) : SR K R σ (upd H b (.frz o (.dK kes))) (N.up b (.frz o (.dK kes))) O s := x.at (by rw [hb]; exact fun z => nomatch z) fun v d r => r.lock hb
theorem SR.unlock (x : SR K R σ H N O s) (hb : N.h b = some (.frz o (.dK kes))) : SR K R σ (upd H b (.dK kes)) (N.up b (.dK kes)) O s := x.at (by rw [hb]; exact fun z => nomatch z) fun v d r => r.unlock hb
theorem le_unlock (hb : N.h b = some (.dK kes)) (l : Le (N.up b (.frz o (.dK kes))) N') : N'.h b = some (.frz o (.dK kes)) ∧ Le N (N'.up b (.dK kes)) := by
  refine ⟨l.h b _ upd_same, fun c w h => ?_, l.L, l.P⟩
  show upd N'.h b _ c = some w
  by_cases hc : c = b
  · subst hc; rw [upd_same]; rw [hb] at h; exact h
  · rw [upd_ne hc]; exact l.h c w (by show upd N.h b _ c = some w; rw [upd_ne hc]; exact h)
/-- .items() of the locked dict in slot i -/
def pairsD (kvs : List (D × D)) : List D := kvs.map fun p => .tup [p.1, p.2]
theorem ItD_items {a : Addr} {kvs : List (D × D)} (hl : N.h a = some (.frz o (.dK kes))) (ok : KvOk K N kes kvs) : ItD K (Iti a o kes) N (pairsD kvs) := fun N1 H1 sm sm2 => by
  have hl2 : H1 a = some (.frz o (.dK kes)) := sm2 _ _ (sm.h _ _ hl)
  have w := walk_items (d := a) (o := o) (kvs := kes)
  have el := kv_len ok
  have ln : (pairsD kvs).length = kvs.length := by simp [pairsD]
  refine ⟨fun i hi => w.goes i H1 (by rw [el, ← ln]; exact hi) hl2, ?_, fun i x H' hi y => ?_⟩
  · rw [ln, ← el]; exact w.stops H1 hl2
  · have hi' : i < kes.length := by rw [el, ← ln]; exact hi
    obtain ⟨T, x1, y1, rfl, hT, rfl, h1, h2⟩ := w.yields i H1 x H' hi' hl2 y
    have hi2 : i < kvs.length := by omega
    simp only [List.getElem?_eq_getElem hi', Option.map_some, Option.some.injEq] at h1 h2
    subst h1 h2
    have hkk : kvs[i].1 = kD kes[i].1 := by
      have := congrArg (fun l => l[i]?) ok.1
      simp only [List.getElem?_map, List.getElem?_eq_getElem hi', List.getElem?_eq_getElem hi2, Option.map_some, Option.some.injEq] at this
      exact this.symm
    refine ⟨.tup [kvs[i].1, kvs[i].2], by simp [pairsD, hi2], ?_⟩
    exact new_tup hT (Reps.cons (by rw [hkk]; exact kV_rep _) (Reps.one ((ok.2 i _ _ (List.getElem?_eq_getElem hi') (List.getElem?_eq_getElem hi2)).mono sm)))
def mForIt (i : Nat) (g : Tg) (m : M Fl) : M Fl := bindM (mVar i) fun d => match d with
  | .dic kvs => loopM g m (pairsD kvs)
  | _ => noM
/-- what stands in slot i is a known dict -/
theorem slot_dic {i : Nat} {kvs : List (D × D)} {s1 : Stt} (e : mVar i s = some (.dic kvs, s1)) (x : SR K R σ H N O s) : ∃ N1 O1 a kes, Le N N1 ∧ SR K R σ H N1 O1 s1 ∧ σ[i]? = some (some (.ref a)) ∧ Rd N1.h a (.dK kes) ∧ KvOk K N1 kes kvs := by
  unfold mVar at e
  cases h : s.env[i]? with
  | none => rw [h] at e; cases e
  | some z =>
    rw [h] at e
    cases z with
    | no => cases e
    | val d0 =>
      cases e
      obtain ⟨v, hv, r⟩ := x.val i _ h
      cases r with
      | dic h1 h2 h3 => exact ⟨N, O, _, _, Le.refl N, x, hv, h1, h2, h3⟩
    | own o =>
      cases o with
      | lst _ => cases e
      | ins _ _ _ => cases e
      | set _ => cases e
      | keys _ => cases e
      | dic kvs' =>
        cases e
        obtain ⟨N', O', a, l, ha, r, x'⟩ := x.frz h
        have r' : Rep K N' (.ref a) (.dic kvs) := r
        cases r' with
        | dic h1 h2 h3 => exact ⟨N', O', a, _, l, x', ha, h1, h2, h3⟩
theorem es_forIt {i : Nat} (hg : EvG K g mg is) (hb : EvS K t m) : EvS K (tLk (tFor (iItems (tVar i)) g t)) (mForIt i mg m) := fun s f s' e R σ H N O x E go => by
  obtain ⟨d, s1, e1, e⟩ := bindM_some e
  cases d with
  | dic kvs =>
    obtain ⟨N1, O1, a, kes, l1, x1, ha, hr, ok⟩ := slot_dic e1 x
    have go1 := go.le l1
    rcases hr with hr | ⟨o, hr⟩
    · refine .inl ⟨a, .dK kes, x1.good.ex _ _ hr, trivial, fun od => ?_⟩
      have x2 := x1.lock (o := od) hr
      refine ⟨_, ha, a, od, kes, rfl, upd_same, es_loop hg hb x2 (ItD_items (kes := kes) upd_same ⟨ok.1, fun i e p h1 h2 => (ok.2 i e p h1 h2).lock hr⟩) e ?_⟩
      cases f with
      | nx =>
        intro σ' H' N' O' l x'
        obtain ⟨h1, l2⟩ := le_unlock hr l
        exact ⟨x'.good.ex _ _ h1, go1 σ' _ _ _ l2 (x'.unlock h1)⟩
      | bk =>
        intro σ' H' N' O' l x'
        obtain ⟨h1, l2⟩ := le_unlock hr l
        exact ⟨x'.good.ex _ _ h1, go1 σ' _ _ _ l2 (x'.unlock h1)⟩
      | ct =>
        intro σ' H' N' O' l x'
        obtain ⟨h1, l2⟩ := le_unlock hr l
        exact ⟨x'.good.ex _ _ h1, go1 σ' _ _ _ l2 (x'.unlock h1)⟩
      | rt d =>
        intro v σ' H' N' O' l x' r'
        obtain ⟨h1, l2⟩ := le_unlock hr l
        exact ⟨x'.good.ex _ _ h1, go1 v σ' _ _ _ l2 (x'.unlock h1) (r'.unlock h1)⟩
    · exact .inr ⟨_, ha, a, o, kes, rfl, x1.good.ex _ _ hr, es_loop hg hb x1 (ItD_items hr ok) e go1⟩
  | _ => cases e
end
end ML
set_option Elab.async false
set_option linter.all false
set_option maxRecDepth 100000
set_option maxHeartbeats 2000000
/-! Layer M: what a def promises; calls; instances. -/
namespace ML
open PySem L2
/-- a def's model: arguments and shared objects in, the result and shared objects out -/
abbrev Fn := List D → List OO → Option (D × List OO)
/-- .. and an __init__'s: the fields of the new object out -/
abbrev Fi := List D → List OO → Option (List (Str × D) × List OO)
def SRw (K : KW) (R : Sto) (H : Hp) (N : Kn) (O : Sto) (ws : List OO) : Prop := SR K R [] H N O ⟨[], ws⟩
def spM (K : KW) (n : Nat) (f : Fn) : Sp := fun vs H Q _ => ∃ ds ws d ws' R N O, f ds ws = some (d, ws') ∧ ds.length = n ∧ Reps K N vs ds ∧ SRw K R H N O ws ∧ ∀ v H' N' O', Le N N' → SRw K R H' N' O' ws' → Rep K N' v d → Q v H'
def spI (K : KW) (C : Addr) (n : Nat) (f : Fi) : Sp := fun vs H Q _ => ∃ p vs' ds ws gs ws' R N O, f ds ws = some (gs, ws') ∧ ds.length = n ∧ vs = .ref p :: vs' ∧ Reps K N vs' ds ∧ SRw K R H N O ws ∧ Lone K N O H p (.ins C false []) ∧
  ∀ H' N' O', Le N N' → SRw K R H' N' O' ws' → Lone K N' O' H' p (.ins C false gs) → Q .non H'
section
variable {X : Cx} {K : KW} {R : Sto} {σ : L2.St} {N N' N1 : Kn} {H H' : Hp} {O O' : Sto} {s s' s1 : Stt} {d : D} {ds es : List D} {Q : VK} {ta tb tc te tk : TE} {ma mb mc me mk : M D} {t u : TS} {c : TT} {mt mu : M Bool} {tA tB : TA} {mA mB mi : M (List D)} {mO : M OO} {m m1 m2 : M Fl} {E : Ends}
theorem SR.drop (x : SR K R σ H N O s) : SRw K R H N O s.ws := ⟨x.good, rfl, fun i d h => by simp at h, fun i o h => by simp at h, fun i j o o' a h => by simp at h, x.out, x.outO, x.nd, x.rest, fun i C gs a h => by simp at h⟩
/-- all that is not shared, set apart -/
def rest_ (N : Kn) (O : Sto) : Sto := fun a => if a ∈ N.L then none else O a
theorem rest_in {a : Addr} (h : a ∈ N.L) : rest_ N O a = none := if_pos h
theorem rest_out {a : Addr} (h : a ∉ N.L) : rest_ N O a = O a := if_neg h
theorem SR.give (x : SR K R σ H N O s) : SRw K (rest_ N O) H N O s.ws := ⟨x.good, rfl, fun i d h => by simp at h, fun i o h => by simp at h, fun i j o o' a h => by simp at h, x.out, fun i a o h1 h2 => ⟨(x.outO i a o h1 h2).1, rest_in (List.mem_of_getElem? h1)⟩, x.nd, fun a o h => by
  unfold rest_ at h
  split at h
  · cases h
  · exact h, fun i C gs a h => by simp at h⟩
theorem SR.regain (x : SR K R σ H N O s) (l : Le N N') {ws' : List OO} (y : SRw K (rest_ N O) H' N' O' ws') : SR K R σ H' N' O' { s with ws := ws' } := by
  have isR : ∀ a o, R a = some o → rest_ N O a = some o := fun a o h => by
    have hO := x.rest a o h
    have hL : a ∉ N.L := fun z => by
      obtain ⟨i, hi⟩ := List.mem_iff_getElem?.mp z
      have hl : i < s.ws.length := by rw [← x.out]; exact (List.getElem?_eq_some_iff.mp hi).1
      have := (x.outO i a _ hi (List.getElem?_eq_getElem hl)).2
      rw [h] at this; cases this
    rw [rest_out hL]; exact hO
  have outL : ∀ a o, rest_ N O a = some o → a ∉ N'.L := fun a o h z => by
    obtain ⟨i, hi⟩ := List.mem_iff_getElem?.mp z
    have hl : i < ws'.length := by
      have h1 : N'.L.length = ws'.length := y.out
      rw [← h1]; exact (List.getElem?_eq_some_iff.mp hi).1
    have := (y.outO i a _ hi (show ws'[i]? = some ws'[i] from List.getElem?_eq_getElem hl)).2
    rw [h] at this; cases this
  refine ⟨y.good, x.len, fun i d h => ?_, fun i o h => ?_, x.inj, y.out, fun i a o h1 h2 => ?_, y.nd, fun a o h => y.rest a o (isR a o h), fun i C gs a h1 h2 => l.P.trans (x.pin i C gs a h1 h2)⟩
  · obtain ⟨v, q, r⟩ := x.val i d h
    exact ⟨v, q, r.mono l⟩
  · obtain ⟨a, q1, q2, q3, q4⟩ := x.loc i o h
    have hr : rest_ N O a = some o := by rw [rest_out q4]; exact q2
    exact ⟨a, q1, y.rest a o hr, q3, outL a o hr⟩
  · obtain ⟨q1, q2⟩ := y.outO i a o h1 h2
    refine ⟨q1, ?_⟩
    cases hR : R a with
    | none => rfl
    | some u => rw [isR a u hR] at q2; cases q2
theorem spM_len {n : Nat} {f : Fn} {vs : List V} {E : XK} (h : spM K n f vs H Q E) : vs.length = n := by
  obtain ⟨ds, ws, d, ws', R, N, O, _, hn, rs, _⟩ := h
  exact rs.1.trans hn
theorem spI_len {n : Nat} {C : Addr} {f : Fi} {vs : List V} {E : XK} (h : spI K C n f vs H Q E) : vs.length = n + 1 := by
  obtain ⟨p, vs', ds, ws, gs, ws', R, N, O, _, hn, rfl, rs, _⟩ := h
  simp [rs.1, hn]
theorem OOk.rep' {a : Addr} {oo : OO} (e : ∀ v d, Rep K N v d → Rep K N' v d) (hh : ∀ u, H a = some u → H' a = some u) (h : OOk K N H a oo) : OOk K N' H' a oo := OOk.rep e hh h
/-! ### calls -/
def mCall (n : Nat) (f : Fn) (ms : M (List D)) : M D := bindM ms fun ds => fun s => if ds.length = n then (f ds s.ws).map fun p => (p.1, { s with ws := p.2 }) else none
theorem call_run {n : Nat} {f : Fn} {vs : List V} {XE : XK} {ws' : List OO} (x : SR K R σ H N O s) (rs : Reps K N vs ds) (hn : ds.length = n) (e : f ds s.ws = some (d, ws')) (q : FinE K R σ N { s with ws := ws' } d Q) : spM K n f vs H Q XE :=
  ⟨ds, s.ws, d, ws', rest_ N O, N, O, e, hn, rs, x.give, fun v H' N' O' l y r => q v H' N' O' l (x.regain l y) r⟩
theorem ee_call {n : Nat} {f : Fn} {XE : XK} (h : EvA K tA mA) : EvE K (tCall (spM K n f) [] XE tA) (mCall n f mA) := fun s d s' e R σ H N O x Q q => by
  obtain ⟨ds, s1, e1, e⟩ := bindM_some e
  split at e
  · rename_i hn
    cases e2 : f ds s1.ws with
    | none => rw [e2] at e; cases e
    | some p =>
      obtain ⟨d0, ws'⟩ := p
      rw [e2] at e
      cases e
      refine h s ds s1 e1 R σ H N O x _ fun vs H1 N1 O1 l1 x1 rs => ?_
      rw [List.append_nil]
      exact call_run x1 rs hn e2 (q.le l1)
  · cases e
/-- with defaults -/
def mCallD (n : Nat) (f : Fn) (dv : List D) (ms : M (List D)) : M D := mCall n f (bindM ms fun ds => retM (ds ++ dv))
theorem ee_callD {n : Nat} {f : Fn} {XE : XK} {dvs : List V} {dv : List D} (h : EvA K tA mA) (hd : ∀ N, Reps K N dvs dv) : EvE K (tCall (spM K n f) dvs XE tA) (mCallD n f dv mA) := fun s d s' e R σ H N O x Q q => by
  obtain ⟨ds', s1, e1, e⟩ := bindM_some e
  obtain ⟨ds, s2, e0, e1⟩ := bindM_some e1
  cases e1
  split at e
  · rename_i hn
    cases e2 : f (ds ++ dv) s1.ws with
    | none => rw [e2] at e; cases e
    | some p =>
      obtain ⟨d0, ws'⟩ := p
      rw [e2] at e
      cases e
      refine h s ds s1 e0 R σ H N O x _ fun vs H1 N1 O1 l1 x1 rs => ?_
      exact call_run x1 (rs.app (hd N1)) hn e2 (q.le l1)
  · cases e
/-- a new instance -/
def mMakeO (C : Addr) (n : Nat) (f : Fi) (ms : M (List D)) : M OO := bindM ms fun ds => fun s => if ds.length = n then (f ds s.ws).map fun p => (.ins C false p.1, { s with ws := p.2 }) else none
theorem eo_make {n : Nat} {f : Fi} {C : Addr} {XE : XK} (h : EvA K tA mA) : EvO K (tMake C (spI K C n f) [] XE tA) (mMakeO C n f mA) := fun s o s' e R σ H N O x Q q => by
  obtain ⟨ds, s1, e1, e⟩ := bindM_some e
  split at e
  · rename_i hn
    cases e2 : f ds s1.ws with
    | none => rw [e2] at e; cases e
    | some p =>
      obtain ⟨gs, ws'⟩ := p
      rw [e2] at e
      cases e
      refine h s ds s1 e1 R σ H N O x _ fun vs H1 N1 O1 l1 x1 rs => ?_
      intro y dx hy hdx hne
      rw [List.append_nil]
      have x2 := x1.skip (o := .own y) hdx
      have hy2 : (upd H1 dx (.own y)) y = none := by rw [upd_ne (Ne.symm hne)]; exact hy
      obtain ⟨x3, lo⟩ := lone_new x2 (o := .ins C dx []) (oo := .ins C false []) hy2 ⟨dx, [], upd_same, rfl, fun i p q h => by simp at h⟩
      refine ⟨y, vs, ds, s1.ws, gs, ws', rest_ N1 O1, N1, O1, e2, hn, rfl, rs, x3.give, lo, fun H' N' O' l y' lo' => ⟨rfl, ?_⟩⟩
      exact q y H' N' O' (l1.trans l) (x3.regain l y') lo'
  · cases e
/-! ### bodies -/
def iniM (ds : List D) (k : Nat) : Env := ds.map Sl.val ++ List.replicate k .no
def mBody (n k : Nat) (m : M Fl) : Fn := fun ds ws => if ds.length = n then (match m ⟨iniM ds k, ws⟩ with
  | some (.rt d, s) => some (d, s.ws)
  | some (.nx, s) => some (.non, s.ws)
  | _ => none) else none
theorem SRw.start (x : SRw K R H N O ws) {vs : List V} {ds : List D} (rs : Reps K N vs ds) {Nm : List Str} {k : Nat} (hm : Nm.length = ds.length + k) : SR K R (L2.start Nm vs) H N O ⟨iniM ds k, ws⟩ := by
  have own_ : ∀ (i : Nat) (o : OO), (iniM ds k)[i]? ≠ some (.own o) := fun i o h => by
    unfold iniM at h
    by_cases hi : i < ds.length
    · rw [List.getElem?_append_left (by simpa using hi), List.getElem?_map, List.getElem?_eq_getElem hi] at h
      cases h
    · rw [List.getElem?_append_right (by simpa using hi), List.getElem?_replicate] at h
      split at h <;> cases h
  refine ⟨x.good, ?_, fun i d h => ?_, fun i o h => absurd h (own_ i o), fun i j o o' a h => absurd h (own_ i o), x.out, x.outO, x.nd, x.rest, fun i C gs a h => absurd h (own_ i _)⟩
  · unfold L2.start iniM
    simp [rs.1, hm]
  · have h' : (iniM ds k)[i]? = some (.val d) := h
    unfold iniM at h'
    by_cases hi : i < ds.length
    · rw [List.getElem?_append_left (by simpa using hi), List.getElem?_map, List.getElem?_eq_getElem hi] at h'
      simp only [Option.map_some, Option.some.injEq, Sl.val.injEq] at h'
      subst h'
      obtain ⟨y, hy, ry⟩ := rs.get (List.getElem?_eq_getElem hi)
      exact ⟨y, by unfold L2.start; rw [List.getElem?_append_left (by simpa using (by rw [rs.1]; exact hi)), List.getElem?_map, hy]; rfl, ry⟩
    · rw [List.getElem?_append_right (by simpa using hi), List.getElem?_replicate] at h'
      split at h' <;> cases h'
theorem body_ok {n k : Nat} {Nm : List Str} {vs : List V} {XE : XK} (hm : Nm.length = n + k) (h : spM K n (mBody n k m) vs H Q XE) (hb : EvS K t m) : t { nx := fun _ H' => Q .non H', rt := Q } (L2.start Nm vs) H := by
  obtain ⟨ds, ws, d, ws', R, N, O, e, hn, rs, x, q⟩ := h
  unfold mBody at e
  rw [if_pos hn] at e
  have x0 : SR K R (L2.start Nm vs) H N O ⟨iniM ds k, ws⟩ := SRw.start x rs (by rw [hm, hn])
  split at e
  · rename_i d0 s1 e1
    cases e
    exact hb _ _ _ e1 R _ H N O x0 _ fun v σ' H' N' O' l x' r => q v H' N' O' l x'.drop r
  · rename_i s1 e1
    cases e
    exact hb _ _ _ e1 R _ H N O x0 _ fun σ' H' N' O' l x' => q .non H' N' O' l x'.drop .non
  · cases e
/-- an __init__: self is slot 0 -/
def initEnd (C : Addr) (f : Fl) (s : Stt) : Option (List (Str × D) × List OO) := match f, s.env[(0 : Nat)]? with
  | .nx, some (.own (.ins C' true gs)) => if C' = C then some (gs, s.ws) else none
  | _, _ => none
def mInit (C : Addr) (n k : Nat) (m : M Fl) : Fi := fun ds ws => if ds.length = n then (m ⟨.own (.ins C true []) :: iniM ds k, ws⟩).bind (fun p => initEnd C p.1 p.2) else none
theorem rep_pin {P : Option Addr} {v : V} {d : D} (r : Rep K N v d) : Rep K { N with P := P } v d := Rep.mono' (N := N) (N' := { N with P := P }) (Same.refl N.h) (fun _ _ h => h) r
/-- another place is the pinned one -/
theorem SRw.repin (x : SRw K R H N O ws) (P : Option Addr) : SRw K R H { N with P := P } O ws := by
  refine ⟨⟨x.good.ex, fun a o h => ⟨(x.good.own a o h).1, ?_⟩⟩, rfl, fun i d h => by simp at h, fun i o h => by simp at h, fun i j o o' a h => by simp at h, x.out, x.outO, x.nd, x.rest, fun i C gs a h => by simp at h⟩
  exact OOk.rep' (fun v d r => rep_pin r) (fun u h => h) (x.good.own a o h).2
theorem Lone.repin {p : Addr} {oo : OO} (l : Lone K N O H p oo) (P : Option Addr) : Lone K { N with P := P } O H p oo :=
  ⟨l.1, l.2.1, l.2.2.1, OOk.rep' (fun v d r => rep_pin r) (fun u h => h) l.2.2.2⟩
theorem SRw.startI (x : SRw K R H N O ws) {vs : List V} {ds : List D} (rs : Reps K N vs ds) {p : Addr} {oo : OO} (lo : Lone K N O H p oo) (hp : N.P = some p) {Nm : List Str} {k : Nat} (hm : Nm.length = ds.length + 1 + k) :
    SR K R (L2.start Nm (.ref p :: vs)) H N (dset O p oo) ⟨.own oo :: iniM ds k, ws⟩ := by
  have h1 : SR K R (none :: L2.start (Nm.drop 1) vs) H N O ⟨.no :: iniM ds k, ws⟩ := by
    have x0 : SR K R (L2.start (Nm.drop 1) vs) H N O ⟨iniM ds k, ws⟩ := SRw.start x rs (by rw [List.length_drop, hm]; omega)
    refine ⟨x0.good, by have := x0.len; simp at this ⊢; exact this, fun i d h => ?_, fun i o h => ?_, fun i j o o' a h h2 h3 h4 => ?_, x0.out, x0.outO, x0.nd, x0.rest, fun i C gs a h h2 => ?_⟩
    · cases i with
      | zero => cases h
      | succ i => exact x0.val i d (by simpa using h)
    · cases i with
      | zero => cases h
      | succ i => exact x0.loc i o (by simpa using h)
    · cases i with
      | zero => cases h
      | succ i => cases j with
        | zero => cases h2
        | succ j => rw [x0.inj i j o o' a (by simpa using h) (by simpa using h2) (by simpa using h3) (by simpa using h4)]
    · cases i with
      | zero => cases h
      | succ i => exact x0.pin i C gs a (by simpa using h) (by simpa using h2)
  have h2 := h1.own_ lo (.inr hp) 0
  have e : L2.start Nm (.ref p :: vs) = some (.ref p) :: L2.start (Nm.drop 1) vs := by
    unfold L2.start
    simp only [List.map_cons, List.length_cons, List.cons_append, List.length_drop]
    congr 3
    omega
  rw [e]
  exact h2
theorem init_ok {C : Addr} {n k : Nat} {Nm : List Str} {vs : List V} {XE : XK} (hm : Nm.length = n + 1 + k) (h : spI K C n (mInit C n k m) vs H Q XE) (hb : EvS K t m) : t { nx := fun _ H' => Q .non H', rt := Q } (L2.start Nm vs) H := by
  obtain ⟨p, vs', ds, ws, gs, ws', R, N, O, e, hn, rfl, rs, x, lo, q⟩ := h
  unfold mInit at e
  rw [if_pos hn] at e
  have rs' : Reps K { N with P := some p } vs' ds := ⟨rs.1, fun i y d h1 h2 => rep_pin (rs.2 i y d h1 h2)⟩
  have lo' : Lone K { N with P := some p } O H p (.ins C true []) := lo.repin (some p)
  have x0 := SRw.startI (x.repin (some p)) rs' lo' rfl (Nm := Nm) (k := k) (by rw [hm, hn])
  cases e1 : m ⟨.own (.ins C true []) :: iniM ds k, ws⟩ with
  | none => rw [e1] at e; cases e
  | some r =>
    obtain ⟨fl, s1⟩ := r
    simp only [e1, Option.bind_some] at e
    unfold initEnd at e
    split at e
    · rename_i C' gs' he
      split at e
      · rename_i hc
        cases e
        refine hb _ _ _ e1 R _ H _ _ x0 _ fun σ' H' N' O' l x' => ?_
        obtain ⟨a, ha, hO, hR, hL⟩ := x'.loc 0 _ he
        obtain ⟨hn', dx, fs, hx, ok⟩ := x'.good.own a _ hO
        have ea : a = p := by
          have h1 := x'.pin 0 _ _ a he ha
          have h2 : N'.P = some p := l.P
          rw [h2] at h1
          exact (Option.some.inj h1).symm
        subst hc
        have sub : Sub (ddrop O' a) O' := fun b u e => by
          by_cases hb : b = a
          · subst hb; rw [ddrop_same] at e; cases e
          · rw [ddrop_ne hb] at e; exact e
        have y : SRw K R H' N' (ddrop O' a) s1.ws := by
          have y0 := x'.drop
          refine ⟨y0.good.sub sub, rfl, fun i d h => by simp at h, fun i o h => by simp at h, fun i j o o' a h => by simp at h, y0.out, fun i b o h1 h2 => ?_, y0.nd, fun b o h => ?_, fun i C gs a h => by simp at h⟩
          · obtain ⟨q1, q2⟩ := y0.outO i b o h1 h2
            have hb : b ≠ a := fun z => by subst z; exact hL (List.mem_of_getElem? h1)
            exact ⟨by rw [ddrop_ne hb]; exact q1, q2⟩
          · have hb : b ≠ a := fun z => by subst z; rw [hR] at h; cases h
            rw [ddrop_ne hb]; exact y0.rest b o h
        subst ea
        have lo2 : Lone K N' (ddrop O' a) H' a (.ins C' false gs) := ⟨hn', ddrop_same, hL, dx, fs, hx, ok⟩
        exact q H' { N' with P := N.P } _ ⟨l.h, l.L, rfl⟩ (y.repin N.P) (lo2.repin N.P)
      · cases e
    · cases e
end
end ML
set_option Elab.async false
set_option linter.all false
set_option maxRecDepth 100000
set_option maxHeartbeats 2000000
/-! Layer M: what the derivations name beside the library's rules. -/
namespace ML
open PySem PySem.Spec PyProof.Rows L2
def fuelM : Nat := 100000
theorem bt_int : bootBuiltins "int" = some (.type "int") := by decide +kernel
theorem bt_bool : bootBuiltins "bool" = some (.type "bool") := by decide +kernel
theorem bt_str : bootBuiltins "str" = some (.type "str") := by decide +kernel
theorem bt_list : bootBuiltins "list" = some (.type "list") := by decide +kernel
theorem bt_tuple : bootBuiltins "tuple" = some (.type "tuple") := by decide +kernel
theorem bt_dict : bootBuiltins "dict" = some (.type "dict") := by decide +kernel
theorem bt_set : bootBuiltins "set" = some (.type "set") := by decide +kernel
theorem bt_isinstance : bootBuiltins "isinstance" = some (.builtin "isinstance") := by decide +kernel
theorem bt_len : bootBuiltins "len" = some (.builtin "len") := by decide +kernel
theorem bt_abs : bootBuiltins "abs" = some (.builtin "abs") := by decide +kernel
theorem bt_max : bootBuiltins "max" = some (.builtin "max") := by decide +kernel
theorem bt_min : bootBuiltins "min" = some (.builtin "min") := by decide +kernel
theorem bt_sum : bootBuiltins "sum" = some (.builtin "sum") := by decide +kernel
theorem bt_all : bootBuiltins "all" = some (.builtin "all") := by decide +kernel
theorem bt_any : bootBuiltins "any" = some (.builtin "any") := by decide +kernel
theorem bt_sorted : bootBuiltins "sorted" = some (.builtin "sorted") := by decide +kernel
section
variable {X : Cx} {pos : Pos} {a b : Expr} {ta tb te tk : TE} {K : KW} {R : Sto} {σ : L2.St} {N N' N1 : Kn} {H H' : Hp} {O O' : Sto} {s s' s1 : Stt} {d : D} {Q : VK} {ma mb mc me mk : M D} {c : TT} {mt mu : M Bool} {tA tB : TA} {mA mB mi : M (List D)} {mO : M OO} {wi : TI} {g : TG} {mg : Tg} {is : List Nat}

theorem hv_of {A : Around} {k : Nat} (hr : Room k A) : A.units + 65 < cLine := by have := hr.un; omega
theorem op_eqM (hv : X.A.units + 65 < cLine) : OpR X (compareOp .Eq) (rEqD X.K) := op_eqD (Nat.lt_of_succ_lt hv)
theorem op_neM (hv : X.A.units + 65 < cLine) : OpR X (compareOp .NotEq) (rNeD X.K) := op_neD (Nat.lt_of_succ_lt hv)
theorem lt_hv {n : Nat} (hv : n + 65 < cLine) : n + 1 < cLine := by omega
/-! in, of any kind -/
theorem pe_inU (hv : X.A.units + 65 < cLine) (ha : PE X a ta) (hb : PE X b tb) (hm : behindInMarks .In b = false) : PE X (.Compare a [.In] [b] pos) (tInU X.K ta tb) :=
  pe_or2 (pe_cmpR (op_or2 op_in_seq (op_inD hv)) ha hb hm) (pe_cmp (pc_din (lt_hv hv) ha hb) hm)
theorem pe_notInU (hv : X.A.units + 65 < cLine) (ha : PE X a ta) (hb : PE X b tb) (hm : behindInMarks .NotIn b = false) : PE X (.Compare a [.NotIn] [b] pos) (tNotInU X.K ta tb) :=
  pe_or2 (pe_cmpR (op_or2 op_notIn_seq (op_notInD hv)) ha hb hm) (pe_cmp (pc_dnotin (lt_hv hv) ha hb) hm)
theorem pt_inU (hv : X.A.units + 65 < cLine) (ha : PE X a ta) (hb : PE X b tb) (hm : behindInMarks .In b = false) : PT X (.Compare a [.In] [b] pos) (tTest (tInU X.K ta tb)) := ⟨fun pins s σ H Q I w => by
  rcases w with w | w
  · exact (pt_cmpR (op_or2 op_in_seq (op_inD hv)) ha hb hm).run pins s σ H Q I w
  · exact (pt_cmp (pc_din (lt_hv hv) ha hb) hm).run pins s σ H Q I w⟩
theorem pt_notInU (hv : X.A.units + 65 < cLine) (ha : PE X a ta) (hb : PE X b tb) (hm : behindInMarks .NotIn b = false) : PT X (.Compare a [.NotIn] [b] pos) (tTest (tNotInU X.K ta tb)) := ⟨fun pins s σ H Q I w => by
  rcases w with w | w
  · exact (pt_cmpR (op_or2 op_notIn_seq (op_notInD hv)) ha hb hm).run pins s σ H Q I w
  · exact (pt_cmp (pc_dnotin (lt_hv hv) ha hb) hm).run pins s σ H Q I w⟩
/-! a[b], of any kind -/
theorem pe_ixU (hv : X.A.units + 65 < cLine) (ha : PE X a ta) (hb : PE X b tb) (hs : NoSl b) : PE X (.Subscript a b pos) (tOr2 (tOp (rIx X.K) ta tb) (tDGet ta tb)) :=
  pe_or2 (pe_ix ix_seq ha hb hs) (pe_dget (lt_hv hv) ha hb hs)
theorem pi_seqE {tg l : Expr} {tl : TE} (hl : PE X l tl) : PI X tg l (iSeq X.K tl) := pi_seq (pi_list hl) (pi_tup hl)
theorem sl_U : L2.SlR X (rSlU X.K) := L2.SlR.or sl_tupA sl_list
def mYes : M Bool := retM true
theorem et_yes : EvT K tYes mYes := fun s b s' e R σ H N O x Q q => by
  cases e
  exact q H N O (Le.refl N) x
/-! e0.insert(i, e): a shared list -/
abbrev rInsert : V → List V → Hp → VK → Prop := fun x vs H Q => ∃ (l : Addr) (xs : List V) (i : Int) (y : V), x = .ref l ∧ vs = [.int i, y] ∧ H l = some (.lst xs) ∧ xs.length < sizeLine ∧ 0 ≤ i ∧ i < 2 ^ 63 ∧ Q .non (upd H l (.lst (xs.take i.toNat ++ [y] ++ xs.drop i.toNat)))
def mInsO (m0 : M D) (ms : M (List D)) : M D := bindM m0 fun a => fun s0 => match a with
  | .loc k => match s0.ws[k]? with
    | some (.lst _) => (bindM ms fun bs => fun s => match bs, s.ws[k]? with
      | [.int i, d], some (.lst ds) => if ds.length < most ∧ 0 ≤ i ∧ i < 2 ^ 63 then some (.non, { s with ws := s.ws.set k (.lst (ds.take i.toNat ++ [d] ++ ds.drop i.toNat)) }) else none
      | _, _ => none) s0
    | _ => none
  | _ => none
theorem ee_insO (h0 : EvE K ta ma) (h : EvA K tA mA) : EvE K (tBM K "list" rInsert ta tA) (mInsO ma mA) := fun s d s' e R σ H N O x Q q => by
  obtain ⟨a, s1, e1, e⟩ := bindM_some e
  cases a with
  | loc k =>
    simp only at e
    split at e
    · rename_i ds0 hw0
      obtain ⟨bs, s2, e2, e⟩ := bindM_some e
      refine h0 s _ s1 e1 R σ H N O x _ fun v H1 N1 O1 l1 x1 r1 => ?_
      cases r1 with
      | @loc a _ hL =>
        obtain ⟨xs0, hx0, _⟩ := x1.getO hw0 hL
        refine ⟨tyV_lst rfl hx0, h s1 bs s2 e2 R σ H1 N1 O1 x1 _ fun vs H2 N2 O2 l2 x2 rs => ?_⟩
        split at e
        · rename_i i d0 ds hw
          split at e
          · rename_i hi
            cases e
            obtain ⟨v, w, rfl, rv, rw'⟩ := rs.two_
            cases rv
            have hL2 := l2.L _ _ hL
            obtain ⟨xs, hx, r⟩ := x2.getO hw hL2
            have x3 := x2.mutO (o := .lst (xs.take i.toNat ++ [w] ++ xs.drop i.toNat)) (oo := .lst (ds.take i.toNat ++ [d0] ++ ds.drop i.toNat)) hw hL2 ⟨_, upd_same, ((r.take _).app (Reps.one rw')).app (r.drop _)⟩
            exact ⟨a, xs, i, w, rfl, rfl, hx, by rw [r.1]; exact most_lt hi.1, hi.2.1, hi.2.2, (q.le (l1.trans l2)).here x3 .non⟩
          · cases e
        · cases e
    · cases e
  | _ => cases e
end
def mPar3 (i j l : Nat) (ms : M (List D)) : M Fl := bindM ms fun ds => fun s => match ds with
  | [a, b, c] => some (.nx, { s with env := ((s.env.set i (.val a)).set j (.val b)).set l (.val c) })
  | _ => none
theorem es_par3 {K : KW} {tA : TA} {mA : M (List D)} {i j l : Nat} (h : EvA K tA mA) : EvS K (tPar3 i j l tA) (mPar3 i j l mA) := fun s f s' e R σ H N O x E go => by
  obtain ⟨ds, s1, e1, e⟩ := bindM_some e
  match ds, e with
  | [a, b, c], e =>
    cases e
    refine h s _ s1 e1 R σ H N O x _ fun vs H1 N1 O1 l1 x1 rs => ?_
    obtain ⟨u, v, w, rfl, r1, r2, r3⟩ := rs.three_
    exact ⟨u, v, w, rfl, go _ H1 N1 O1 l1 (((x1.set r1 i).set r2 j).set r3 l)⟩
theorem spM_no {K : KW} {n : Nat} {vs : List V} {H : Hp} {Q : VK} {E : XK} (h : spM K n (fun _ _ => none) vs H Q E) : False := by
  obtain ⟨ds, ws, d, ws', R, N, O, e, _⟩ := h
  cases e
/-! ### dict comprehensions with int and text keys -/
section
variable {X : Cx} {K : KW} {R : Sto} {σ : L2.St} {N N' N1 : Kn} {H H' : Hp} {O O' : Sto} {s s' s1 : Stt} {d : D} {Q : VK} {ta tb te tk : TE} {ma mb mc me mk : M D} {c : TT} {mt mu : M Bool} {mi : M (List D)} {wi : TI} {g : TG} {mg : Tg} {is : List Nat}
def loopD (g : Tg) (mt : M Bool) (mk me : M D) (vs : List Nat) : List D → List (D × D) → Stt → Option (List (D × D) × Stt)
  | [], acc, s => some (acc, s)
  | d :: ds, acc, s => match g d s.env with
    | none => none
    | some e => match mt { s with env := e } with
      | none => none
      | some (true, s1) => (match mk s1 with
        | none => none
        | some (y, s2) => match me s2 with
          | none => none
          | some (z, s3) => match y.key with
            | none => none
            | some k => if acc.length < most then loopD g mt mk me vs ds (putD acc k z) { s3 with env := wipeM s3.env vs } else none)
      | some (false, s1) => loopD g mt mk me vs ds acc { s1 with env := wipeM s1.env vs }
def mDc (mi : M (List D)) (g : Tg) (mt : M Bool) (mk me : M D) (vs : List Nat) : M OO := bindM mi fun ds => compM vs fun s => (loopD g mt mk me vs ds [] s).map fun p => (.dic p.1, p.2)
theorem loopD_clean {g : Tg} {mt : M Bool} {mk me : M D} {vs : List Nat} : ∀ {ds : List D} {acc acc' : List (D × D)} {s s' : Stt}, loopD g mt mk me vs ds acc s = some (acc', s') → (∀ j ∈ vs, ∀ o, s.env[j]? ≠ some (.own o)) → ∀ j ∈ vs, ∀ o, s'.env[j]? ≠ some (.own o)
  | [], acc, acc', s, s', e, h => by cases e; exact h
  | d :: ds, acc, acc', s, s', e, h => by
    unfold loopD at e
    split at e
    · cases e
    · split at e
      · cases e
      · split at e
        · cases e
        · split at e
          · cases e
          · split at e
            · cases e
            · split at e
              · exact loopD_clean e wiped_no
              · cases e
      · exact loopD_clean e wiped_no
theorem eo_dc {vs : List Nat} (hi : EvI K wi mi) (hg : EvG K g mg is) (hv : ∀ j ∈ is, j ∈ vs) (ht : EvT K c mt) (hk : EvE K tk mk) (he : EvE K te me) : EvO K (tDc wi g c tk te vs) (mDc mi mg mt mk me vs) := fun s o s' e R σ H N O x Q q => by
  obtain ⟨ds, s1, e1, e⟩ := bindM_some e
  unfold compM at e
  split at e
  · rename_i hfr
    split at e
    · rename_i o2 s2 e2
      cases e
      cases e3 : loopD mg mt mk me vs ds [] { s1 with env := wipeM s1.env vs } with
      | none => simp only [e3] at e2; cases e2
      | some p =>
        obtain ⟨acc', s3⟩ := p
        simp only [e3] at e2
        cases e2
        refine hi s ds s1 e1 R σ H N O x _ fun J H1 N1 O1 l1 x1 it => ?_
        intro L hL
        obtain ⟨x2, lo⟩ := lone_new x1 (o := .dK []) (oo := .dic []) hL ⟨[], upd_same, rfl, fun i e p h => by simp at h⟩
        have hRL : R L = none := by
          cases z : R L with
          | none => rfl
          | some u => have := x1.rest L u z; rw [(x1.good.free hL).2] at this; cases this
        have x3 := (x2.lend lo).wipe vs
        refine ⟨fun i k H' => k = ds.length - i ∧ i ≤ ds.length ∧ ∃ N' O' acc si, Le N1 N' ∧ SR K (dset R L (.dic acc)) (L2.wipe σ vs) H' N' O' si ∧ loopD mg mt mk me vs (ds.drop i) acc si = some (acc', s3), ⟨ds.length, rfl, Nat.zero_le _, N1, _, [], _, Le.refl _, x3, e3⟩, ?_⟩
        rintro i k H2 ⟨rfl, hle, N2, O2, acc, si, l2, xi, ei⟩
        obtain ⟨hgo, hstop, hyld⟩ := it N2 H2 l2 xi.good.ex
        by_cases hlt : i < ds.length
        · have ed : ds.drop i = ds[i] :: ds.drop (i + 1) := List.drop_eq_getElem_cons hlt
          rw [ed] at ei
          unfold loopD at ei
          cases e4 : mg ds[i] si.env with
          | none => rw [e4] at ei; cases ei
          | some env' =>
            rw [e4] at ei
            simp only at ei
            cases e5 : mt { si with env := env' } with
            | none => rw [e5] at ei; cases ei
            | some p =>
              obtain ⟨b, s4⟩ := p
              rw [e5] at ei
              refine .inr ⟨hgo i hlt, fun H' => ∃ N' O' acc si, Le N1 N' ∧ SR K (dset R L (.dic acc)) (L2.wipe σ vs) H' N' O' si ∧ loopD mg mt mk me vs (ds.drop (i + 1)) acc si = some (acc', s3), fun H' ⟨N', O', a, b, q1, q2, q3⟩ => ⟨ds.length - (i + 1), by omega, rfl, hlt, N', O', a, b, q1, q2, q3⟩, fun v H' y => ?_⟩
              obtain ⟨d, hd, run⟩ := hyld i v H' hlt y
              obtain ⟨N3, l3, x4, r4⟩ := run _ _ O2 si xi
              rw [List.getElem?_eq_getElem hlt] at hd
              cases hd
              refine hg ds[i] si env' e4 v _ _ H' N3 O2 x4 r4 _ fun σ5 x5 a5 ln5 => ?_
              have hwp : L2.wipe σ5 vs = L2.wipe σ vs := wipe_wipe (fun j hj => a5 j (fun z => hj (hv j z))) (ln5.trans (wipe_length _ _))
              refine ⟨hwp, ht _ b s4 e5 _ σ5 H' N3 O2 x5 _ fun H5 N5 O5 l5 x6 => ?_⟩
              cases b with
              | true =>
                rw [if_pos rfl]
                simp only at ei
                cases e6 : mk s4 with
                | none => rw [e6] at ei; cases ei
                | some p =>
                  obtain ⟨y6, s6⟩ := p
                  rw [e6] at ei
                  simp only at ei
                  cases e7 : me s6 with
                  | none => rw [e7] at ei; cases ei
                  | some p =>
                    obtain ⟨z7, s7⟩ := p
                    rw [e7] at ei
                    simp only at ei
                    cases e8 : y6.key with
                    | none => rw [e8] at ei; cases ei
                    | some k8 =>
                      rw [e8] at ei
                      simp only at ei
                      split at ei
                      · rename_i hz
                        refine hk s4 y6 s6 e6 _ σ5 H5 N5 O5 x6 _ fun w H6 N6 O6 l6 x7 r7 => ?_
                        refine he s6 z7 s7 e7 _ σ5 H6 N6 O6 x7 _ fun w' H7 N7 O7 l7 x8 r8 => ?_
                        have ew := rep_key e8 r7
                        subst ew
                        have hO : O7 L = some (.dic acc) := x8.rest L _ dset_same
                        obtain ⟨xs, hx, rs⟩ := (x8.good.own L _ hO).2
                        have x9 := x8.mutR (ho := .dK (putK xs k8 w')) (oo := .dic (putD acc k8 z7)) ⟨_, upd_same, put_ok rs r8⟩
                        have x10 := x9.wipe vs
                        rw [hwp] at x10
                        exact ⟨xs, k8, rfl, hx, by rw [kv_len rs]; exact most_lt hz, N7, _, _, _, (((l2.trans l3).trans l5).trans l6).trans l7, x10, ei⟩
                      · cases ei
              | false =>
                rw [if_neg Bool.false_ne_true]
                have x9 := x6.wipe vs
                rw [hwp] at x9
                exact ⟨N5, _, _, _, (l2.trans l3).trans l5, x9, ei⟩
        · have e0 : i = ds.length := by omega
          subst e0
          rw [List.drop_length] at ei
          cases ei
          refine .inl ⟨hstop, ?_⟩
          obtain ⟨xb, lb⟩ := xi.back hRL
          have clean := loopD_clean e3 (fun j hj o => wiped_no j hj o)
          exact q L H2 N2 _ (l1.trans l2) (x1.restore l2 hfr xb clean) lb
    · cases e
  · cases e
/-- name = {k: v for x in ..} -/
theorem ps_setDc {i : Nat} {y : Str} {py : Pos} {kx vx tg iter : Expr} {ifs : List Expr} {scope : Scope} {own : List (Str × Nat)} {pos spos : Pos} {wi : TI} {g : TG} {tt : TT} {tk tv : TE} (hc : X.calm = true) (hN : X.N.Nodup) (hy : X.N[i]? = some y) (hyl : X.env.scope.names.lookup y = some .local)
    (hsw : swapsWith (.DictComp kx vx [⟨tg, iter, ifs, 0⟩] scope pos) (some (.Name y py)) spos.line X.env = pure true) (hi : PI X tg iter wi) (ok : BlkOk X.N X.env.scope scope own)
    (hg : ∀ (s : Shared) (H : Hp) (C : Addr) (cl : List (Str × Addr)) (fp : List Addr), PG (X.blk s H scope (compEnvC scope cl C X.env) fp) tg g) (ht : ∀ (s : Shared) (H : Hp) (C : Addr) (cl : List (Str × Addr)) (fp : List Addr), PTs (X.blk s H scope (compEnvC scope cl C X.env) fp) ifs tt)
    (hk : ∀ (s : Shared) (H : Hp) (C : Addr) (cl : List (Str × Addr)) (fp : List Addr), PE (X.blk s H scope (compEnvC scope cl C X.env) fp) kx tk)
    (he : ∀ (s : Shared) (H : Hp) (C : Addr) (cl : List (Str × Addr)) (fp : List Addr), PE (X.blk s H scope (compEnvC scope cl C X.env) fp) vx tv) (hs : ∀ x, foldedSetIterable iter X.env x = pure x := by intro _; rfl) :
    PS X (.Assign [.Name y py] (.DictComp kx vx [⟨tg, iter, ifs, 0⟩] scope pos) spos) (tAsg (tDc wi g tt tk tv (own.map (·.2))) (gName i)) := by
  refine ⟨fun pins s σ H D I h => ?_⟩
  rw [exec_Assign_Name_used _ _ _ _ hsw]
  refine wpAny_bind (wpAny_standAt (wpAny_bind ?_))
  show wpAny _ X.A (do let _ ← comprehension (.DictComp kx vx [⟨tg, iter, ifs, 0⟩] scope pos) scope X.env (firstIterPos [⟨tg, iter, ifs, 0⟩] pos) newDict false (eval iter X.env) (some (assign (.Name y py) X.env))) _ _ s
  have h : tDc wi g tt tk tv (own.map (·.2)) σ H (fun x H1 => gName i x σ H1 D.nx) := h
  refine wpAny_bind (thn (dc_core (Qf := fun _ s' => SP X pins D .next s') hc hN I hi ok hg ht hk he hs h fun L C s' m H' I' q hn f => ?_) fun _ s' hq => wpAny_pure (wpAny_pure hq))
  show wpAny _ _ (assign (.Name y py) X.env (.ref L)) _ _ _
  refine wpAny_assign_Name (store_ok2 (v := V.ref L) I' hN hy (.inl hyl) rfl (fun s2 I2 ⟨a, sb, ha⟩ => ?_) (.inr hyl))
  obtain ⟨f0, f1, f2, f3, f4, f5⟩ := f
  have haC : C ≠ a := by
    rcases ha with z | z
    · rw [z]; exact f1
    · exact fun e => f4 y a z e.symm
  refine ⟨m, hn.sameBut sb haC, fun h3 sb3 => ?_⟩
  exact ⟨_, H', I2.turned (t' := s2.toks) (fun b o hb e => (sb3.2 b hb).trans e) f0 f1 f3 f4 f5, q⟩
theorem sw_trueD {kx vx : Expr} {gs : List Comprehension} {scope : Scope} {pos py : Pos} {y : Str} {l : Nat} {env : PySem.Env} (hk : env.scope.kind = .function) (hy : env.scope.names.lookup y = some .local) (hl : (py.line == pos.line) = true)
    (ha : (scope.names.any fun (n, k) => n == y && (k == .local || k == .cell)) = false) : swapsWith (.DictComp kx vx gs scope pos) (some (.Name y py)) l env = pure true := by
  have ky : env.kindOf y = some .local := hy
  have hb : env.blockKind = .function := by unfold PySem.Env.blockKind; rw [hk]; rfl
  unfold swapsWith
  simp only [hb, ky, ha, Expr.pos, hl]
  rfl
end
end ML
set_option Elab.async false
set_option linter.all false
set_option maxRecDepth 100000
set_option maxHeartbeats 2000000
/-! {e for x in a for y in b if t}: a set of ints by two clauses. -/
namespace ML
open PySem PySem.Spec PyProof.Rows L2
/-! ### the turns -/
section
variable {P : Program} {w : World} {A : Around} {R : Result → Shared → Prop} {s : Shared} {elt t0 i0 t1 i1 : Expr} {f0 f1 : List Expr} {sc : Scope} {pos : Pos} {it acc : Value} {env : PySem.Env}
abbrev two (elt t0 i0 t1 i1 : Expr) (f0 f1 : List Expr) (sc : Scope) (pos : Pos) : Expr := .SetComp elt [⟨t0, i0, f0, 0⟩, ⟨t1, i1, f1, 0⟩] sc pos
theorem turn_outer : compTurn (two elt t0 i0 t1 i1 f0 f1 sc pos) 0 it acc env = (do
      standAt i0.pos
      match ← pyNext it with
      | none => pure (.done .next)
      | some v =>
        letOwnedTupleGo t0 it v
        assign t0 env v
        let mut ok := true
        for c in f0 do
          if ok then ok ← isTrue c env (eval c env)
        if ok then
          let x ← eval i1 env
          standAt i1.pos
          let x ← foldedSetIterable i1 env x
          let _ ← runOwn (.compStart (two elt t0 i0 t1 i1 f0 f1 sc pos) 1 (← holding [x] (pyIter x)) acc env) env
        again (.compLoop (two elt t0 i0 t1 i1 f0 f1 sc pos) 0 it acc env)) := by rfl
theorem turn_inner : compTurn (two elt t0 i0 t1 i1 f0 f1 sc pos) 1 it acc env = (do
      standAt i1.pos
      match ← pyNext it with
      | none => pure (.done .next)
      | some v =>
        letOwnedTupleGo t1 it v
        assign t1 env v
        let mut ok := true
        for c in f1 do
          if ok then ok ← isTrue c env (eval c env)
        if ok then
          (do let v ← eval elt env; standAt elt.pos; let _ ← call (.builtin "set.add") [acc, v])
        again (.compLoop (two elt t0 i0 t1 i1 f0 f1 sc pos) 1 it acc env)) := by rfl
abbrev Tests (ifs : List Expr) (env : PySem.Env) : Sem Bool := forIn ifs true fun c r => if r = true then do let ok ← isTrue c env (eval c env); pure (ForInStep.yield ok) else pure (ForInStep.yield r)
abbrev Nb (P : Program) (w : World) (A : Around) (env : PySem.Env) (R : Result → Shared → Prop) : Value → Shared → Prop := notedBy (model P w) A env fun e s' => R (.error e) s'
theorem loop_outer (hs : ∀ x, foldedSetIterable i1 env x = pure x) (W : Nat → Shared → Prop)
    (turn : ∀ n s, W n s → wpAny (model P w) A (pyNext it) (fun r a1 => match r with
      | none => R (.ok .next) a1
      | some v => wpAny (model P w) A (letOwnedTupleGo t0 it v) (fun _ a2 => wpAny (model P w) A (assign t0 env v) (fun _ a3 => wpAny (model P w) A (Tests f0 env) (fun ok a4 =>
            if ok = true then wpAny (model P w) A (eval i1 env) (fun x a5 => wpAny (model P w) A (pyIter x) (fun it1 a6 =>
              codeAny (model P w) A (.compStart (two elt t0 i0 t1 i1 f0 f1 sc pos) 1 it1 acc env) (fun r s' => match r with
                | .ok _ => ∃ m, m < n ∧ W m s'
                | .error _ => False) a6) (Nb P w A env R) a5) (Nb P w A env R) a4
            else ∃ m, m < n ∧ W m a4) (Nb P w A env R) a3) (Nb P w A env R) a2) (Nb P w A env R) a1) (Nb P w A env R) s)
    (n : Nat) (h : W n s) : codeAny (model P w) A (.compLoop (two elt t0 i0 t1 i1 f0 f1 sc pos) 0 it acc env) R s := by
  refine codeAny_loop rfl W (fun n s hW => ?_) n h
  show wpAny _ A ((compTurn (two elt t0 i0 t1 i1 f0 f1 sc pos) 0 it acc env).onRaise (fun x => do noteFrame x env; theTreesLotGoes x)) _ _ s
  refine wpAny_noted ?_
  rw [turn_outer]
  have same : ∀ (e : Value) (z : Shared), Nb P w A env R e z → Nb P w A env R e z := fun _ _ z => z
  refine wpAny_bind (wpAny_standAt (wpAny_bind (wpAny_mono (turn n s hW) (fun r a1 q1 => ?_) same)))
  cases r with
  | none => exact wpAny_pure q1
  | some v =>
    refine wpAny_bind (wpAny_mono q1 (fun _ a2 q2 => wpAny_bind (wpAny_mono q2 (fun _ a3 q3 => wpAny_bind (wpAny_mono q3 (fun ok a4 q4 => ?_) same)) same)) same)
    cases ok with
    | false => exact wpAny_pure ⟨rfl, q4⟩
    | true =>
      refine wpAny_bind (wpAny_mono q4 (fun x a5 q5 => wpAny_bind (wpAny_standAt (wpAny_bind (wpAny_of_eq (hs x) (wpAny_bind (wpAny_holding (wpAny_mono q5 (fun it1 a6 q6 => wpAny_bind (wpAny_runOwn ?_)) same))))))) same)
      rw [Around.mark_none]
      refine codeAny_mono q6 fun r s' hr => ?_
      cases r with
      | ok f =>
        first
          | exact wpAny_pure ⟨rfl, hr⟩
          | exact wpAny_bind (wpAny_pure (wpAny_pure ⟨rfl, hr⟩))
      | error e => exact hr.elim
theorem loop_inner (W : Nat → Shared → Prop)
    (turn : ∀ n s, W n s → wpAny (model P w) A (pyNext it) (fun r a1 => match r with
      | none => R (.ok .next) a1
      | some v => wpAny (model P w) A (letOwnedTupleGo t1 it v) (fun _ a2 => wpAny (model P w) A (assign t1 env v) (fun _ a3 => wpAny (model P w) A (Tests f1 env) (fun ok a4 =>
            if ok = true then wpAny (model P w) A (eval elt env) (fun x a5 => wpAny (model P w) A (call (.builtin "set.add") [acc, x]) (fun _ a6 => ∃ m, m < n ∧ W m a6) (Nb P w A env R) a5) (Nb P w A env R) a4
            else ∃ m, m < n ∧ W m a4) (Nb P w A env R) a3) (Nb P w A env R) a2) (Nb P w A env R) a1) (Nb P w A env R) s)
    (n : Nat) (h : W n s) : codeAny (model P w) A (.compLoop (two elt t0 i0 t1 i1 f0 f1 sc pos) 1 it acc env) R s := by
  refine codeAny_loop rfl W (fun n s hW => ?_) n h
  show wpAny _ A ((compTurn (two elt t0 i0 t1 i1 f0 f1 sc pos) 1 it acc env).onRaise (fun x => do noteFrame x env; theTreesLotGoes x)) _ _ s
  refine wpAny_noted ?_
  rw [turn_inner]
  have same : ∀ (e : Value) (z : Shared), Nb P w A env R e z → Nb P w A env R e z := fun _ _ z => z
  refine wpAny_bind (wpAny_standAt (wpAny_bind (wpAny_mono (turn n s hW) (fun r a1 q1 => ?_) same)))
  cases r with
  | none => exact wpAny_pure q1
  | some v =>
    refine wpAny_bind (wpAny_mono q1 (fun _ a2 q2 => wpAny_bind (wpAny_mono q2 (fun _ a3 q3 => wpAny_bind (wpAny_mono q3 (fun ok a4 q4 => ?_) same)) same)) same)
    cases ok with
    | false => exact wpAny_pure ⟨rfl, q4⟩
    | true => exact wpAny_bind (wpAny_bind (wpAny_mono q4 (fun x a5 q5 => wpAny_bind (wpAny_standAt (wpAny_bind (wpAny_mono q5 (fun _ a6 q6 => wpAny_pure (wpAny_pure ⟨rfl, q6⟩)) same)))) same))
theorem start_inner (h0 : codeAny (model P w) A (.compLoop (two elt t0 i0 t1 i1 f0 f1 sc pos) 1 it acc env) R s)
    (h : wpAny (model P w) A (pyIter it) (fun it' s' => codeAny (model P w) A (.compLoop (two elt t0 i0 t1 i1 f0 f1 sc pos) 1 it' acc env) R s') (Nb P w A env R) s) :
    codeAny (model P w) A (.compStart (two elt t0 i0 t1 i1 f0 f1 sc pos) 1 it acc env) R s := by
  refine codeAny_of_tree ?_
  show wpAny _ _ ((compStart (two elt t0 i0 t1 i1 f0 f1 sc pos) 1 it acc env).onRaise (fun x => do noteFrame x env; standAt theWindowsPlace)) _ _ s
  refine wpAny_notedAt ?_
  unfold compStart
  show wpAny _ _ (ask >>= _) _ _ s
  refine wpAny_bind (wpAny_askSetting (wpAny_ite ?_))
  split
  · first
      | exact wpAny_bind (wpAny_pure (wpAny_pure (And.intro rfl h0)))
      | exact wpAny_pure (And.intro rfl h0)
  · refine wpAny_bind (wpAny_rule ?_)
    show wpAny _ _ (standAt i1.pos >>= _) _ _ s
    exact wpAny_bind (wpAny_standAt (wpAny_bind (wpAny_mono h (fun it' s' h' => wpAny_pure (And.intro rfl h')) fun _ _ x => x)))
end

/-! ### the reading -/
section
variable {X : Cx}
/-- one more member -/
def SAdd (w : World) (D : Addr) (y : V) (H : Hp) (Nx : Hp → Prop) : Prop := ∃ (k : Int) (S : Int → Bool) (n : Nat), y = .int k ∧ H D = some (SetO w D S n) ∧ n + 1 < scanBound ∧ Nx (upd H D (SetO w D (fun j => S j || decide (j = k)) (if S k = true then n else n + 1)))
def tSc2 (w : World) (wi : TI) (g : TG) (tt : TT) (wi1 : TI) (g1 : TG) (tt1 : TT) (te : TE) (vs vs1 : List Nat) : TE := fun σ H Q => wi σ H fun J H1 => ∀ D, H1 D = none → ∃ W : Nat → Nat → Hp → Prop, (∃ m, W 0 m (upd H1 D (SetO w D (fun _ => false) 0))) ∧ ∀ i m H, W i m H →
  (J.stop i H ∧ Q (.ref D) H) ∨ (J.go i H ∧ ∃ Nx : Hp → Prop, (∀ H', Nx H' → ∃ m', m' < m ∧ W (i + 1) m' H') ∧ ∀ x H', J.yld i H x H' → g x (wipe σ vs) H' fun σ2 H2 => wipe σ2 vs = wipe σ vs ∧ tt σ2 H2 fun b H3 =>
    if b = true then wi1 σ2 H3 fun J1 H4 => ∃ W1 : Nat → Nat → Hp → Prop, (∃ m, W1 0 m H4) ∧ ∀ j k H, W1 j k H →
      (J1.stop j H ∧ Nx H) ∨ (J1.go j H ∧ ∃ Nx1 : Hp → Prop, (∀ H', Nx1 H' → ∃ k', k' < k ∧ W1 (j + 1) k' H') ∧ ∀ x H', J1.yld j H x H' → g1 x (wipe σ2 vs1) H' fun σ3 H5 => wipe σ3 vs1 = wipe σ2 vs1 ∧ tt1 σ3 H5 fun b H6 =>
        if b = true then te σ3 H6 fun y H7 => SAdd w D y H7 Nx1 else Nx1 H6)
    else Nx H3)
theorem pe_sc2 {elt tg iter tg1 iter1 : Expr} {ifs ifs1 : List Expr} {scope : Scope} {own : List (Str × Nat)} {vs1 : List Nat} {pos : Pos} {wi wi1 : TI} {g g1 : TG} {tt tt1 : TT} {te : TE} (hc : X.calm = true) (hN : X.N.Nodup) (hi : PI X tg iter wi) (ok : BlkOk X.N X.env.scope scope own) (hv : ∀ i ∈ vs1, i ∈ own.map (·.2))
    (hg : Blk X scope fun Y => PG Y tg g) (ht : Blk X scope fun Y => PTs Y ifs tt) (hi1 : Blk X scope fun Y => PI Y tg1 iter1 wi1) (hg1 : Blk X scope fun Y => PG Y tg1 g1) (ht1 : Blk X scope fun Y => PTs Y ifs1 tt1) (he : Blk X scope fun Y => PE Y elt te)
    (hs : ∀ x, foldedSetIterable iter X.env x = pure x := by intro _; rfl) (hs1 : ∀ env x, foldedSetIterable iter1 env x = pure x := by intro _ _; rfl) :
    PE X (two elt tg iter tg1 iter1 ifs ifs1 scope pos) (tSc2 X.w wi g tt wi1 g1 tt1 te (own.map (·.2)) vs1) := by
  refine ⟨fun pins s σ H Q I h => ?_⟩
  rw [PpSet.eval_SetComp]
  have hfree : ∀ y ∈ scope.names, y.2 = .free → ∃ c, X.env.cells.lookup y.1 = some c := fun y hy e => (ok.free y hy e).elim (fun k => I.ok.has _ (.inl k)) fun k => I.ok.has _ (.inr k)
  refine wpAny_comprehension_free (use := none) rfl hs (closure_ok hfree) ok.kind (fun y hy e => by rw [ok.uniq y hy, e]) (thn (hi.run pins s σ H _ I h) fun xv s1 hx => thn hx fun itv s2 h2 => ?_)
  obtain ⟨it, fp, tn, J, H2, rfl, I2, T, st2, f2, q⟩ := h2
  refine PpSet.newSet_ok (newEnv_comp ?_)
  obtain ⟨W, ⟨m0, w0⟩, turn⟩ := q s2.heap.objs.size (I2.hok.fresh (Nat.le_refl _))
  -- the new set stands
  have laid : ∃ R, SetR X.w (s2.heap.push { cls := .type "set", dict := none, data := .set #[] 0 (.fresh 0 0 (!X.w.params.followText "set-order")) }) s2.heap.objs.size R 0 ∧ R = fun _ => false :=
    ⟨_, ⟨_, #[], 0, _, Heap.get?_push_size _ rfl, ⟨rfl, rfl, rfl⟩, rfl, (fun e he => by simp at he), (by simp), (fun k => by simp), (by decide), (by rfl), rfl, List.Pairwise.nil, (by
      show _ ∨ (!X.w.params.followText "set-order") = true
      cases X.w.params.followText "set-order"
      · exact .inr rfl
      · exact .inl rfl)⟩, rfl⟩
  obtain ⟨_, new, rfl⟩ := laid
  generalize hD : s2.heap.objs.size = D at w0 turn new ⊢
  generalize hs3 : ({ s2 with heap := s2.heap.push { cls := .type "set", dict := none, data := .set #[] 0 (.fresh 0 0 (!X.w.params.followText "set-order")) } } : Shared) = s3
  have h3 : s3.heap = s2.heap.push { cls := .type "set", dict := none, data := .set #[] 0 (.fresh 0 0 (!X.w.params.followText "set-order")) } := by rw [← hs3]
  have I3 : Inv X pins σ (upd H2 D (SetO X.w D (fun _ => false) 0)) s3 := by
    rw [← hs3]
    exact I2.laid (t' := s2.toks) (fun b o e => Heap.get?_push_of_some _ e) (Nat.le_of_eq hD) (setO_new new)
  have f3 : ∀ b ∈ fp, FpOk X pins (upd H2 D (SetO X.w D (fun _ => false) 0)) b ∧ b < s3.heap.objs.size := fun b hb => by
    obtain ⟨o, e, _⟩ := T.obj _ _ st2 b hb
    have hlt := Heap.lt_size e
    exact ⟨⟨by rw [upd_ne (by rw [← hD]; exact Nat.ne_of_lt hlt)]; exact (f2 b hb).1, (f2 b hb).2⟩, by rw [h3, Heap.size_push]; exact Nat.lt_succ_of_lt hlt⟩
  have st3 : tn 0 s3.heap := T.keep _ _ _ st2 fun b _ o e => by rw [h3]; exact Heap.get?_push_of_some _ e
  have I4 := block_start I3 ok hN f3
  generalize hcl : cellsFrom (s3.heap.objs.size + 1) scope.names (cloFrom X.env.cells scope.names []) = cl at I4
  have pg := hg s3 (upd H2 D (SetO X.w D (fun _ => false) 0)) s3.heap.objs.size cl fp
  have pt := ht s3 (upd H2 D (SetO X.w D (fun _ => false) 0)) s3.heap.objs.size cl fp
  have pe := he s3 (upd H2 D (SetO X.w D (fun _ => false) 0)) s3.heap.objs.size cl fp
  have pi1 := hi1 s3 (upd H2 D (SetO X.w D (fun _ => false) 0)) s3.heap.objs.size cl fp
  have pg1 := hg1 s3 (upd H2 D (SetO X.w D (fun _ => false) 0)) s3.heap.objs.size cl fp
  have pt1 := ht1 s3 (upd H2 D (SetO X.w D (fun _ => false) 0)) s3.heap.objs.size cl fp
  show codeAny _ _ (.compStart (two elt tg iter tg1 iter1 ifs ifs1 scope pos) 0 (.ref it) (.ref D) (compEnvC scope cl s3.heap.objs.size X.env)) (compPost (model X.prog X.w) X.A X.xe none (EP X pins σ Q) (.ref D) s3.heap.objs.size) { s3 with heap := pushCells (s3.heap.push { cls := .type "dict", data := .dict #[] }) scope.names }
  have nfp : ∀ b ∈ fp, (upd H2 D (SetO X.w D (fun _ => false) 0)) b = none := fun b hb => (f3 b hb).1.1
  generalize hce : compEnvC scope cl s3.heap.objs.size X.env = ce at I4 pg pt pe pi1 pg1 pt1 ⊢
  have cL : ce.locals = s3.heap.objs.size := by subst hce; rfl
  generalize hH3 : upd H2 D (SetO X.w D (fun _ => false) 0) = H3 at I3 I4 pg pt pe pi1 pg1 pt1 w0 nfp f3
  generalize hs4 : ({ s3 with heap := pushCells (s3.heap.push { cls := .type "dict", data := .dict #[] }) scope.names } : Shared) = s4 at I4 ⊢
  have st4 : tn 0 s4.heap := T.keep _ _ _ st3 fun b _ o e => by rw [← hs4]; exact pushCells_keeps _ _ _ _ (Heap.get?_push_of_some _ e)
  generalize hV : own.map (·.2) = vs at hv I4 turn
  have stat : ∀ {σ' : L2.St} {H' : Hp} {s' : Shared}, Inv (X.blk s3 H3 scope ce fp) [] σ' H' s' → (∀ b ∈ fp, H' b = none) → ∀ b ∈ fp, FpOk (X.blk s3 H3 scope ce fp) [] H' b := fun {σ' H' s'} I' hn b hb =>
    ⟨hn b hb, (I'.ok.exf b hb).1, I'.ok.exfs b hb, .inl hb, fun x c e => (I'.ok.exf b hb).2 x c e, fun p hp => absurd (show p ∈ ([] : List (Addr × Obj)) ++ [] from hp) (by simp)⟩
  have loop : codeAny (model X.prog X.w) X.A (.compLoop (two elt tg iter tg1 iter1 ifs ifs1 scope pos) 0 (.ref it) (.ref D) ce) (compPost (model X.prog X.w) X.A X.xe none (EP X pins σ Q) (.ref D) s3.heap.objs.size) s4 := by
    refine loop_outer (hs1 ce) (fun n s' => ∃ i H', Inv (X.blk s3 H3 scope ce fp) [] (wipe σ vs) H' s' ∧ tn i s'.heap ∧ (∀ b ∈ fp, H' b = none) ∧ W i n H') ?_ m0 ⟨0, H3, I4, st4, nfp, w0⟩
    rintro n s5 ⟨i, H5, I5, st5, n5, w5⟩
    rcases turn i n H5 w5 with ⟨stop, qq⟩ | ⟨go, Nx, hNx, step⟩
    · refine thnF (T.done (X.blk s3 H3 scope ce fp) rfl rfl rfl hc i [] s5 _ H5 (fun _ _ => False) I5 (stat I5 n5) st5 stop) fun r s6 ⟨hr, I6⟩ => ?_
      subst hr
      have I7 : Inv X pins σ H5 s6 := I3.call' (ch := fp) I6.os I6.base I6.hok I6.bare fun b hb => ⟨(f3 b hb).1.2.2.2.1, (f3 b hb).1.2.1, (f3 b hb).1.2.2.2.2.1, (f3 b hb).1.2.2.2.2.2⟩
      have nC : H5 s3.heap.objs.size = none := by
        rw [← cL]
        exact I6.free
      obtain ⟨m, hn, _⟩ := I6.loc
      have hn : s6.heap.Ns s3.heap.objs.size m := by
        rw [← cL]
        exact hn
      refine ⟨m, hn, fun h'' sb => ?_⟩
      obtain ⟨g0, g1, g2, g3, g4, g5⟩ := I3.fpOk (Nat.le_refl _) nC
      exact ⟨.ref D, H5, I7.turned (t' := s6.toks) (fun b o hb e => (sb.2 b hb).trans e) g0 g1 g3 g4 g5, rfl, qq⟩
    · refine thnF (T.item (X.blk s3 H3 scope ce fp) rfl rfl rfl hc i [] s5 _ H5 (fun _ _ => False) I5 (stat I5 n5) st5 go) fun r s6 ⟨u, hr, h6⟩ => ?_
      subst hr
      refine thnF h6 fun _ s7 ⟨x, H7, I7, r7, y7, st7, n7⟩ => ?_
      refine thnF (pg.run _ s7 _ H7 x u _ (I7.pinned (stat I7 n7) (T.obj _ _ st7)) r7 (step x H7 y7)) fun _ s8 ⟨σ8, H8, I8, hw8, q8⟩ => ?_
      refine thnF (pt.run _ s8 σ8 H8 _ I8 q8) fun b s9 ⟨H9, I9, q9⟩ => ?_
      -- the turn's end
      have fin : ∀ {σ9 : L2.St} {s' : Shared} {H' : Hp}, Inv (X.blk s3 H3 scope ce fp) ([] ++ pinsAt fp s7.heap) σ9 H' s' → (wipe σ vs).length = σ9.length → (∀ (j : Nat) v, (wipe σ vs)[j]? = some (some v) → σ9[j]? = some (some v)) → Nx H' →
          ∃ m, m < n ∧ ∃ i H', Inv (X.blk s3 H3 scope ce fp) [] (wipe σ vs) H' s' ∧ tn i s'.heap ∧ (∀ b ∈ fp, H' b = none) ∧ W i m H' := fun {σ9 s' H'} I' hl hk nx => by
        obtain ⟨m', hm, w'⟩ := hNx H' nx
        have pin' : ∀ b ∈ fp, ∀ o, s7.heap.get? b = some o → s'.heap.get? b = some o ∧ H' b = none := fun b hb o e =>
          have z := I'.pin (b, o) (List.mem_append_right _ (List.mem_append_right _ (mem_pinsAt hb e)))
          ⟨z.1, z.2.1⟩
        refine ⟨m', hm, i + 1, H', (I'.unpinned (pins := [])).weak hl hk, T.keep _ _ _ st7 fun b hb o e => (pin' b hb o e).1, fun b hb => ?_, w'⟩
        obtain ⟨o, e, _⟩ := T.obj _ _ st7 b hb
        exact (pin' b hb o e).2
      have hl8 : (wipe σ vs).length = σ8.length := by rw [← hw8, wipe_length]
      have hk8 : ∀ (j : Nat) v, (wipe σ vs)[j]? = some (some v) → σ8[j]? = some (some v) := fun j v e => (wipe_some (by rw [hw8]; exact e)).1
      have hk9 : ∀ (j : Nat) v, (wipe σ vs)[j]? = some (some v) → (wipe σ8 vs1)[j]? = some (some v) := fun j v e => by
        rw [← hw8] at e
        obtain ⟨e1, e2⟩ := wipe_some e
        rw [wipe_out fun z => e2 (hv j z)]
        exact e1
      cases b with
      | false =>
        rw [if_neg Bool.false_ne_true] at q9 ⊢
        exact fin I9 hl8 hk8 q9
      | true =>
        rw [if_pos rfl] at q9 ⊢
        refine thnF (pi1.run _ s9 σ8 H9 _ I9 q9) fun xv s10 hx => thnF hx fun itv s11 h11 => ?_
        obtain ⟨it1, fp1, tn1, J1, H11, rfl, I11, T1, st11, f11, W1, ⟨m1, w1⟩, turn1⟩ := h11
        have stat1 : ∀ {H' : Hp}, (∀ b ∈ fp1, H' b = none) → ∀ b ∈ fp1, FpOk (X.blk s3 H3 scope ce fp) ([] ++ pinsAt fp s7.heap) H' b := fun hn b hb => ⟨hn b hb, (f11 b hb).2⟩
        have loop1 : codeAny (model X.prog X.w) X.A (.compLoop (two elt tg iter tg1 iter1 ifs ifs1 scope pos) 1 (.ref it1) (.ref D) ce)
            (fun r s' => match r with
              | .ok _ => ∃ m, m < n ∧ ∃ i H', Inv (X.blk s3 H3 scope ce fp) [] (wipe σ vs) H' s' ∧ tn i s'.heap ∧ (∀ b ∈ fp, H' b = none) ∧ W i m H'
              | .error _ => False) s11 := by
          refine loop_inner (fun k s' => ∃ j H', Inv (X.blk s3 H3 scope ce fp) ([] ++ pinsAt fp s7.heap) (wipe σ8 vs1) H' s' ∧ tn1 j s'.heap ∧ (∀ b ∈ fp1, H' b = none) ∧ W1 j k H') ?_ m1 ⟨0, H11, I11.weak (wipe_length _ _) (fun j v e => (wipe_some e).1), st11, fun b hb => (f11 b hb).1, w1⟩
          rintro k s12 ⟨j, H12, I12, st12, n12, w12⟩
          rcases turn1 j k H12 w12 with ⟨stop1, nx1⟩ | ⟨go1, Nx1, hNx1, step1⟩
          · refine thnF (T1.done (X.blk s3 H3 scope ce fp) rfl rfl rfl hc j _ s12 (wipe σ8 vs1) H12 (fun _ _ => False) I12 (stat1 n12) st12 stop1) fun r s13 ⟨hr, I13⟩ => ?_
            subst hr
            exact fin I13 (hl8.trans (wipe_length σ8 vs1).symm) hk9 nx1
          · refine thnF (T1.item (X.blk s3 H3 scope ce fp) rfl rfl rfl hc j _ s12 (wipe σ8 vs1) H12 (fun _ _ => False) I12 (stat1 n12) st12 go1) fun r s13 ⟨u1, hr, h13⟩ => ?_
            subst hr
            refine thnF h13 fun _ s14 ⟨x1, H14, I14, r14, y14, st14, n14⟩ => ?_
            refine thnF (pg1.run _ s14 (wipe σ8 vs1) H14 x1 u1 _ (I14.pinned (stat1 n14) (T1.obj _ _ st14)) r14 (step1 x1 H14 y14)) fun _ s15 ⟨σ15, H15, I15, hw15, q15⟩ => ?_
            refine thnF (pt1.run _ s15 σ15 H15 _ I15 q15) fun b1 s16 ⟨H16, I16, q16⟩ => ?_
            have fin1 : ∀ {s' : Shared} {H' : Hp}, Inv (X.blk s3 H3 scope ce fp) (([] ++ pinsAt fp s7.heap) ++ pinsAt fp1 s14.heap) σ15 H' s' → Nx1 H' → ∃ m, m < k ∧ ∃ j H', Inv (X.blk s3 H3 scope ce fp) ([] ++ pinsAt fp s7.heap) (wipe σ8 vs1) H' s' ∧ tn1 j s'.heap ∧ (∀ b ∈ fp1, H' b = none) ∧ W1 j m H' := fun {s' H'} I' nx => by
              obtain ⟨m', hm, w'⟩ := hNx1 H' nx
              have pin' : ∀ b ∈ fp1, ∀ o, s14.heap.get? b = some o → s'.heap.get? b = some o ∧ H' b = none := fun b hb o e =>
                have z := I'.pin (b, o) (List.mem_append_right _ (List.mem_append_right _ (mem_pinsAt hb e)))
                ⟨z.1, z.2.1⟩
              refine ⟨m', hm, j + 1, H', I'.unpinned.weak (by rw [← hw15, wipe_length]) (fun j v e => (wipe_some (by rw [hw15]; exact e)).1), T1.keep _ _ _ st14 fun b hb o e => (pin' b hb o e).1, fun b hb => ?_, w'⟩
              obtain ⟨o, e, _⟩ := T1.obj _ _ st14 b hb
              exact (pin' b hb o e).2
            cases b1 with
            | false =>
              rw [if_neg Bool.false_ne_true] at q16 ⊢
              exact fin1 I16 q16
            | true =>
              rw [if_pos rfl] at q16 ⊢
              refine thnF (pe.run _ s16 σ15 H16 _ I16 q16) fun z s17 ⟨yv, H17, I17, r17, k0, S, n0, ey, hD17, room, nx⟩ => ?_
              subst ey
              refine thnF (mt_sadd (X := X.blk s3 H3 scope ce fp) _ s17 σ15 H17 (.ref D) [.int k0] (.ref D) [z] (fun _ H' => Nx1 H') I17 rfl (.cons r17 .nil) ⟨D, k0, S, n0, rfl, rfl, hD17, room, nx⟩) fun _ s18 ⟨_, H18, I18, _, q18⟩ => ?_
              exact fin1 I18 q18
        exact start_inner loop1 (T1.self X.A 0 _ _ _ st11 loop1)
  exact PpSet.codeAny_compStart_set loop (T.self X.A 0 _ _ _ st4 loop)
end
end ML
set_option Elab.async false
set_option linter.all false
set_option maxRecDepth 100000
set_option maxHeartbeats 2000000
/-! sorted({e for x in d.items() for y in b if t}) by data. -/
namespace ML
open PySem L2
/-! ### ints in order -/
def insI (k : Int) : List Int → List Int
  | [] => [k]
  | j :: l => if k < j then k :: j :: l else if k = j then j :: l else j :: insI k l
def sortI : List Int → List Int
  | [] => []
  | k :: l => insI k (sortI l)
theorem insI_mem {k i : Int} : ∀ {l : List Int}, i ∈ insI k l ↔ i = k ∨ i ∈ l
  | [] => by simp [insI]
  | j :: l => by
    unfold insI
    split
    · simp
    · split
      · rename_i h; subst h; simp
      · simp only [List.mem_cons, insI_mem (l := l)]
        constructor
        · rintro (h | h | h)
          · exact .inr (.inl h)
          · exact .inl h
          · exact .inr (.inr h)
        · rintro (h | h | h)
          · exact .inr (.inl h)
          · exact .inl h
          · exact .inr (.inr h)
theorem insI_up {k : Int} : ∀ {l : List Int}, l.Pairwise (· < ·) → (insI k l).Pairwise (· < ·)
  | [], _ => by simp [insI]
  | j :: l, h => by
    rw [List.pairwise_cons] at h
    unfold insI
    split
    · rename_i hk
      rw [List.pairwise_cons]
      refine ⟨fun a ha => ?_, by rw [List.pairwise_cons]; exact h⟩
      rcases List.mem_cons.mp ha with rfl | ha
      · exact hk
      · exact Int.lt_trans hk (h.1 a ha)
    · split
      · rw [List.pairwise_cons]; exact h
      · rename_i h1 h2
        rw [List.pairwise_cons]
        refine ⟨fun a ha => ?_, insI_up h.2⟩
        rcases insI_mem.mp ha with rfl | ha
        · omega
        · exact h.1 a ha
theorem sortI_mem {i : Int} : ∀ {l : List Int}, i ∈ sortI l ↔ i ∈ l
  | [] => Iff.rfl
  | k :: l => by
    show i ∈ insI k (sortI l) ↔ _
    rw [insI_mem, sortI_mem (l := l), List.mem_cons]
theorem sortI_up : ∀ {l : List Int}, (sortI l).Pairwise (· < ·)
  | [] => List.Pairwise.nil
  | k :: l => insI_up (sortI_up (l := l))
theorem up_eq : ∀ {l m : List Int}, l.Pairwise (· < ·) → m.Pairwise (· < ·) → (∀ i, i ∈ l ↔ i ∈ m) → l = m
  | [], [], _, _, _ => rfl
  | [], b :: m, _, _, h => by have := (h b).mpr (List.mem_cons_self ..); cases this
  | a :: l, [], _, _, h => by have := (h a).mp (List.mem_cons_self ..); cases this
  | a :: l, b :: m, h1, h2, h => by
    rw [List.pairwise_cons] at h1 h2
    have ea : a = b := by
      rcases List.mem_cons.mp ((h a).mp (List.mem_cons_self ..)) with e | e
      · exact e
      · rcases List.mem_cons.mp ((h b).mpr (List.mem_cons_self ..)) with e2 | e2
        · exact e2.symm
        · have := h1.1 b e2; have := h2.1 a e; omega
    subst ea
    rw [up_eq h1.2 h2.2 fun i => ?_]
    constructor
    · intro hi
      rcases List.mem_cons.mp ((h i).mp (List.mem_cons_of_mem _ hi)) with e | e
      · subst e; have := h1.1 i hi; omega
      · exact e
    · intro hi
      rcases List.mem_cons.mp ((h i).mpr (List.mem_cons_of_mem _ hi)) with e | e
      · subst e; have := h2.1 i hi; omega
      · exact e
def addI (acc : List Int) (k : Int) : List Int := if k ∈ acc then acc else acc ++ [k]
/-! ### the model -/
def loopS1 (g1 : Tg) (mt1 : M Bool) (me : M D) (vs1 : List Nat) : List D → List Int → Stt → Option (List Int × Stt)
  | [], acc, s => some (acc, s)
  | d :: ds, acc, s => match g1 d s.env with
    | none => none
    | some e => match mt1 { s with env := e } with
      | none => none
      | some (true, s1) => (match me s1 with
        | none => none
        | some (y, s2) => match y.int? with
          | none => none
          | some k => if acc.length < 1000 then loopS1 g1 mt1 me vs1 ds (addI acc k) { s2 with env := wipeM s2.env vs1 } else none)
      | some (false, s1) => loopS1 g1 mt1 me vs1 ds acc { s1 with env := wipeM s1.env vs1 }
def loopS (g : Tg) (mt : M Bool) (mi1 : M (List D)) (g1 : Tg) (mt1 : M Bool) (me : M D) (vs vs1 : List Nat) : List D → List Int → Stt → Option (List Int × Stt)
  | [], acc, s => some (acc, s)
  | d :: ds, acc, s => match g d s.env with
    | none => none
    | some e => match mt { s with env := e } with
      | none => none
      | some (true, s1) => (match mi1 s1 with
        | none => none
        | some (ds1, s2) => match loopS1 g1 mt1 me vs1 ds1 acc { s2 with env := wipeM s2.env vs1 } with
          | none => none
          | some (acc', s3) => loopS g mt mi1 g1 mt1 me vs vs1 ds acc' { s3 with env := wipeM s3.env vs })
      | some (false, s1) => loopS g mt mi1 g1 mt1 me vs vs1 ds acc { s1 with env := wipeM s1.env vs }
def mSortSc2 (i : Nat) (g : Tg) (mt : M Bool) (mi1 : M (List D)) (g1 : Tg) (mt1 : M Bool) (me : M D) (vs vs1 : List Nat) : M OO := bindM (mVar i) fun d => match d with
  | .dic kvs => compM vs fun s => (loopS g mt mi1 g1 mt1 me vs vs1 (pairsD kvs) [] s).bind fun p => if p.1.length < 64 then some (.lst ((sortI p.1).map D.int), p.2) else none
  | _ => noM
theorem loopS_clean {g : Tg} {mt : M Bool} {mi1 : M (List D)} {g1 : Tg} {mt1 : M Bool} {me : M D} {vs vs1 : List Nat} : ∀ {ds : List D} {acc acc' : List Int} {s s' : Stt}, loopS g mt mi1 g1 mt1 me vs vs1 ds acc s = some (acc', s') → (∀ j ∈ vs, ∀ o, s.env[j]? ≠ some (.own o)) → ∀ j ∈ vs, ∀ o, s'.env[j]? ≠ some (.own o)
  | [], acc, acc', s, s', e, h => by cases e; exact h
  | d :: ds, acc, acc', s, s', e, h => by
    unfold loopS at e
    split at e
    · cases e
    · split at e
      · cases e
      · split at e
        · cases e
        · split at e
          · cases e
          · exact loopS_clean e wiped_no
      · exact loopS_clean e wiped_no
section
variable {X : Cx} {K : KW} {R : Sto} {σ : L2.St} {N N' N1 : Kn} {H H' : Hp} {O O' : Sto} {s s' s1 : Stt} {d : D} {Q : VK} {ta tb te tk : TE} {ma mb mc me mk : M D} {c c1 : TT} {mt mt1 : M Bool} {mi1 : M (List D)} {wi wi1 : TI} {g g1 : TG} {mg mg1 : Tg} {is is1 : List Nat}
theorem set_add {L : Addr} {acc : List Int} {k : Int} (x : SR K (dset R L (.set acc)) σ H N O s) (hz : acc.length < 1000) {Nx : Hp → Prop} (h : ∀ H', SR K (dset R L (.set (addI acc k))) σ H' N (dset O L (.set (addI acc k))) s → Nx H') : SAdd K.w L (.int k) H Nx := by
  have hO : O L = some (.set acc) := x.rest L _ dset_same
  obtain ⟨S, hx, hn, hs⟩ := (x.good.own L _ hO).2
  refine ⟨k, S, acc.length, rfl, hx, Nat.lt_of_le_of_lt hz (by decide), h _ (x.mutR ?_)⟩
  unfold addI
  by_cases hk : k ∈ acc
  · rw [if_pos hk]
    refine ⟨_, by rw [upd_same, if_pos ((hs k).mpr hk)], hn, fun i => ?_⟩
    rw [Bool.or_eq_true, decide_eq_true_eq, hs i]
    exact ⟨fun z => z.elim id fun z => z ▸ hk, .inl⟩
  · rw [if_neg hk]
    refine ⟨_, by rw [upd_same, if_neg (fun z => hk ((hs k).mp z)), List.length_append]; rfl, ?_, fun i => ?_⟩
    · rw [List.nodup_append]
      refine ⟨hn, by simp, fun a ha b hb => ?_⟩
      have : b = k := by simpa using hb
      subst this
      exact fun z => hk (z ▸ ha)
    · rw [Bool.or_eq_true, decide_eq_true_eq, hs i, List.mem_append, List.mem_singleton]
theorem wipe_sub {σ : L2.St} {vs vs1 : List Nat} (h : ∀ j ∈ vs1, j ∈ vs) : L2.wipe (L2.wipe σ vs1) vs = L2.wipe σ vs := wipe_same (fun j hj => wipe_out fun z => hj (h j z)) (wipe_length _ _)
/-- the inner loop -/
theorem run_inner {J : It} {L : Addr} {vs1 : List Nat} {ds : List D} {acc acc' : List Int} {Nx : Hp → Prop} (hg : EvG K g1 mg1 is1) (hv : ∀ j ∈ is1, j ∈ vs1) (ht : EvT K c1 mt1) (he : EvE K te me)
    (x : SR K (dset R L (.set acc)) σ H N O s) (it : ItD K J N ds) (e : loopS1 mg1 mt1 me vs1 ds acc { s with env := wipeM s.env vs1 } = some (acc', s'))
    (go : ∀ H' N' O', Le N N' → SR K (dset R L (.set acc')) (L2.wipe σ vs1) H' N' O' s' → Nx H') :
    ∃ W1 : Nat → Nat → Hp → Prop, (∃ m, W1 0 m H) ∧ ∀ j k H, W1 j k H →
      (J.stop j H ∧ Nx H) ∨ (J.go j H ∧ ∃ Nx1 : Hp → Prop, (∀ H', Nx1 H' → ∃ k', k' < k ∧ W1 (j + 1) k' H') ∧ ∀ x H', J.yld j H x H' → g1 x (wipe σ vs1) H' fun σ3 H5 => wipe σ3 vs1 = wipe σ vs1 ∧ c1 σ3 H5 fun b H6 =>
        if b = true then te σ3 H6 fun y H7 => SAdd K.w L y H7 Nx1 else Nx1 H6) := by
  refine ⟨fun i k H' => k = ds.length - i ∧ i ≤ ds.length ∧ ∃ N' O' a si, Le N N' ∧ SR K (dset R L (.set a)) (L2.wipe σ vs1) H' N' O' si ∧ loopS1 mg1 mt1 me vs1 (ds.drop i) a si = some (acc', s'), ⟨ds.length, rfl, Nat.zero_le _, N, O, acc, _, Le.refl N, x.wipe vs1, e⟩, ?_⟩
  rintro i k H2 ⟨rfl, hle, N2, O2, a, si, l2, xi, ei⟩
  obtain ⟨hgo, hstop, hyld⟩ := it N2 H2 l2 xi.good.ex
  by_cases hlt : i < ds.length
  · have ed : ds.drop i = ds[i] :: ds.drop (i + 1) := List.drop_eq_getElem_cons hlt
    rw [ed] at ei
    unfold loopS1 at ei
    cases e4 : mg1 ds[i] si.env with
    | none => rw [e4] at ei; cases ei
    | some env' =>
      rw [e4] at ei
      simp only at ei
      cases e5 : mt1 { si with env := env' } with
      | none => rw [e5] at ei; cases ei
      | some p =>
        obtain ⟨b, s4⟩ := p
        rw [e5] at ei
        refine .inr ⟨hgo i hlt, fun H' => ∃ N' O' a si, Le N N' ∧ SR K (dset R L (.set a)) (L2.wipe σ vs1) H' N' O' si ∧ loopS1 mg1 mt1 me vs1 (ds.drop (i + 1)) a si = some (acc', s'), fun H' ⟨N', O', a, b, q1, q2, q3⟩ => ⟨ds.length - (i + 1), by omega, rfl, hlt, N', O', a, b, q1, q2, q3⟩, fun v H' y => ?_⟩
        obtain ⟨d, hd, run⟩ := hyld i v H' hlt y
        obtain ⟨N3, l3, x4, r4⟩ := run _ _ O2 si xi
        rw [List.getElem?_eq_getElem hlt] at hd
        cases hd
        refine hg ds[i] si env' e4 v _ _ H' N3 O2 x4 r4 _ fun σ5 x5 a5 ln5 => ?_
        have hwp : L2.wipe σ5 vs1 = L2.wipe σ vs1 := wipe_wipe (fun j hj => a5 j (fun z => hj (hv j z))) (ln5.trans (wipe_length _ _))
        refine ⟨hwp, ht _ b s4 e5 _ σ5 H' N3 O2 x5 _ fun H5 N5 O5 l5 x6 => ?_⟩
        cases b with
        | true =>
          rw [if_pos rfl]
          simp only at ei
          cases e6 : me s4 with
          | none => rw [e6] at ei; cases ei
          | some p =>
            obtain ⟨y6, s6⟩ := p
            rw [e6] at ei
            simp only at ei
            cases e7 : y6.int? with
            | none => rw [e7] at ei; cases ei
            | some k7 =>
              rw [e7] at ei
              simp only at ei
              split at ei
              · rename_i hz
                refine he s4 y6 s6 e6 _ σ5 H5 N5 O5 x6 _ fun w' H6 N6 O6 l6 x7 r7 => ?_
                rw [D.int?_eq e7] at r7
                cases r7
                refine set_add x7 hz fun H7 x8 => ?_
                have x9 := x8.wipe vs1
                rw [hwp] at x9
                exact ⟨N6, _, _, _, ((l2.trans l3).trans l5).trans l6, x9, ei⟩
              · cases ei
        | false =>
          rw [if_neg Bool.false_ne_true]
          have x9 := x6.wipe vs1
          rw [hwp] at x9
          exact ⟨N5, _, _, _, (l2.trans l3).trans l5, x9, ei⟩
  · have e0 : i = ds.length := by omega
    subst e0
    rw [List.drop_length] at ei
    cases ei
    exact .inl ⟨hstop, go H2 N2 O2 l2 xi⟩
theorem run_outer {J : It} {L : Addr} {vs vs1 : List Nat} {ds : List D} {acc' : List Int} {Qd : Hp → Prop} (hg : EvG K g mg is) (hv : ∀ j ∈ is, j ∈ vs) (ht : EvT K c mt) (hi1 : EvI K wi1 mi1) (hg1 : EvG K g1 mg1 is1) (hv1 : ∀ j ∈ is1, j ∈ vs1) (hvv : ∀ j ∈ vs1, j ∈ vs) (ht1 : EvT K c1 mt1) (he : EvE K te me)
    (x : SR K (dset R L (.set [])) (L2.wipe σ vs) H N O s) (it : ItD K J N ds) (e : loopS mg mt mi1 mg1 mt1 me vs vs1 ds [] s = some (acc', s'))
    (go : ∀ H' N' O', Le N N' → SR K (dset R L (.set acc')) (L2.wipe σ vs) H' N' O' s' → Qd H') :
    ∃ W : Nat → Nat → Hp → Prop, (∃ m, W 0 m H) ∧ ∀ i m H, W i m H →
      (J.stop i H ∧ Qd H) ∨ (J.go i H ∧ ∃ Nx : Hp → Prop, (∀ H', Nx H' → ∃ m', m' < m ∧ W (i + 1) m' H') ∧ ∀ x H', J.yld i H x H' → g x (wipe σ vs) H' fun σ2 H2 => wipe σ2 vs = wipe σ vs ∧ c σ2 H2 fun b H3 =>
        if b = true then wi1 σ2 H3 fun J1 H4 => ∃ W1 : Nat → Nat → Hp → Prop, (∃ m, W1 0 m H4) ∧ ∀ j k H, W1 j k H →
          (J1.stop j H ∧ Nx H) ∨ (J1.go j H ∧ ∃ Nx1 : Hp → Prop, (∀ H', Nx1 H' → ∃ k', k' < k ∧ W1 (j + 1) k' H') ∧ ∀ x H', J1.yld j H x H' → g1 x (wipe σ2 vs1) H' fun σ3 H5 => wipe σ3 vs1 = wipe σ2 vs1 ∧ c1 σ3 H5 fun b H6 =>
            if b = true then te σ3 H6 fun y H7 => SAdd K.w L y H7 Nx1 else Nx1 H6)
        else Nx H3) := by
  refine ⟨fun i k H' => k = ds.length - i ∧ i ≤ ds.length ∧ ∃ N' O' a si, Le N N' ∧ SR K (dset R L (.set a)) (L2.wipe σ vs) H' N' O' si ∧ loopS mg mt mi1 mg1 mt1 me vs vs1 (ds.drop i) a si = some (acc', s'), ⟨ds.length, rfl, Nat.zero_le _, N, O, [], _, Le.refl N, x, e⟩, ?_⟩
  rintro i k H2 ⟨rfl, hle, N2, O2, a, si, l2, xi, ei⟩
  obtain ⟨hgo, hstop, hyld⟩ := it N2 H2 l2 xi.good.ex
  by_cases hlt : i < ds.length
  · have ed : ds.drop i = ds[i] :: ds.drop (i + 1) := List.drop_eq_getElem_cons hlt
    rw [ed] at ei
    unfold loopS at ei
    cases e4 : mg ds[i] si.env with
    | none => rw [e4] at ei; cases ei
    | some env' =>
      rw [e4] at ei
      simp only at ei
      cases e5 : mt { si with env := env' } with
      | none => rw [e5] at ei; cases ei
      | some p =>
        obtain ⟨b, s4⟩ := p
        rw [e5] at ei
        refine .inr ⟨hgo i hlt, fun H' => ∃ N' O' a si, Le N N' ∧ SR K (dset R L (.set a)) (L2.wipe σ vs) H' N' O' si ∧ loopS mg mt mi1 mg1 mt1 me vs vs1 (ds.drop (i + 1)) a si = some (acc', s'), fun H' ⟨N', O', a, b, q1, q2, q3⟩ => ⟨ds.length - (i + 1), by omega, rfl, hlt, N', O', a, b, q1, q2, q3⟩, fun v H' y => ?_⟩
        obtain ⟨d, hd, run⟩ := hyld i v H' hlt y
        obtain ⟨N3, l3, x4, r4⟩ := run _ _ O2 si xi
        rw [List.getElem?_eq_getElem hlt] at hd
        cases hd
        refine hg ds[i] si env' e4 v _ _ H' N3 O2 x4 r4 _ fun σ5 x5 a5 ln5 => ?_
        have hwp : L2.wipe σ5 vs = L2.wipe σ vs := wipe_wipe (fun j hj => a5 j (fun z => hj (hv j z))) (ln5.trans (wipe_length _ _))
        refine ⟨hwp, ht _ b s4 e5 _ σ5 H' N3 O2 x5 _ fun H5 N5 O5 l5 x6 => ?_⟩
        cases b with
        | true =>
          rw [if_pos rfl]
          simp only at ei
          cases e6 : mi1 s4 with
          | none => rw [e6] at ei; cases ei
          | some p =>
            obtain ⟨ds1, s6⟩ := p
            rw [e6] at ei
            simp only at ei
            cases e7 : loopS1 mg1 mt1 me vs1 ds1 a { s6 with env := wipeM s6.env vs1 } with
            | none => rw [e7] at ei; cases ei
            | some p =>
              obtain ⟨a7, s7⟩ := p
              rw [e7] at ei
              simp only at ei
              refine hi1 s4 ds1 s6 e6 _ σ5 H5 N5 O5 x6 _ fun J1 H6 N6 O6 l6 x7 it1 => ?_
              refine run_inner hg1 hv1 ht1 he x7 it1 e7 fun H7 N7 O7 l7 x8 => ?_
              have x9 := x8.wipe vs
              rw [wipe_sub hvv, hwp] at x9
              exact ⟨N7, _, _, _, (((l2.trans l3).trans l5).trans l6).trans l7, x9, ei⟩
        | false =>
          rw [if_neg Bool.false_ne_true]
          have x9 := x6.wipe vs
          rw [hwp] at x9
          exact ⟨N5, _, _, _, (l2.trans l3).trans l5, x9, ei⟩
  · have e0 : i = ds.length := by omega
    subst e0
    rw [List.drop_length] at ei
    cases ei
    exact .inl ⟨hstop, go H2 N2 O2 l2 xi⟩
theorem eo_sortSc2 {i : Nat} {vs vs1 : List Nat} (hg : EvG K g mg is) (hv : ∀ j ∈ is, j ∈ vs) (ht : EvT K c mt) (hi1 : EvI K wi1 mi1) (hg1 : EvG K g1 mg1 is1) (hv1 : ∀ j ∈ is1, j ∈ vs1) (hvv : ∀ j ∈ vs1, j ∈ vs) (ht1 : EvT K c1 mt1) (he : EvE K te me) :
    EvO K (tCB (rSortedSet K.w) (tCons (tLkE (tSc2 K.w (iItems (tVar i)) g c wi1 g1 c1 te vs vs1)) tNil)) (mSortSc2 i mg mt mi1 mg1 mt1 me vs vs1) := fun s o s' e R σ H N O x Q q => by
  obtain ⟨d, s1, e1, e⟩ := bindM_some e
  cases d with
  | dic kvs =>
    simp only at e
    unfold compM at e
    split at e
    · rename_i hfr
      split at e
      · rename_i o2 s2 e2
        cases e
        cases e3 : loopS mg mt mi1 mg1 mt1 me vs vs1 (pairsD kvs) [] { s1 with env := wipeM s1.env vs } with
        | none => simp only [e3] at e2; cases e2
        | some p =>
          obtain ⟨acc, s3⟩ := p
          simp only [e3, Option.bind_some] at e2
          split at e2
          · rename_i h64
            cases e2
            have clean := loopS_clean e3 (fun j hj o => wiped_no j hj o)
            obtain ⟨N1, O1, a, kes, l1, x1, ha, hr, ok⟩ := slot_dic e1 x
            -- what is left when the set stands
            have last : ∀ {L : Addr} {H' : Hp} {N' : Kn} {O' : Sto}, Le N1 N' → R L = none → SR K (dset R L (.set acc)) (L2.wipe σ vs) H' N' O' s2 → rSortedSet K.w [.ref L] H' Q := fun {L H' N' O'} l hR x' => by
              obtain ⟨xb, lb⟩ := x'.back hR
              have xr := x1.restore l hfr xb clean
              obtain ⟨S, hx, hn, hs⟩ := lb.2.2.2
              refine ⟨L, S, acc.length, rfl, hx, h64, fun ns p hp hm hl hnew => ?_⟩
              have en : ns = sortI acc := up_eq hp sortI_up fun k => by rw [hm k, hs k, sortI_mem]
              subst en
              obtain ⟨xn, ln⟩ := lone_new xr (o := .lst ((sortI acc).map V.int)) (oo := .lst ((sortI acc).map D.int)) hnew ⟨_, upd_same, Reps.ints⟩
              exact q p _ N' _ (l1.trans l) xn ln
            rcases hr with hr | ⟨o, hr⟩
            · refine .inl ⟨a, .dK kes, x1.good.ex _ _ hr, trivial, fun od => ?_⟩
              have x2 := x1.lock (o := od) hr
              refine ⟨_, ha, a, od, kes, rfl, upd_same, fun L hL => ?_⟩
              obtain ⟨x3, lo⟩ := lone_new x2 (o := SetO K.w L (fun _ => false) 0) (oo := .set []) hL ⟨_, upd_same, List.nodup_nil, fun k => by simp⟩
              have hRL : R L = none := by
                cases z : R L with
                | none => rfl
                | some u => have := x2.rest L u z; rw [(x2.good.free hL).2] at this; cases this
              refine run_outer hg hv ht hi1 hg1 hv1 hvv ht1 he ((x3.lend lo).wipe vs) (ItD_items (kes := kes) upd_same ⟨ok.1, fun i e p h1 h2 => (ok.2 i e p h1 h2).lock hr⟩) e3 fun H' N' O' l x' => ?_
              obtain ⟨h1, l2⟩ := le_unlock hr l
              exact ⟨x'.good.ex _ _ h1, last l2 hRL (x'.unlock h1)⟩
            · refine .inr ⟨_, ha, a, o, kes, rfl, x1.good.ex _ _ hr, fun L hL => ?_⟩
              obtain ⟨x3, lo⟩ := lone_new x1 (o := SetO K.w L (fun _ => false) 0) (oo := .set []) hL ⟨_, upd_same, List.nodup_nil, fun k => by simp⟩
              have hRL : R L = none := by
                cases z : R L with
                | none => rfl
                | some u => have := x1.rest L u z; rw [(x1.good.free hL).2] at this; cases this
              exact run_outer hg hv ht hi1 hg1 hv1 hvv ht1 he ((x3.lend lo).wipe vs) (ItD_items hr ok) e3 fun H' N' O' l x' => last l hRL x'
          · cases e2
      · cases e
    · cases e
  | _ => cases e
end
end ML
set_option Elab.async false
set_option linter.all false
set_option maxRecDepth 100000
set_option maxHeartbeats 2000000
/-! Layer M: dicts whose keys are nested tuples: made by a comprehension, asked by in. -/
namespace ML
open PySem L2
section
variable {X : Cx} {K : KW} {R : Sto} {σ : L2.St} {N N' N1 : Kn} {H H' : Hp} {O O' : Sto} {s s' s1 : Stt} {d : D} {Q : VK} {ta tb te tk : TE} {ma mb mc me mk : M D} {c : TT} {mt : M Bool} {mi : M (List D)} {wi : TI} {g : TG} {mg : Tg} {is : List Nat}
theorem nk_of {h : Hp} (hs : Same N.h h) {v : V} {d : D} (r : Rep K N v d) : ∀ {k : NestedKey}, d.nk = some k → NkV K h k v := by
  have lists : ∀ (ds : List D) (xs : List V) (ks : List NestedKey), xs.length = ds.length → (∀ (i : Nat) (x : V) (d : D), xs[i]? = some x → ds[i]? = some d → ∀ {k : NestedKey}, d.nk = some k → NkV K h k x) → nks ds = some ks → NkAll K h ks xs := by
    intro ds
    induction ds with
    | nil =>
      intro xs ks hl _ e
      have := List.eq_nil_of_length_eq_zero hl
      subst this
      simp [nks] at e
      subst e
      exact .nil
    | cons d ds ih =>
      intro xs ks hl hi e
      cases xs with
      | nil => simp at hl
      | cons x xs =>
        unfold nks at e
        cases e1 : d.nk with
        | none => rw [e1] at e; cases e
        | some p =>
          cases e2 : nks ds with
          | none => rw [e1, e2] at e; cases e
          | some qs =>
            rw [e1, e2] at e
            cases e
            exact .cons (hi 0 x d rfl rfl e1) (ih xs qs (by simpa using hl) (fun i y d h1 h2 => hi (i + 1) y d (by simpa using h1) (by simpa using h2)) e2)
  induction r with
  | non => intro k e; simp [D.nk] at e; subst e; exact .none
  | bl b => intro k e; simp only [D.nk, Option.some.injEq] at e; subst e; exact .bool b
  | int i => intro k e; simp [D.nk] at e; subst e; exact .int i
  | str i => intro k e; simp [D.nk] at e; subst e; exact .text i
  | ty n => intro k e; simp [D.nk] at e
  | obj a => intro k e; simp [D.nk] at e
  | lst _ _ _ => intro k e; simp [D.nk] at e
  | dic _ _ _ => intro k e; simp [D.nk] at e
  | set _ _ _ => intro k e; simp [D.nk] at e
  | ins _ _ _ => intro k e; simp [D.nk] at e
  | loc _ => intro k e; simp [D.nk] at e
  | keys _ _ _ _ _ => intro k e; simp [D.nk] at e
  | @tup a xs ds hq hl _ ih =>
    intro k e
    simp only [D.nk] at e
    cases e2 : nks ds with
    | none => rw [e2] at e; cases e
    | some ks =>
      rw [e2] at e
      cases e
      exact .tup (same_t hs hq) (lists ds xs ks hl (fun i x d h1 h2 _ e => ih i x d h1 h2 e) e2)
/-- the keys as they stand, and as data -/
theorem keys_eq : ∀ {xs : KXs} {ks : List D}, xs.length = ks.length → (∀ (i : Nat) (x : NestedKey × Addr × Value) (d : D), xs[i]? = some x → ks[i]? = some d → d.nk = some x.1 ∧ x.1.depth ≤ 8) → nks ks = some (xs.map (·.1))
  | [], [], _, _ => rfl
  | [], _ :: _, h, _ => by simp at h
  | _ :: _, [], h, _ => by simp at h
  | x :: xs, d :: ks, h, hn => by
    unfold nks
    rw [(hn 0 x d rfl rfl).1, keys_eq (by simpa using h) fun i y e h1 h2 => hn (i + 1) y e (by simpa using h1) (by simpa using h2)]
    rfl
theorem keys_v {xs : KXs} {ks : List D} (hl : xs.length = ks.length) (hn : ∀ (i : Nat) (x : NestedKey × Addr × Value) (d : D), xs[i]? = some x → ks[i]? = some d → d.nk = some x.1 ∧ x.1.depth ≤ 8) (hi : ∀ (i : Nat) (x : NestedKey × Addr × Value) (d : D), xs[i]? = some x → ks[i]? = some d → Rep K N (.ref x.2.1) d) (sm : Same N.h H) : KeysV K H xs := fun z hz => by
  obtain ⟨i, hi'⟩ := List.mem_iff_getElem?.mp hz
  have hlt : i < ks.length := by rw [← hl]; exact (List.getElem?_eq_some_iff.mp hi').1
  have h2 : ks[i]? = some ks[i] := List.getElem?_eq_getElem hlt
  obtain ⟨q1, q2⟩ := hn i z _ hi' h2
  exact ⟨nk_of sm (hi i z _ hi' h2) q1, q2⟩
/-! ### in -/
def gInV (a b : D) (ws : List OO) : Option Bool := match b with
  | .keys ks => match a with
    | .tup ds => (D.nk (.tup ds)).bind fun k => if k.depth ≤ 8 then (nks ks).map fun l => decide (k ∈ l) else none
    | _ => none
  | b => gInB a b ws
def mInV (ma mb : M D) : M D := mOp (fun a b ws => (gInV a b ws).map .bl) ma mb
def mNotInV (ma mb : M D) : M D := mOp (fun a b ws => (gInV a b ws).map fun c => .bl (!c)) ma mb
abbrev tInV (w : World) (K : PySem.W.Frag) (ta tb : TE) : TE := tOr2 (tInU K ta tb) (tOp (rInN w K false) ta tb)
abbrev tNotInV (w : World) (K : PySem.W.Frag) (ta tb : TE) : TE := tOr2 (tNotInU K ta tb) (tOp (rInN w K true) ta tb)
theorem inN_ok {v w' : V} {a : D} {ks : List D} {b : Bool} (x : SR K R σ H N O s) (ra : Rep K N v a) (rb : Rep K N w' (.keys ks)) (e : gInV a (.keys ks) s.ws = some b) (neg : Bool) (q : Q (.bl (if neg then !b else b)) H) : rInN K.w K neg v w' H Q := by
  unfold gInV at e
  simp only at e
  cases a with
  | tup ds =>
    simp only at e
    cases e1 : D.nk (.tup ds) with
    | none => rw [e1] at e; cases e
    | some k =>
      rw [e1] at e
      simp only [Option.bind_some] at e
      split at e
      · rename_i h8
        cases rb with
        | keys h ko hl hn hi =>
          rw [keys_eq hl hn] at e
          cases e
          obtain ⟨p, ys, rfl, _, _⟩ := ra.tup_
          exact ⟨p, _, _, _, k, rfl, rfl, x.good.ex _ _ h, ko, keys_v hl hn hi x.good.ex, nk_of x.good.ex ra e1, h8, q⟩
      · cases e
  | _ => cases e
theorem ee_inV (ha : EvE K ta ma) (hb : EvE K tb mb) : EvE K (tInV K.w K ta tb) (mInV ma mb) := fun s d s' e R σ H N O x Q q => by
  have e0 := e
  obtain ⟨a, s1, e1, e⟩ := bindM_some e
  obtain ⟨b, s2, e2, e⟩ := bindM_some e
  obtain ⟨e3, e4⟩ := askM_some e
  simp only at e3 e4
  subst e4
  by_cases hk : ∃ ks, b = .keys ks
  · obtain ⟨ks, rfl⟩ := hk
    right
    refine ha s a s1 e1 R σ H N O x _ fun v H1 N1 O1 l1 x1 r1 => ?_
    refine hb s1 _ _ e2 R σ H1 N1 O1 x1 _ fun w H2 N2 O2 l2 x2 r2 => ?_
    cases hg : gInV a (.keys ks) s'.ws with
    | none => rw [hg] at e3; cases e3
    | some c =>
      rw [hg] at e3
      cases e3
      exact inN_ok x2 (r1.mono l2) r2 hg false ((q.le (l1.trans l2)).here x2 (.bl _))
  · left
    refine ee_in ha hb s d s' ?_ R σ H N O x Q q
    have : gInV a b s'.ws = gInB a b s'.ws := by
      cases b <;> first | rfl | exact absurd ⟨_, rfl⟩ hk
    unfold mIn mOp
    rw [bindM_eq e1, bindM_eq e2]
    unfold askM
    simp only [← this, e3]
    rfl
theorem ee_notInV (ha : EvE K ta ma) (hb : EvE K tb mb) : EvE K (tNotInV K.w K ta tb) (mNotInV ma mb) := fun s d s' e R σ H N O x Q q => by
  have e0 := e
  obtain ⟨a, s1, e1, e⟩ := bindM_some e
  obtain ⟨b, s2, e2, e⟩ := bindM_some e
  obtain ⟨e3, e4⟩ := askM_some e
  simp only at e3 e4
  subst e4
  by_cases hk : ∃ ks, b = .keys ks
  · obtain ⟨ks, rfl⟩ := hk
    right
    refine ha s a s1 e1 R σ H N O x _ fun v H1 N1 O1 l1 x1 r1 => ?_
    refine hb s1 _ _ e2 R σ H1 N1 O1 x1 _ fun w H2 N2 O2 l2 x2 r2 => ?_
    cases hg : gInV a (.keys ks) s'.ws with
    | none => rw [hg] at e3; cases e3
    | some c =>
      rw [hg] at e3
      cases e3
      exact inN_ok x2 (r1.mono l2) r2 hg true ((q.le (l1.trans l2)).here x2 (.bl _))
  · left
    refine ee_notIn ha hb s d s' ?_ R σ H N O x Q q
    have : gInV a b s'.ws = gInB a b s'.ws := by
      cases b <;> first | rfl | exact absurd ⟨_, rfl⟩ hk
    unfold mNotIn mOp
    rw [bindM_eq e1, bindM_eq e2]
    unfold askM
    simp only [← this, e3]
    rfl
theorem pe_inV {a b : Expr} {pos : Pos} (hv : X.A.units + 65 < cLine) (ha : PE X a ta) (hb : PE X b tb) (hm : behindInMarks .In b = false) : PE X (.Compare a [.In] [b] pos) (tInV X.w X.K ta tb) := pe_or2 (pe_inU hv ha hb hm) (pe_cmpR (op_inN hv) ha hb hm)
theorem pe_notInV {a b : Expr} {pos : Pos} (hv : X.A.units + 65 < cLine) (ha : PE X a ta) (hb : PE X b tb) (hm : behindInMarks .NotIn b = false) : PE X (.Compare a [.NotIn] [b] pos) (tNotInV X.w X.K ta tb) := pe_or2 (pe_notInU hv ha hb hm) (pe_cmpR (op_notInN hv) ha hb hm)
theorem pt_inV {a b : Expr} {pos : Pos} (hv : X.A.units + 65 < cLine) (ha : PE X a ta) (hb : PE X b tb) (hm : behindInMarks .In b = false) : PT X (.Compare a [.In] [b] pos) (tTest (tInV X.w X.K ta tb)) := ⟨fun pins s σ H Q I w => by
  rcases w with w | w
  · exact (pt_inU hv ha hb hm).run pins s σ H Q I w
  · exact (pt_cmpR (op_inN hv) ha hb hm).run pins s σ H Q I w⟩
theorem pt_notInV {a b : Expr} {pos : Pos} (hv : X.A.units + 65 < cLine) (ha : PE X a ta) (hb : PE X b tb) (hm : behindInMarks .NotIn b = false) : PT X (.Compare a [.NotIn] [b] pos) (tTest (tNotInV X.w X.K ta tb)) := ⟨fun pins s σ H Q I w => by
  rcases w with w | w
  · exact (pt_notInU hv ha hb hm).run pins s σ H Q I w
  · exact (pt_cmpR (op_notInN hv) ha hb hm).run pins s σ H Q I w⟩
/-! ### the comprehension -/
def addK (acc : List D) (d : D) (k : NestedKey) : List D := match nks acc with
  | some l => if k ∈ l then acc else acc ++ [d]
  | none => acc
def loopK (g : Tg) (mt : M Bool) (mk me : M D) (vs : List Nat) : List D → List D → Stt → Option (List D × Stt)
  | [], acc, s => some (acc, s)
  | d :: ds, acc, s => match g d s.env with
    | none => none
    | some e => match mt { s with env := e } with
      | none => none
      | some (true, s1) => (match mk s1 with
        | some (.tup ys, s2) => (match me s2 with
          | none => none
          | some (z, s3) => match D.nk (.tup ys) with
            | none => none
            | some k => if k.depth ≤ 8 ∧ acc.length < most then loopK g mt mk me vs ds (addK acc (.tup ys) k) { s3 with env := wipeM s3.env vs } else none)
        | _ => none)
      | some (false, s1) => loopK g mt mk me vs ds acc { s1 with env := wipeM s1.env vs }
def mDcN (mi : M (List D)) (g : Tg) (mt : M Bool) (mk me : M D) (vs : List Nat) : M OO := bindM mi fun ds => compM vs fun s => (loopK g mt mk me vs ds [] s).map fun p => (.keys p.1, p.2)
theorem loopK_clean {g : Tg} {mt : M Bool} {mk me : M D} {vs : List Nat} : ∀ {ds acc acc' : List D} {s s' : Stt}, loopK g mt mk me vs ds acc s = some (acc', s') → (∀ j ∈ vs, ∀ o, s.env[j]? ≠ some (.own o)) → ∀ j ∈ vs, ∀ o, s'.env[j]? ≠ some (.own o)
  | [], acc, acc', s, s', e, h => by cases e; exact h
  | d :: ds, acc, acc', s, s', e, h => by
    unfold loopK at e
    split at e
    · cases e
    · split at e
      · cases e
      · split at e
        · split at e
          · cases e
          · split at e
            · cases e
            · split at e
              · exact loopK_clean e wiped_no
              · cases e
        · cases e
      · exact loopK_clean e wiped_no
theorem map_putAt {xs : KXs} {k : NestedKey} {v : Value} : (xs.map (putAt k v)).map (·.1) = xs.map (·.1) ∧ ∀ (i : Nat) (x : NestedKey × Addr × Value), (xs.map (putAt k v))[i]? = some x → ∃ y : NestedKey × Addr × Value, xs[i]? = some y ∧ x.1 = y.1 ∧ x.2.1 = y.2.1 := by
  have one : ∀ y : NestedKey × Addr × Value, (putAt k v y).1 = y.1 ∧ (putAt k v y).2.1 = y.2.1 := fun y => by
    unfold putAt
    split <;> exact ⟨rfl, rfl⟩
  refine ⟨by rw [List.map_map]; exact List.map_congr_left fun y _ => (one y).1, fun i x h => ?_⟩
  rw [List.getElem?_map] at h
  cases e : xs[i]? with
  | none => rw [e] at h; cases h
  | some y => rw [e] at h; cases h; exact ⟨y, rfl, (one y).1, (one y).2⟩
theorem key_add {L a : Addr} {acc : List D} {ys : List D} {k : NestedKey} {z : V} (x : SR K (dset R L (.keys acc)) σ H N O s) (r : Rep K N (.ref a) (.tup ys)) (hk : D.nk (.tup ys) = some k) (h8 : k.depth ≤ 8) (hz : acc.length < most) {Nx : Hp → Prop}
    (h : ∀ H', SR K (dset R L (.keys (addK acc (.tup ys) k))) σ H' N (dset O L (.keys (addK acc (.tup ys) k))) s → Nx H') : KAdd K.w K L (.ref a) z H Nx := by
  have hO : O L = some (.keys acc) := x.rest L _ dset_same
  obtain ⟨od, xs, hx, ko, hl, hn, hi⟩ := (x.good.own L _ hO).2
  refine ⟨a, od, xs, k, rfl, hx, ko, keys_v hl hn hi x.good.ex, nk_of x.good.ex r hk, h8, by rw [hl]; exact most_lt hz, fun od' v _ ko' => h _ (x.mutR ?_)⟩
  refine ⟨od', storedH xs k a v, upd_same, ko', ?_⟩
  have ek := keys_eq hl hn
  unfold addK
  rw [ek]
  simp only
  unfold storedH
  rw [atKey_in]
  by_cases hm : k ∈ xs.map (·.1)
  · rw [if_pos (decide_eq_true hm), if_pos hm]
    obtain ⟨_, p2⟩ := map_putAt (xs := xs) (k := k) (v := v)
    refine ⟨by rw [List.length_map]; exact hl, fun i y d h1 h2 => ?_, fun i y d h1 h2 => ?_⟩
    · obtain ⟨y', hy, q1, q2⟩ := p2 i y h1
      rw [q1]; exact hn i y' d hy h2
    · obtain ⟨y', hy, q1, q2⟩ := p2 i y h1
      rw [q2]; exact hi i y' d hy h2
  · rw [if_neg (by rw [decide_eq_false hm]; exact Bool.false_ne_true), if_neg hm]
    refine ⟨by simp [hl], fun i y d h1 h2 => ?_, fun i y d h1 h2 => ?_⟩
    · by_cases hlt : i < xs.length
      · rw [List.getElem?_append_left hlt] at h1
        rw [List.getElem?_append_left (by rw [← hl]; exact hlt)] at h2
        exact hn i y d h1 h2
      · rw [List.getElem?_append_right (by omega)] at h1
        rw [List.getElem?_append_right (by rw [← hl]; omega), ← hl] at h2
        cases e : i - xs.length with
        | zero => rw [e] at h1 h2; cases h1; cases h2; exact ⟨hk, h8⟩
        | succ m => rw [e] at h1; cases h1
    · by_cases hlt : i < xs.length
      · rw [List.getElem?_append_left hlt] at h1
        rw [List.getElem?_append_left (by rw [← hl]; exact hlt)] at h2
        exact hi i y d h1 h2
      · rw [List.getElem?_append_right (by omega)] at h1
        rw [List.getElem?_append_right (by rw [← hl]; omega), ← hl] at h2
        cases e : i - xs.length with
        | zero => rw [e] at h1 h2; cases h1; cases h2; exact r
        | succ m => rw [e] at h1; cases h1
theorem eo_dcN {vs : List Nat} (hi : EvI K wi mi) (hg : EvG K g mg is) (hv : ∀ j ∈ is, j ∈ vs) (ht : EvT K c mt) (hk : EvE K tk mk) (he : EvE K te me) : EvO K (tDcN K.w K wi g c tk te vs) (mDcN mi mg mt mk me vs) := fun s o s' e R σ H N O x Q q => by
  obtain ⟨ds, s1, e1, e⟩ := bindM_some e
  unfold compM at e
  split at e
  · rename_i hfr
    split at e
    · rename_i o2 s2 e2
      cases e
      cases e3 : loopK mg mt mk me vs ds [] { s1 with env := wipeM s1.env vs } with
      | none => simp only [e3] at e2; cases e2
      | some p =>
        obtain ⟨acc', s3⟩ := p
        simp only [e3] at e2
        cases e2
        refine hi s ds s1 e1 R σ H N O x _ fun J H1 N1 O1 l1 x1 it => ?_
        intro L od0 hL ko0
        obtain ⟨x2, lo⟩ := lone_new x1 (o := ExO L od0) (oo := .keys []) hL ⟨od0, [], upd_same, ko0, rfl, fun i x d h => by simp at h, fun i x d h => by simp at h⟩
        have hRL : R L = none := by
          cases z : R L with
          | none => rfl
          | some u => have := x1.rest L u z; rw [(x1.good.free hL).2] at this; cases this
        have x3 := (x2.lend lo).wipe vs
        refine ⟨fun i k H' => k = ds.length - i ∧ i ≤ ds.length ∧ ∃ N' O' acc si, Le N1 N' ∧ SR K (dset R L (.keys acc)) (L2.wipe σ vs) H' N' O' si ∧ loopK mg mt mk me vs (ds.drop i) acc si = some (acc', s3), ⟨ds.length, rfl, Nat.zero_le _, N1, _, [], _, Le.refl _, x3, e3⟩, ?_⟩
        rintro i k H2 ⟨rfl, hle, N2, O2, acc, si, l2, xi, ei⟩
        obtain ⟨hgo, hstop, hyld⟩ := it N2 H2 l2 xi.good.ex
        by_cases hlt : i < ds.length
        · have ed : ds.drop i = ds[i] :: ds.drop (i + 1) := List.drop_eq_getElem_cons hlt
          rw [ed] at ei
          unfold loopK at ei
          cases e4 : mg ds[i] si.env with
          | none => rw [e4] at ei; cases ei
          | some env' =>
            rw [e4] at ei
            simp only at ei
            cases e5 : mt { si with env := env' } with
            | none => rw [e5] at ei; cases ei
            | some p =>
              obtain ⟨b, s4⟩ := p
              rw [e5] at ei
              refine .inr ⟨hgo i hlt, fun H' => ∃ N' O' acc si, Le N1 N' ∧ SR K (dset R L (.keys acc)) (L2.wipe σ vs) H' N' O' si ∧ loopK mg mt mk me vs (ds.drop (i + 1)) acc si = some (acc', s3), fun H' ⟨N', O', a, b, q1, q2, q3⟩ => ⟨ds.length - (i + 1), by omega, rfl, hlt, N', O', a, b, q1, q2, q3⟩, fun v H' y => ?_⟩
              obtain ⟨d, hd, run⟩ := hyld i v H' hlt y
              obtain ⟨N3, l3, x4, r4⟩ := run _ _ O2 si xi
              rw [List.getElem?_eq_getElem hlt] at hd
              cases hd
              refine hg ds[i] si env' e4 v _ _ H' N3 O2 x4 r4 _ fun σ5 x5 a5 ln5 => ?_
              have hwp : L2.wipe σ5 vs = L2.wipe σ vs := wipe_wipe (fun j hj => a5 j (fun z => hj (hv j z))) (ln5.trans (wipe_length _ _))
              refine ⟨hwp, ht _ b s4 e5 _ σ5 H' N3 O2 x5 _ fun H5 N5 O5 l5 x6 => ?_⟩
              cases b with
              | true =>
                rw [if_pos rfl]
                simp only at ei
                split at ei
                · rename_i ys s6 e6
                  cases e7 : me s6 with
                  | none => rw [e7] at ei; cases ei
                  | some p =>
                    obtain ⟨z7, s7⟩ := p
                    rw [e7] at ei
                    simp only at ei
                    cases e8 : D.nk (.tup ys) with
                    | none => rw [e8] at ei; cases ei
                    | some k8 =>
                      rw [e8] at ei
                      simp only at ei
                      split at ei
                      · rename_i hz
                        refine hk s4 _ s6 e6 _ σ5 H5 N5 O5 x6 _ fun w H6 N6 O6 l6 x7 r7 => ?_
                        refine he s6 z7 s7 e7 _ σ5 H6 N6 O6 x7 _ fun w' H7 N7 O7 l7 x8 r8 => ?_
                        have r7' := r7.mono l7
                        obtain ⟨p, zs, rfl, _, _⟩ := r7'.tup_
                        refine key_add x8 r7' e8 hz.1 hz.2 fun H8 x9 => ?_
                        have x10 := x9.wipe vs
                        rw [hwp] at x10
                        exact ⟨N7, _, _, _, (((l2.trans l3).trans l5).trans l6).trans l7, x10, ei⟩
                      · cases ei
                · cases ei
              | false =>
                rw [if_neg Bool.false_ne_true]
                have x9 := x6.wipe vs
                rw [hwp] at x9
                exact ⟨N5, _, _, _, (l2.trans l3).trans l5, x9, ei⟩
        · have e0 : i = ds.length := by omega
          subst e0
          rw [List.drop_length] at ei
          cases ei
          refine .inl ⟨hstop, ?_⟩
          obtain ⟨xb, lb⟩ := xi.back hRL
          have clean := loopK_clean e3 (fun j hj o => wiped_no j hj o)
          exact q L H2 N2 _ (l1.trans l2) (x1.restore l2 hfr xb clean) lb
    · cases e
  · cases e
/-- what a law's own def is handed -/
theorem law_in {f : Fn} {a : Addr} {ns : List Int} {ws' : List OO} {E : XK} (hS : SqL K H a (ns.map V.int)) (e : f [.lst (ns.map D.int)] [] = some (.bl true, ws')) : spM K 1 f [.ref a] H (fun v _ => v = .bl true) E := by
  refine ⟨_, [], _, ws', fun _ => none, ⟨H, [], none⟩, fun _ => none, e, rfl, Reps.one (.lst hS (by simp) fun i x d h1 h2 => Reps.ints.2 i x d h1 h2), ?_, fun v H' N' O' l y r => by cases r; rfl⟩
  exact ⟨⟨fun _ _ h => h, (fun _ _ h => by cases h)⟩, rfl, fun i d h => by simp at h, fun i o h => by simp at h, fun i j o o' a h => by simp at h, rfl, fun i a o h => by simp at h, List.nodup_nil, (fun _ _ h => by cases h), fun i C gs a h => by simp at h⟩
end
end ML
set_option Elab.async false
set_option linter.all false
set_option maxRecDepth 100000
set_option maxHeartbeats 2000000
/-! Layer M: two names for two new objects of one's own at once. -/
namespace ML
open PySem L2
section
variable {X : Cx} {K : KW} {R : Sto} {σ : L2.St} {N N' N1 : Kn} {H H' : Hp} {O O' : Sto} {s s' s1 : Stt} {ta tb : TE} {ma mb : M OO} {E : Ends}
def mParO (i j : Nat) (ma mb : M OO) : M Fl := bindM ma fun a => bindM mb fun b => fun s => if a.unp = true ∧ b.unp = true then some (.nx, { s with env := (s.env.set i (.own a)).set j (.own b) }) else none
theorem es_parO {i j : Nat} (h1 : EvO K ta ma) (h2 : EvO K tb mb) : EvS K (tPar i j (tCons ta (tCons tb tNil))) (mParO i j ma mb) := fun s f s' e R σ H N O x E go => by
  obtain ⟨a, s1, e1, e⟩ := bindM_some e
  obtain ⟨b, s2, e2, e⟩ := bindM_some e
  split at e
  · rename_i hu
    cases e
    refine h1 s a s1 e1 R σ H N O x _ fun p H1 N1 O1 l1 x1 lo1 => ?_
    have hR : R p = none := by
      cases er : R p with
      | none => rfl
      | some u => have := x1.rest p u er; rw [lo1.2.1] at this; cases this
    refine h2 s1 b s2 e2 (dset R p a) σ H1 N1 _ (x1.lend lo1) _ fun q H2 N2 O2 l2 x2 lo2 => ?_
    have hO : O2 p = some a := x2.rest p a dset_same
    have hqp : q ≠ p := fun z => by
      subst z
      have := lo2.2.1
      rw [hO] at this; cases this
    obtain ⟨x3, lo3⟩ := x2.back hR
    have x4 := x3.own_ lo3 (.inl hu.1) i
    have lo4 : Lone K N2 (dset (ddrop O2 p) p a) H2 q b := ⟨lo2.1, by rw [dset_ne hqp, ddrop_ne hqp]; exact lo2.2.1, lo2.2.2.1, lo2.2.2.2⟩
    have x5 := x4.own_ lo4 (.inl hu.2) j
    exact ⟨.ref p, .ref q, rfl, go _ H2 N2 _ (l1.trans l2) x5⟩
  · cases e
end
end ML
set_option Elab.async false
set_option linter.all false
set_option maxRecDepth 100000
set_option maxHeartbeats 0
/-! The facts of the program, the models of its defs: printed by gen.py. -/
namespace ML
open PySem PySem.Spec PyProof.Rows L2
def top (i : Nat) : Stmt := PySem.Challenge.pw_tillnextship_k77_whole_chains_of_many_ni.main.body.getD i (.Pass ⟨0, 0, 0, 0⟩)
abbrev s_law_box : Stmt := top 58
abbrev N_law_box : List Str := ["script", "cells", "blend", "cell"]
theorem sc_law_box : FnScope N_law_box ["script"] (defScope s_law_box) := ⟨rfl, rfl, rfl, by decide +kernel, rfl, by decide +kernel, by decide +kernel⟩
abbrev s_is_integer : Stmt := top 10
abbrev N_is_integer : List Str := ["value"]
theorem sc_is_integer : FnScope N_is_integer ["value"] (defScope s_is_integer) := ⟨rfl, rfl, rfl, by decide +kernel, rfl, by decide +kernel, by decide +kernel⟩
abbrev s_is_between : Stmt := top 12
abbrev N_is_between : List Str := ["value", "least", "greatest"]
theorem sc_is_between : FnScope N_is_between ["value", "least", "greatest"] (defScope s_is_between) := ⟨rfl, rfl, rfl, by decide +kernel, rfl, by decide +kernel, by decide +kernel⟩
abbrev s_need_station : Stmt := top 27
abbrev N_need_station : List Str := ["station", "at"]
theorem sc_need_station : FnScope N_need_station ["station", "at"] (defScope s_need_station) := ⟨rfl, rfl, rfl, by decide +kernel, rfl, by decide +kernel, by decide +kernel⟩
abbrev s_need_one_store : Stmt := top 35
abbrev N_need_one_store : List Str := ["station"]
theorem sc_need_one_store : FnScope N_need_one_store ["station"] (defScope s_need_one_store) := ⟨rfl, rfl, rfl, by decide +kernel, rfl, by decide +kernel, by decide +kernel⟩
abbrev s_first_lines : Stmt := top 39
abbrev N_first_lines : List Str := ["station", "mode"]
theorem sc_first_lines : FnScope N_first_lines ["station"] (defScope s_first_lines) := ⟨rfl, rfl, rfl, by decide +kernel, rfl, by decide +kernel, by decide +kernel⟩
abbrev s_stretch_ends : Stmt := top 36
abbrev N_stretch_ends : List Str := ["station", "mode", "marks"]
theorem sc_stretch_ends : FnScope N_stretch_ends ["station", "mode"] (defScope s_stretch_ends) := ⟨rfl, rfl, rfl, by decide +kernel, rfl, by decide +kernel, by decide +kernel⟩
abbrev s_ask_of : Stmt := top 37
abbrev N_ask_of : List Str := ["station", "lines", "move", "line", "shift", "fill"]
theorem sc_ask_of : FnScope N_ask_of ["station", "lines", "move"] (defScope s_ask_of) := ⟨rfl, rfl, rfl, by decide +kernel, rfl, by decide +kernel, by decide +kernel⟩
abbrev s_asks_of : Stmt := top 38
abbrev N_asks_of : List Str := ["station", "lines", "mode", "found", "first", "end", "moves", "asks", "move"]
theorem sc_asks_of : FnScope N_asks_of ["station", "lines", "mode"] (defScope s_asks_of) := ⟨rfl, rfl, rfl, by decide +kernel, rfl, by decide +kernel, by decide +kernel⟩
abbrev s_sure_step : Stmt := top 42
abbrev N_sure_step : List Str := ["station", "lines", "found", "mode", "line", "first", "end", "ask"]
theorem sc_sure_step : FnScope N_sure_step ["station", "lines"] (defScope s_sure_step) := ⟨rfl, rfl, rfl, by decide +kernel, rfl, by decide +kernel, by decide +kernel⟩
abbrev s_sure_lines : Stmt := top 43
abbrev N_sure_lines : List Str := ["station", "nights", "lines", "_"]
theorem sc_sure_lines : FnScope N_sure_lines ["station", "nights"] (defScope s_sure_lines) := ⟨rfl, rfl, rfl, by decide +kernel, rfl, by decide +kernel, by decide +kernel⟩
abbrev s_is_below : Stmt := top 11
abbrev N_is_below : List Str := ["value", "limit"]
theorem sc_is_below : FnScope N_is_below ["value", "limit"] (defScope s_is_below) := ⟨rfl, rfl, rfl, by decide +kernel, rfl, by decide +kernel, by decide +kernel⟩
abbrev s_need_mode : Stmt := top 28
abbrev N_need_mode : List Str := ["station", "mode"]
theorem sc_need_mode : FnScope N_need_mode ["station", "mode"] (defScope s_need_mode) := ⟨rfl, rfl, rfl, by decide +kernel, rfl, by decide +kernel, by decide +kernel⟩
abbrev s_need_line : Stmt := top 47
abbrev N_need_line : List Str := ["station", "mode", "nights"]
theorem sc_need_line : FnScope N_need_line ["station", "mode", "nights"] (defScope s_need_line) := ⟨rfl, rfl, rfl, by decide +kernel, rfl, by decide +kernel, by decide +kernel⟩
abbrev s_line_table : Stmt := top 46
abbrev N_line_table : List Str := ["station", "nights", "found", "_"]
theorem sc_line_table : FnScope N_line_table ["station", "nights"] (defScope s_line_table) := ⟨rfl, rfl, rfl, by decide +kernel, rfl, by decide +kernel, by decide +kernel⟩
abbrev s_is_held : Stmt := top 48
abbrev N_is_held : List Str := ["station", "line"]
theorem sc_is_held : FnScope N_is_held ["station", "line"] (defScope s_is_held) := ⟨rfl, rfl, rfl, by decide +kernel, rfl, by decide +kernel, by decide +kernel⟩
abbrev s_held_table : Stmt := top 49
abbrev N_held_table : List Str := ["station", "mode", "nights", "table"]
theorem sc_held_table : FnScope N_held_table ["station", "mode", "nights"] (defScope s_held_table) := ⟨rfl, rfl, rfl, by decide +kernel, rfl, by decide +kernel, by decide +kernel⟩
abbrev s_cell_at : Stmt := top 29
abbrev N_cell_at : List Str := ["station", "mode", "row", "thresholds", "at", "told", "part"]
theorem sc_cell_at : FnScope N_cell_at ["station", "mode", "row"] (defScope s_cell_at) := ⟨rfl, rfl, rfl, by decide +kernel, rfl, by decide +kernel, by decide +kernel⟩
abbrev s_cell_number : Stmt := top 30
abbrev N_cell_number : List Str := ["station", "mode", "cell", "found", "told", "many"]
theorem sc_cell_number : FnScope N_cell_number ["station", "mode", "cell"] (defScope s_cell_number) := ⟨rfl, rfl, rfl, by decide +kernel, rfl, by decide +kernel, by decide +kernel⟩
abbrev s_moves_at : Stmt := top 31
abbrev N_moves_at : List Str := ["station", "mode", "row"]
theorem sc_moves_at : FnScope N_moves_at ["station", "mode", "row"] (defScope s_moves_at) := ⟨rfl, rfl, rfl, by decide +kernel, rfl, by decide +kernel, by decide +kernel⟩
abbrev s_is_look : Stmt := top 50
abbrev N_is_look : List Str := ["station", "mode", "line"]
theorem sc_is_look : FnScope N_is_look ["station", "mode", "line"] (defScope s_is_look) := ⟨rfl, rfl, rfl, by decide +kernel, rfl, by decide +kernel, by decide +kernel⟩
abbrev s_chain_steps : Stmt := top 51
abbrev N_chain_steps : List Str := ["station", "table", "mode", "nights", "line", "found", "floor", "letter", "behind", "changes", "shift", "fill", "amount"]
theorem sc_chain_steps : FnScope N_chain_steps ["station", "table", "mode", "nights"] (defScope s_chain_steps) := ⟨rfl, rfl, rfl, by decide +kernel, rfl, by decide +kernel, by decide +kernel⟩
abbrev s_chain_paper : Stmt := top 52
abbrev N_chain_paper : List Str := ["station", "mode", "nights", "table", "told", "left", "steps", "letter"]
theorem sc_chain_paper : FnScope N_chain_paper ["station", "mode", "nights"] (defScope s_chain_paper) := ⟨rfl, rfl, rfl, by decide +kernel, rfl, by decide +kernel, by decide +kernel⟩
abbrev s_is_paper : Stmt := top 15
abbrev N_is_paper : List Str := ["value", "many"]
theorem sc_is_paper : FnScope N_is_paper ["value", "many"] (defScope s_is_paper) := ⟨rfl, rfl, rfl, by decide +kernel, rfl, by decide +kernel, by decide +kernel⟩
abbrev s_is_fate : Stmt := top 33
abbrev N_is_fate : List Str := ["station", "value", "letter"]
theorem sc_is_fate : FnScope N_is_fate ["station", "value"] (defScope s_is_fate) := ⟨rfl, rfl, rfl, by decide +kernel, rfl, by decide +kernel, by decide +kernel⟩
abbrev s_chain_end : Stmt := top 53
abbrev N_chain_end : List Str := ["station", "table", "mode", "nights", "fate", "at", "letter", "steps", "told", "behind"]
theorem sc_chain_end : FnScope N_chain_end ["station", "table", "mode", "nights", "fate"] (defScope s_chain_end) := ⟨rfl, rfl, rfl, by decide +kernel, rfl, by decide +kernel, by decide +kernel⟩
abbrev s_chain_holds : Stmt := top 54
abbrev N_chain_holds : List Str := ["station", "mode", "nights", "value", "table"]
theorem sc_chain_holds : FnScope N_chain_holds ["station", "mode", "nights", "value"] (defScope s_chain_holds) := ⟨rfl, rfl, rfl, by decide +kernel, rfl, by decide +kernel, by decide +kernel⟩
abbrev s_chain_layers : Stmt := top 55
abbrev N_chain_layers : List Str := ["station", "table", "mode", "nights", "found", "modes", "left", "layer", "one", "_", "steps", "behind"]
theorem sc_chain_layers : FnScope N_chain_layers ["station", "table", "mode", "nights"] (defScope s_chain_layers) := ⟨rfl, rfl, rfl, by decide +kernel, rfl, by decide +kernel, by decide +kernel⟩
abbrev s_chain_count : Stmt := top 56
abbrev N_chain_count : List Str := ["station", "mode", "nights", "table", "counts", "layer", "told", "one", "steps", "floors", "looks", "_", "behind"]
theorem sc_chain_count : FnScope N_chain_count ["station", "mode", "nights"] (defScope s_chain_count) := ⟨rfl, rfl, rfl, by decide +kernel, rfl, by decide +kernel, by decide +kernel⟩
abbrev s_law_draw : Stmt := top 59
abbrev N_law_draw : List Str := ["box", "many", "turn", "found", "rest"]
theorem sc_law_draw : FnScope N_law_draw ["box", "many"] (defScope s_law_draw) := ⟨rfl, rfl, rfl, by decide +kernel, rfl, by decide +kernel, by decide +kernel⟩
abbrev s_law_pick : Stmt := top 60
abbrev N_law_pick : List Str := ["box", "some"]
theorem sc_law_pick : FnScope N_law_pick ["box", "some"] (defScope s_law_pick) := ⟨rfl, rfl, rfl, by decide +kernel, rfl, by decide +kernel, by decide +kernel⟩
abbrev s_law_tells : Stmt := top 62
abbrev N_law_tells : List Str := ["value", "due"]
theorem sc_law_tells : FnScope N_law_tells ["value", "due"] (defScope s_law_tells) := ⟨rfl, rfl, rfl, by decide +kernel, rfl, by decide +kernel, by decide +kernel⟩
abbrev s_is_sequence : Stmt := top 13
abbrev N_is_sequence : List Str := ["value"]
theorem sc_is_sequence : FnScope N_is_sequence ["value"] (defScope s_is_sequence) := ⟨rfl, rfl, rfl, by decide +kernel, rfl, by decide +kernel, by decide +kernel⟩
abbrev s_stores_wrong : Stmt := top 22
abbrev N_stores_wrong : List Str := ["floors", "caps", "value", "at", "floor"]
theorem sc_stores_wrong : FnScope N_stores_wrong ["floors", "caps"] (defScope s_stores_wrong) := ⟨rfl, rfl, rfl, by decide +kernel, rfl, by decide +kernel, by decide +kernel⟩
abbrev s_is_row : Stmt := top 14
abbrev N_is_row : List Str := ["value", "many"]
theorem sc_is_row : FnScope N_is_row ["value", "many"] (defScope s_is_row) := ⟨rfl, rfl, rfl, by decide +kernel, rfl, by decide +kernel, by decide +kernel⟩
abbrev s_are_thresholds : Stmt := top 24
abbrev N_are_thresholds : List Str := ["floor", "cap", "value", "one", "other", "part"]
theorem sc_are_thresholds : FnScope N_are_thresholds ["floor", "cap", "value"] (defScope s_are_thresholds) := ⟨rfl, rfl, rfl, by decide +kernel, rfl, by decide +kernel, by decide +kernel⟩
abbrev s_is_move : Stmt := top 25
abbrev N_is_move : List Str := ["bounds", "modes", "value", "floor", "cap", "change"]
theorem sc_is_move : FnScope N_is_move ["bounds", "modes", "value"] (defScope s_is_move) := ⟨rfl, rfl, rfl, by decide +kernel, rfl, by decide +kernel, by decide +kernel⟩
abbrev s_is_mode : Stmt := top 23
abbrev N_is_mode : List Str := ["bounds", "letters", "modes", "value", "cells", "floor", "cap", "row", "moves", "move"]
theorem sc_is_mode : FnScope N_is_mode ["bounds", "letters", "modes", "value"] (defScope s_is_mode) := ⟨rfl, rfl, rfl, by decide +kernel, rfl, by decide +kernel, by decide +kernel⟩
abbrev s_told_mode : Stmt := top 26
abbrev N_told_mode : List Str := ["mode", "thresholds", "cells", "moves", "told", "row", "move", "change"]
theorem sc_told_mode : FnScope N_told_mode ["mode"] (defScope s_told_mode) := ⟨rfl, rfl, rfl, by decide +kernel, rfl, by decide +kernel, by decide +kernel⟩
abbrev s_Station_init : Stmt := inClass (top 21) 0
abbrev N_Station_init : List Str := ["self", "floors", "caps", "letters", "modes", "at", "bounds", "mode"]
theorem sc_Station_init : FnScope N_Station_init ["self", "floors", "caps", "letters", "modes"] (defScope s_Station_init) := ⟨rfl, rfl, rfl, by decide +kernel, rfl, by decide +kernel, by decide +kernel⟩
abbrev s_law_made : Stmt := top 64
abbrev N_law_made : List Str := ["house"]
theorem sc_law_made : FnScope N_law_made ["house"] (defScope s_law_made) := ⟨rfl, rfl, rfl, by decide +kernel, rfl, by decide +kernel, by decide +kernel⟩
abbrev s_law_is_int : Stmt := top 63
abbrev N_law_is_int : List Str := ["value"]
theorem sc_law_is_int : FnScope N_law_is_int ["value"] (defScope s_law_is_int) := ⟨rfl, rfl, rfl, by decide +kernel, rfl, by decide +kernel, by decide +kernel⟩
abbrev s_law_same : Stmt := top 65
abbrev N_law_same : List Str := ["value", "due", "at"]
theorem sc_law_same : FnScope N_law_same ["value", "due"] (defScope s_law_same) := ⟨rfl, rfl, rfl, by decide +kernel, rfl, by decide +kernel, by decide +kernel⟩
abbrev s_law_near : Stmt := top 61
abbrev N_law_near : List Str := ["box", "size"]
theorem sc_law_near : FnScope N_law_near ["box", "size"] (defScope s_law_near) := ⟨rfl, rfl, rfl, by decide +kernel, rfl, by decide +kernel, by decide +kernel⟩
abbrev s_law_plain : Stmt := top 66
abbrev N_law_plain : List Str := ["box", "size", "floor", "reach", "many", "letters", "modes", "mode", "moves", "letter", "lead", "fill"]
theorem sc_law_plain : FnScope N_law_plain ["box"] (defScope s_law_plain) := ⟨rfl, rfl, rfl, by decide +kernel, rfl, by decide +kernel, by decide +kernel⟩
abbrev s_law_sums : Stmt := top 67
abbrev N_law_sums : List Str := ["house", "nights", "floor", "many", "lines", "counts", "night", "line", "count", "mode", "asks", "lead", "changes", "most", "told", "ask", "shift", "fill"]
theorem sc_law_sums : FnScope N_law_sums ["house", "nights"] (defScope s_law_sums) := ⟨rfl, rfl, rfl, by decide +kernel, rfl, by decide +kernel, by decide +kernel⟩
abbrev s_law_shifts : Stmt := top 68
abbrev N_law_shifts : List Str := ["house", "mode", "fate", "found", "letter", "lead", "changes"]
theorem sc_law_shifts : FnScope N_law_shifts ["house", "mode", "fate"] (defScope s_law_shifts) := ⟨rfl, rfl, rfl, by decide +kernel, rfl, by decide +kernel, by decide +kernel⟩
abbrev s_law_is_paper : Stmt := top 69
abbrev N_law_is_paper : List Str := ["house", "value", "line", "mode", "nights", "letter"]
theorem sc_law_is_paper : FnScope N_law_is_paper ["house", "value", "line", "mode", "nights"] (defScope s_law_is_paper) := ⟨rfl, rfl, rfl, by decide +kernel, rfl, by decide +kernel, by decide +kernel⟩
abbrev s_law_with_look : Stmt := top 70
abbrev N_law_with_look : List Str := ["box", "house", "lines", "nights", "floor", "cap", "line", "many", "at", "below", "above", "calm", "modes", "letter"]
theorem sc_law_with_look : FnScope N_law_with_look ["box", "house", "lines", "nights"] (defScope s_law_with_look) := ⟨rfl, rfl, rfl, by decide +kernel, rfl, by decide +kernel, by decide +kernel⟩
abbrev s_law_looking : Stmt := top 71
abbrev N_law_looking : List Str := ["box", "house", "lines", "counts", "nights", "more", "mode", "at", "line", "one", "due", "told"]
theorem sc_law_looking : FnScope N_law_looking ["box", "house", "lines", "counts", "nights"] (defScope s_law_looking) := ⟨rfl, rfl, rfl, by decide +kernel, rfl, by decide +kernel, by decide +kernel⟩
abbrev s_law_once : Stmt := top 72
abbrev N_law_once : List Str := ["box", "house", "one", "nights", "lines", "counts", "turn", "mode", "many", "line", "told", "fate", "value"]
theorem sc_law_once : FnScope N_law_once ["box"] (defScope s_law_once) := ⟨rfl, rfl, rfl, by decide +kernel, rfl, by decide +kernel, by decide +kernel⟩
abbrev s_law : Stmt := top 73
abbrev N_law : List Str := ["script"]
theorem sc_law : FnScope N_law ["script"] (defScope s_law) := ⟨rfl, rfl, rfl, by decide +kernel, rfl, by decide +kernel, by decide +kernel⟩
structure Cs where
  Station : Addr
structure FnF (K : PySem.W.Frag) (x qual : Str) (st : Stmt) (dvs : List V) where
  a : Addr
  d : FuncData
  F : FunD K x qual (defArgs st) (defBody st) (defScope st) dvs [] a d
structure Fs (K : PySem.W.Frag) (mg : Str → Option Value) where
  c : Cs
  f_law_box : FnF K "_law_box" "_law_box" s_law_box []
  g_law_box : mg "_law_box" = some (.ref f_law_box.a)
  f_is_integer : FnF K "is_integer" "is_integer" s_is_integer []
  g_is_integer : mg "is_integer" = some (.ref f_is_integer.a)
  f_is_between : FnF K "is_between" "is_between" s_is_between []
  g_is_between : mg "is_between" = some (.ref f_is_between.a)
  f_need_station : FnF K "need_station" "need_station" s_need_station [(.int (-1))]
  g_need_station : mg "need_station" = some (.ref f_need_station.a)
  f_need_one_store : FnF K "need_one_store" "need_one_store" s_need_one_store []
  g_need_one_store : mg "need_one_store" = some (.ref f_need_one_store.a)
  f_first_lines : FnF K "first_lines" "first_lines" s_first_lines []
  g_first_lines : mg "first_lines" = some (.ref f_first_lines.a)
  f_stretch_ends : FnF K "stretch_ends" "stretch_ends" s_stretch_ends []
  g_stretch_ends : mg "stretch_ends" = some (.ref f_stretch_ends.a)
  f_ask_of : FnF K "ask_of" "ask_of" s_ask_of []
  g_ask_of : mg "ask_of" = some (.ref f_ask_of.a)
  f_asks_of : FnF K "asks_of" "asks_of" s_asks_of []
  g_asks_of : mg "asks_of" = some (.ref f_asks_of.a)
  f_sure_step : FnF K "sure_step" "sure_step" s_sure_step []
  g_sure_step : mg "sure_step" = some (.ref f_sure_step.a)
  f_sure_lines : FnF K "sure_lines" "sure_lines" s_sure_lines []
  g_sure_lines : mg "sure_lines" = some (.ref f_sure_lines.a)
  f_is_below : FnF K "is_below" "is_below" s_is_below []
  g_is_below : mg "is_below" = some (.ref f_is_below.a)
  f_need_mode : FnF K "need_mode" "need_mode" s_need_mode []
  g_need_mode : mg "need_mode" = some (.ref f_need_mode.a)
  f_need_line : FnF K "need_line" "need_line" s_need_line []
  g_need_line : mg "need_line" = some (.ref f_need_line.a)
  f_line_table : FnF K "line_table" "line_table" s_line_table []
  g_line_table : mg "line_table" = some (.ref f_line_table.a)
  f_is_held : FnF K "is_held" "is_held" s_is_held []
  g_is_held : mg "is_held" = some (.ref f_is_held.a)
  f_held_table : FnF K "held_table" "held_table" s_held_table []
  g_held_table : mg "held_table" = some (.ref f_held_table.a)
  f_cell_at : FnF K "cell_at" "cell_at" s_cell_at []
  g_cell_at : mg "cell_at" = some (.ref f_cell_at.a)
  f_cell_number : FnF K "cell_number" "cell_number" s_cell_number []
  g_cell_number : mg "cell_number" = some (.ref f_cell_number.a)
  f_moves_at : FnF K "moves_at" "moves_at" s_moves_at []
  g_moves_at : mg "moves_at" = some (.ref f_moves_at.a)
  f_is_look : FnF K "is_look" "is_look" s_is_look []
  g_is_look : mg "is_look" = some (.ref f_is_look.a)
  f_chain_steps : FnF K "chain_steps" "chain_steps" s_chain_steps []
  g_chain_steps : mg "chain_steps" = some (.ref f_chain_steps.a)
  f_chain_paper : FnF K "chain_paper" "chain_paper" s_chain_paper []
  g_chain_paper : mg "chain_paper" = some (.ref f_chain_paper.a)
  f_is_paper : FnF K "is_paper" "is_paper" s_is_paper []
  g_is_paper : mg "is_paper" = some (.ref f_is_paper.a)
  f_is_fate : FnF K "is_fate" "is_fate" s_is_fate []
  g_is_fate : mg "is_fate" = some (.ref f_is_fate.a)
  f_chain_end : FnF K "chain_end" "chain_end" s_chain_end []
  g_chain_end : mg "chain_end" = some (.ref f_chain_end.a)
  f_chain_holds : FnF K "chain_holds" "chain_holds" s_chain_holds []
  g_chain_holds : mg "chain_holds" = some (.ref f_chain_holds.a)
  f_chain_layers : FnF K "chain_layers" "chain_layers" s_chain_layers []
  g_chain_layers : mg "chain_layers" = some (.ref f_chain_layers.a)
  f_chain_count : FnF K "chain_count" "chain_count" s_chain_count []
  g_chain_count : mg "chain_count" = some (.ref f_chain_count.a)
  f_law_draw : FnF K "_law_draw" "_law_draw" s_law_draw []
  g_law_draw : mg "_law_draw" = some (.ref f_law_draw.a)
  f_law_pick : FnF K "_law_pick" "_law_pick" s_law_pick []
  g_law_pick : mg "_law_pick" = some (.ref f_law_pick.a)
  f_law_tells : FnF K "_law_tells" "_law_tells" s_law_tells []
  g_law_tells : mg "_law_tells" = some (.ref f_law_tells.a)
  f_is_sequence : FnF K "is_sequence" "is_sequence" s_is_sequence []
  g_is_sequence : mg "is_sequence" = some (.ref f_is_sequence.a)
  f_stores_wrong : FnF K "stores_wrong" "stores_wrong" s_stores_wrong []
  g_stores_wrong : mg "stores_wrong" = some (.ref f_stores_wrong.a)
  f_is_row : FnF K "is_row" "is_row" s_is_row []
  g_is_row : mg "is_row" = some (.ref f_is_row.a)
  f_are_thresholds : FnF K "are_thresholds" "are_thresholds" s_are_thresholds []
  g_are_thresholds : mg "are_thresholds" = some (.ref f_are_thresholds.a)
  f_is_move : FnF K "is_move" "is_move" s_is_move []
  g_is_move : mg "is_move" = some (.ref f_is_move.a)
  f_is_mode : FnF K "is_mode" "is_mode" s_is_mode []
  g_is_mode : mg "is_mode" = some (.ref f_is_mode.a)
  f_told_mode : FnF K "told_mode" "told_mode" s_told_mode []
  g_told_mode : mg "told_mode" = some (.ref f_told_mode.a)
  f_Station_init : FnF K "__init__" "Station.__init__" s_Station_init []
  f_law_made : FnF K "_law_made" "_law_made" s_law_made []
  g_law_made : mg "_law_made" = some (.ref f_law_made.a)
  f_law_is_int : FnF K "_law_is_int" "_law_is_int" s_law_is_int []
  g_law_is_int : mg "_law_is_int" = some (.ref f_law_is_int.a)
  f_law_same : FnF K "_law_same" "_law_same" s_law_same []
  g_law_same : mg "_law_same" = some (.ref f_law_same.a)
  f_law_near : FnF K "_law_near" "_law_near" s_law_near []
  g_law_near : mg "_law_near" = some (.ref f_law_near.a)
  f_law_plain : FnF K "_law_plain" "_law_plain" s_law_plain []
  g_law_plain : mg "_law_plain" = some (.ref f_law_plain.a)
  f_law_sums : FnF K "_law_sums" "_law_sums" s_law_sums []
  g_law_sums : mg "_law_sums" = some (.ref f_law_sums.a)
  f_law_shifts : FnF K "_law_shifts" "_law_shifts" s_law_shifts []
  g_law_shifts : mg "_law_shifts" = some (.ref f_law_shifts.a)
  f_law_is_paper : FnF K "_law_is_paper" "_law_is_paper" s_law_is_paper []
  g_law_is_paper : mg "_law_is_paper" = some (.ref f_law_is_paper.a)
  f_law_with_look : FnF K "_law_with_look" "_law_with_look" s_law_with_look []
  g_law_with_look : mg "_law_with_look" = some (.ref f_law_with_look.a)
  f_law_looking : FnF K "_law_looking" "_law_looking" s_law_looking []
  g_law_looking : mg "_law_looking" = some (.ref f_law_looking.a)
  f_law_once : FnF K "_law_once" "_law_once" s_law_once []
  g_law_once : mg "_law_once" = some (.ref f_law_once.a)
  f_law : FnF K "law" "law" s_law []
  g_law : mg "law" = some (.ref f_law.a)
  g_Station : mg "Station" = some (.ref c.Station)
  M_Station : Mk K c.Station f_Station_init.a
  C_Station : ClF K c.Station
  n_Station_caps : NoAttr K c.Station "caps"
  n_Station_floors : NoAttr K c.Station "floors"
  n_Station_letters : NoAttr K c.Station "letters"
  n_Station_modes : NoAttr K c.Station "modes"
  k_MOST_STORES : ∃ t, mg "MOST_STORES" = some (.int 3 t)
  k_MOST_MODES : ∃ t, mg "MOST_MODES" = some (.int 60 t)
  k_MOST_LETTERS : ∃ t, mg "MOST_LETTERS" = some (.int 6 t)
  k_MOST_THRESHOLDS : ∃ t, mg "MOST_THRESHOLDS" = some (.int 6 t)
  k_MOST_NIGHTS_ever : ∃ t, mg "MOST_NIGHTS_ever" = some (.int 400 t)
  k_MOST_NIGHTS_props : ∃ t, mg "MOST_NIGHTS_props" = some (.int 400 t)
  z_abs : mg "abs" = none
  z_all : mg "all" = none
  z_bool : mg "bool" = none
  z_enumerate : mg "enumerate" = none
  z_int : mg "int" = none
  z_isinstance : mg "isinstance" = none
  z_len : mg "len" = none
  z_list : mg "list" = none
  z_max : mg "max" = none
  z_min : mg "min" = none
  z_range : mg "range" = none
  z_sorted : mg "sorted" = none
  z_str : mg "str" = none
  z_tuple : mg "tuple" = none
  z_zip : mg "zip" = none
def m_law_box (c : Cs) : Fn := mBody 1 3 (
 (mSeq (mAsg (mFrz (mLc (mItems (mSl (mVar 0) mNoPart (mPart (retM (.int 60))))) (mgName 3) mYes (mCB gAbs (mCons (mCB gInt (mCons (mVar 3) mNil)) mNil)) [3])) (mgName 1))
 (mSeq (mAsg (retM (.int 77023)) (mgName 2))
 (mSeq (mFor (mItems (mVar 1)) (mgName 3)
 (mAsg (mOp gMod (mCB gInt (mCons (mOp gAdd (mOp gAdd (mOp gMul (mVar 2) (retM (.int 16807))) (mOp gMod (mCB gInt (mCons (mVar 3) mNil)) (retM (.int 2147483563)))) (retM (.int 59))) mNil)) (retM (.int 2147483647))) (mgName 2)))
 (mRet (mOut (mLstO (mCons (mOut (mLc (mItems (mVar 1)) (mgName 3) (mTest (mOp gGe (mVar 3) (mOp gPow (retM (.int 10)) (retM (.int 18))))) (mVar 3) [3])) (mCons (mVar 2) mNil)))))))))
def m_is_integer (c : Cs) : Fn := mBody 1 0 (
 (mRet (mAndV (mIsi ["int"] (mVar 0)) (mNotV (mIsi ["bool"] (mVar 0))))))
def m_is_between (c : Cs) : Fn := mBody 3 0 (
 (mRet (mAndV (mCall 1 (m_is_integer c) (mCons (mVar 0) mNil)) (mChain gLe gLe (mVar 1) (mVar 0) (mVar 2)))))
def m_need_station (c : Cs) : Fn := mBody 2 0 (
 (mIf (mNot (mTru (mIsiC c.Station (mVar 0))))
 mNever
 mNext))
def m_need_one_store (c : Cs) : Fn := mBody 1 0 (
 (mSeq (mDrop (mCallD 2 (m_need_station c) [(.int (-1))] (mCons (mVar 0) mNil)))
 (mIf (mTest (mOp gNe (mCB gLen (mCons (mFld c.Station "floors" (mVar 0)) mNil)) (retM (.int 1))))
 mNever
 mNext)))
def m_first_lines (c : Cs) : Fn := mBody 1 1 (
 (mRet (mCB gTuple (mCons (mFrz (mLc (mItems (mFld c.Station "modes" (mVar 0))) (mgName 1) mYes (mOp gIx (mFld c.Station "floors" (mVar 0)) (retM (.int 0))) [1])) mNil))))
def m_stretch_ends (c : Cs) : Fn := mBody 2 1 (
 (mSeq (mAsg (mOp gAdd (mOp gAdd (mTup (mCons (mOp gIx (mFld c.Station "floors" (mVar 0)) (retM (.int 0))) mNil)) (mOp gIx (mOp gIx (mOp gIx (mFld c.Station "modes" (mVar 0)) (mVar 1)) (retM (.int 0))) (retM (.int 0)))) (mTup (mCons (mOp gAdd (mOp gIx (mFld c.Station "caps" (mVar 0)) (retM (.int 0))) (retM (.int 1))) mNil))) (mgName 2))
 (mRet (mListZip (mCons (mVar 2) (mCons (mSl (mVar 2) (mPart (retM (.int 1))) mNoPart) mNil))))))
def m_ask_of (c : Cs) : Fn := mBody 3 3 (
 (mSeq (mAsg (mIxV 1 (mIxV 2 (retM (.int 0)))) (mgName 3))
 (mSeq (mIf (mTest (mOp gGt (mVar 3) (mOp gIx (mFld c.Station "caps" (mVar 0)) (retM (.int 0)))))
 (mRet (retM .non))
 mNext)
 (mSeq (mAsg (mOp gIx (mIxV 2 (retM (.int 1))) (retM (.int 0))) (mgTup 2 (mgCons (mgName 4) (mgCons (mgName 5) mgNil))))
 (mSeq (mIf (mTest (mOp gGe (mVar 5) (mVar 3)))
 (mRet (mOp gSubI (mOp gIx (mFld c.Station "floors" (mVar 0)) (retM (.int 0))) (mVar 4)))
 mNext)
 (mRet (mOp gSubI (mVar 3) (mVar 4))))))))
def m_asks_of (c : Cs) : Fn := mBody 3 6 (
 (mSeq (mOwn 3 (mLstO mNil))
 (mSeq (mFor (mZip (mCons (mCall 2 (m_stretch_ends c) (mCons (mVar 0) (mCons (mVar 2) mNil))) (mCons (mOp gIx (mOp gIx (mFld c.Station "modes" (mVar 0)) (mVar 2)) (retM (.int 1))) mNil))) (mgTup 2 (mgCons (mgTup 2 (mgCons (mgName 4) (mgCons (mgName 5) mgNil))) (mgCons (mgName 6) mgNil)))
 (mSeq (mAsg (mFrz (mLc (mItems (mVar 6)) (mgName 8) mYes (mCall 3 (m_ask_of c) (mCons (mVar 0) (mCons (mVar 1) (mCons (mVar 8) mNil)))) [8])) (mgName 7))
 (mDrop (mAppV 3 (mTup (mCons (mVar 4) (mCons (mVar 5) (mCons (mIf (mTest (mInV (retM .non) (mVar 7))) (retM .non) (mCB gMaxL (mCons (mVar 7) mNil))) mNil))))))))
 (mRet (mVar 3)))))
def m_sure_step (c : Cs) : Fn := mBody 2 6 (
 (mSeq (mOwn 2 (mLstO mNil))
 (mSeq (mFor (mRng1 (mCons (mCB gLen (mCons (mFld c.Station "modes" (mVar 0)) mNil)) mNil)) (mgName 3)
 (mSeq (mAsg (mOp gIx (mFld c.Station "floors" (mVar 0)) (retM (.int 0))) (mgName 4))
 (mSeq (mFor (mItems (mCall 3 (m_asks_of c) (mCons (mVar 0) (mCons (mVar 1) (mCons (mVar 3) mNil))))) (mgTup 3 (mgCons (mgName 5) (mgCons (mgName 6) (mgCons (mgName 7) mgNil))))
 (mIf (mTest (mOp gIs (mVar 7) (retM .non)))
 (mAsg (mVar 6) (mgName 4))
 (mIf (mTest (mOp gGt (mVar 7) (mVar 5)))
 (mAsg (mCB gMin2 (mCons (mVar 6) (mCons (mVar 7) mNil))) (mgName 4))
 mNext)))
 (mDrop (mAppV 2 (mVar 4))))))
 (mRet (mCB gTuple (mCons (mVar 2) mNil))))))
def m_sure_lines (c : Cs) : Fn := mBody 2 2 (
 (mSeq (mDrop (mCall 1 (m_need_one_store c) (mCons (mVar 0) mNil)))
 (mSeq (mIf (mNot (mTru (mCall 3 (m_is_between c) (mCons (mVar 1) (mCons (retM (.int 0)) (mCons (retM (.int 400)) mNil))))))
 mNever
 mNext)
 (mSeq (mAsg (mCall 1 (m_first_lines c) (mCons (mVar 0) mNil)) (mgName 2))
 (mSeq (mFor (mRng1 (mCons (mVar 1) mNil)) (mgName 3)
 (mAsg (mCall 2 (m_sure_step c) (mCons (mVar 0) (mCons (mVar 2) mNil))) (mgName 2)))
 (mRet (mVar 2)))))))
def m_is_below (c : Cs) : Fn := mBody 2 0 (
 (mRet (mAndV (mCall 1 (m_is_integer c) (mCons (mVar 0) mNil)) (mChain gLe gLt (retM (.int 0)) (mVar 0) (mVar 1)))))
def m_need_mode (c : Cs) : Fn := mBody 2 0 (
 (mIf (mNot (mTru (mCall 2 (m_is_below c) (mCons (mVar 1) (mCons (mCB gLen (mCons (mFld c.Station "modes" (mVar 0)) mNil)) mNil)))))
 mNever
 mNext))
def m_need_line (c : Cs) : Fn := mBody 3 0 (
 (mSeq (mDrop (mCall 1 (m_need_one_store c) (mCons (mVar 0) mNil)))
 (mSeq (mDrop (mCall 2 (m_need_mode c) (mCons (mVar 0) (mCons (mVar 1) mNil))))
 (mIf (mNot (mTru (mCall 3 (m_is_between c) (mCons (mVar 2) (mCons (retM (.int 0)) (mCons (retM (.int 400)) mNil))))))
 mNever
 mNext))))
def m_line_table (c : Cs) : Fn := mBody 2 2 (
 (mSeq (mOwn 2 (mLstO (mCons (mCall 1 (m_first_lines c) (mCons (mVar 0) mNil)) mNil)))
 (mSeq (mFor (mRng1 (mCons (mVar 1) mNil)) (mgName 3)
 (mDrop (mAppV 2 (mCall 2 (m_sure_step c) (mCons (mVar 0) (mCons (mIxV 2 (mUn (gU fun i => -i) (retM (.int 1)))) mNil))))))
 (mRet (mVar 2)))))
def m_is_held (c : Cs) : Fn := mBody 2 0 (
 (mRet (mChain gLt gLe (mOp gIx (mFld c.Station "floors" (mVar 0)) (retM (.int 0))) (mVar 1) (mOp gIx (mFld c.Station "caps" (mVar 0)) (retM (.int 0))))))
def m_held_table (c : Cs) : Fn := mBody 3 1 (
 (mSeq (mAsg (mCall 2 (m_line_table c) (mCons (mVar 0) (mCons (mVar 2) mNil))) (mgName 3))
 (mSeq (mIf (mNot (mTru (mCall 2 (m_is_held c) (mCons (mVar 0) (mCons (mOp gIx (mIxV 3 (mVar 2)) (mVar 1)) mNil)))))
 mNever
 mNext)
 (mRet (mVar 3)))))
def m_cell_at (c : Cs) : Fn := mBody 3 4 (
 (mSeq (mAsg (mOp gIx (mOp gIx (mFld c.Station "modes" (mVar 0)) (mVar 1)) (retM (.int 0))) (mgName 3))
 (mRet (mCB gTuple (mCons (mFrz (mLc (mEnum (mCons (mVar 3) mNil)) (mgTup 2 (mgCons (mgName 4) (mgCons (mgName 5) mgNil))) mYes (mCB gLen (mCons (mFrz (mLc (mItems (mVar 5)) (mgName 6) (mTest (mOp gLe (mVar 6) (mIxV 2 (mVar 4)))) (mVar 6) [6])) mNil)) [4, 5])) mNil)))))
def m_cell_number (c : Cs) : Fn := mBody 3 3 (
 (mSeq (mAsg (retM (.int 0)) (mgName 3))
 (mSeq (mFor (mZip (mCons (mOp gIx (mOp gIx (mFld c.Station "modes" (mVar 0)) (mVar 1)) (retM (.int 0))) (mCons (mVar 2) mNil))) (mgTup 2 (mgCons (mgName 4) (mgCons (mgName 5) mgNil)))
 (mAsg (mOp gAdd (mOp gMul (mVar 3) (mOp gAdd (mLenV 4) (retM (.int 1)))) (mVar 5)) (mgName 3)))
 (mRet (mVar 3)))))
def m_moves_at (c : Cs) : Fn := mBody 3 0 (
 (mRet (mOp gIx (mOp gIx (mOp gIx (mFld c.Station "modes" (mVar 0)) (mVar 1)) (retM (.int 1))) (mCall 3 (m_cell_number c) (mCons (mVar 0) (mCons (mVar 1) (mCons (mCall 3 (m_cell_at c) (mCons (mVar 0) (mCons (mVar 1) (mCons (mVar 2) mNil)))) mNil)))))))
def m_is_look (c : Cs) : Fn := mBody 3 0 (
 (mRet (mInV (mVar 2) (mOp gIx (mOp gIx (mOp gIx (mFld c.Station "modes" (mVar 0)) (mVar 1)) (retM (.int 0))) (retM (.int 0))))))
def m_chain_steps (c : Cs) : Fn := mBody 4 9 (
 (mSeq (mAsg (mOp gIx (mIxV 1 (mVar 3)) (mVar 2)) (mgName 4))
 (mSeq (mOwn 5 (mLstO mNil))
 (mSeq (mIf (mTru (mCall 3 (m_is_look c) (mCons (mVar 0) (mCons (mVar 2) (mCons (mVar 4) mNil)))))
 (mRet (mVar 5))
 mNext)
 (mSeq (mAsg (mOp gIx (mFld c.Station "floors" (mVar 0)) (retM (.int 0))) (mgName 6))
 (mSeq (mFor (mEnum (mCons (mCall 3 (m_moves_at c) (mCons (mVar 0) (mCons (mVar 2) (mCons (mTup (mCons (mVar 4) mNil)) mNil)))) mNil)) (mgTup 2 (mgCons (mgName 7) (mgCons (mgTup 2 (mgCons (mgName 8) (mgCons (mgName 9) mgNil))) mgNil)))
 (mSeq (mAsg (mIxV 9 (retM (.int 0))) (mgTup 2 (mgCons (mgName 10) (mgCons (mgName 11) mgNil))))
 (mSeq (mAsg (mOp gAdd (mVar 4) (mVar 10)) (mgName 12))
 (mIf (mTest (mOp gEq (mVar 12) (mVar 6)))
 (mDrop (mAppV 5 (mTup (mCons (mVar 7) (mCons (retM .non) mNil)))))
 (mIf (mAnd (mTest (mOp gEq (mVar 12) (mOp gIx (mIxV 1 (mOp gSubI (mVar 3) (retM (.int 1)))) (mVar 8)))) (mAnd (mTest (mOp gGt (mVar 12) (mVar 6))) (mTest (mOp gGt (mVar 12) (mVar 11)))))
 (mDrop (mAppV 5 (mTup (mCons (mVar 7) (mCons (mVar 8) mNil)))))
 mNext)))))
 (mRet (mVar 5))))))))
def m_chain_paper (c : Cs) : Fn := mBody 3 5 (
 (mSeq (mDrop (mCall 3 (m_need_line c) (mCons (mVar 0) (mCons (mVar 1) (mCons (mVar 2) mNil)))))
 (mSeq (mAsg (mCall 3 (m_held_table c) (mCons (mVar 0) (mCons (mVar 1) (mCons (mVar 2) mNil)))) (mgName 3))
 (mSeq (mOwn 4 (mLstO mNil))
 (mSeq (mFor (mRngD (mCons (mVar 2) (mCons (mUn (gU fun i => -i) (retM (.int 1))) (mCons (mUn (gU fun i => -i) (retM (.int 1))) mNil)))) (mgName 5)
 (mSeq (mAsg (mCall 4 (m_chain_steps c) (mCons (mVar 0) (mCons (mVar 3) (mCons (mVar 1) (mCons (mVar 5) mNil))))) (mgName 6))
 (mSeq (mIf (mNot (mTruV 6))
 mBreak
 mNext)
 (mSeq (mAsg (mIxV 6 (retM (.int 0))) (mgTup 2 (mgCons (mgName 7) (mgCons (mgName 1) mgNil))))
 (mSeq (mDrop (mAppV 4 (mVar 7)))
 (mIf (mTest (mOp gIs (mVar 1) (retM .non)))
 (mRet (mTup (mCons (retM (.str "floor")) (mCons (mCB gTuple (mCons (mVar 4) mNil)) mNil))))
 mNext))))))
 (mRet (mTup (mCons (retM (.str "look")) (mCons (mCB gTuple (mCons (mVar 4) mNil)) mNil)))))))))
def m_is_paper (c : Cs) : Fn := mBody 2 0 (
 (mRet (mAndV (mIsi ["tuple"] (mVar 0)) (mOp gEq (mLenV 0) (mVar 1)))))
def m_is_fate (c : Cs) : Fn := mBody 2 1 (
 (mRet (mAndV (mIsi ["tuple"] (mVar 1)) (mCB gAll (mCons (mFrz (mLc (mItems (mVar 1)) (mgName 2) mYes (mCall 2 (m_is_below c) (mCons (mVar 2) (mCons (mFld c.Station "letters" (mVar 0)) mNil))) [2])) mNil)))))
def m_chain_end (c : Cs) : Fn := mBody 5 5 (
 (mSeq (mFor (mEnum (mCons (mVar 4) mNil)) (mgTup 2 (mgCons (mgName 5) (mgCons (mgName 6) mgNil)))
 (mSeq (mAsg (mFrz (mLc (mItems (mCall 4 (m_chain_steps c) (mCons (mVar 0) (mCons (mVar 1) (mCons (mVar 2) (mCons (mVar 3) mNil)))))) (mgTup 2 (mgCons (mgName 8) (mgCons (mgName 9) mgNil))) (mTest (mOp gEq (mVar 8) (mVar 6))) (mVar 9) [8, 9])) (mgName 7))
 (mSeq (mIf (mNot (mTruV 7))
 (mRet (retM .non))
 mNext)
 (mSeq (mAsg (mIxV 7 (retM (.int 0))) (mgName 2))
 (mSeq (mAsg (mOp gSubI (mVar 3) (retM (.int 1))) (mgName 3))
 (mIf (mTest (mOp gIs (mVar 2) (retM .non)))
 (mRet (mIf (mTest (mOp gEq (mVar 5) (mOp gSubI (mLenV 4) (retM (.int 1))))) (retM (.str "floor")) (retM .non)))
 mNext))))))
 (mRet (mIf (mTru (mCall 3 (m_is_look c) (mCons (mVar 0) (mCons (mVar 2) (mCons (mOp gIx (mIxV 1 (mVar 3)) (mVar 2)) mNil))))) (retM (.str "look")) (retM .non)))))
def m_chain_holds (c : Cs) : Fn := mBody 4 1 (
 (mSeq (mDrop (mCall 3 (m_need_line c) (mCons (mVar 0) (mCons (mVar 1) (mCons (mVar 2) mNil)))))
 (mSeq (mAsg (mCall 3 (m_held_table c) (mCons (mVar 0) (mCons (mVar 1) (mCons (mVar 2) mNil)))) (mgName 4))
 (mSeq (mIf (mOr (mNot (mTru (mCall 2 (m_is_paper c) (mCons (mVar 3) (mCons (retM (.int 2)) mNil))))) (mOr (mNot (mTru (mIsi ["str"] (mIxV 3 (retM (.int 0)))))) (mNot (mTru (mCall 2 (m_is_fate c) (mCons (mVar 0) (mCons (mIxV 3 (retM (.int 1))) mNil)))))))
 (mRet (retM (.bl false)))
 mNext)
 (mRet (mOp gEq (mCall 5 (m_chain_end c) (mCons (mVar 0) (mCons (mVar 4) (mCons (mVar 1) (mCons (mVar 2) (mCons (mIxV 3 (retM (.int 1))) mNil)))))) (mIxV 3 (retM (.int 0)))))))))
def m_chain_layers (c : Cs) : Fn := mBody 4 8 (
 (mSeq (mOwn 4 (mLstO mNil))
 (mSeq (mAsg (mFrz (mLstO (mCons (mVar 2) mNil))) (mgName 5))
 (mSeq (mFor (mRngD (mCons (mVar 3) (mCons (mUn (gU fun i => -i) (retM (.int 1))) (mCons (mUn (gU fun i => -i) (retM (.int 1))) mNil)))) (mgName 6)
 (mSeq (mAsg (mFrz (mDc (mItems (mVar 5)) (mgName 8) mYes (mVar 8) (mCall 4 (m_chain_steps c) (mCons (mVar 0) (mCons (mVar 1) (mCons (mVar 8) (mCons (mVar 6) mNil))))) [8])) (mgName 7))
 (mSeq (mDrop (mAppV 4 (mVar 7)))
 (mSeq (mAsg (mFrz (mSortSc2 7 (mgTup 2 (mgCons (mgName 9) (mgCons (mgName 10) mgNil))) mYes (mItems (mVar 10)) (mgTup 2 (mgCons (mgName 9) (mgCons (mgName 11) mgNil))) (mTest (mOp gIsNot (mVar 11) (retM .non))) (mVar 11) [9, 10, 11] [9, 11])) (mgName 5))
 (mIf (mNot (mTruV 5))
 mBreak
 mNext)))))
 (mRet (mVar 4))))))
def m_chain_count (c : Cs) : Fn := mBody 3 10 (
 (mSeq (mDrop (mCall 3 (m_need_line c) (mCons (mVar 0) (mCons (mVar 1) (mCons (mVar 2) mNil)))))
 (mSeq (mAsg (mCall 3 (m_held_table c) (mCons (mVar 0) (mCons (mVar 1) (mCons (mVar 2) mNil)))) (mgName 3))
 (mSeq (mAsg (mFrz mDicO) (mgName 4))
 (mSeq (mFor (mItems (mUn gRev (mCall 4 (m_chain_layers c) (mCons (mVar 0) (mCons (mVar 3) (mCons (mVar 1) (mCons (mVar 2) mNil))))))) (mgName 5)
 (mSeq (mOwn 6 mDicO)
 (mSeq (mForIt 5 (mgTup 2 (mgCons (mgName 7) (mgCons (mgName 8) mgNil)))
 (mSeq (mAsg (mCB gLen (mCons (mFrz (mLc (mItems (mVar 8)) (mgTup 2 (mgCons (mgName 11) (mgCons (mgName 12) mgNil))) (mTest (mOp gIs (mVar 12) (retM .non))) (mVar 12) [11, 12])) mNil)) (mgName 9))
 (mSeq (mAsg (mIf (mTruV 8) (retM (.int 0)) (retM (.int 1))) (mgName 10))
 (mSeq (mFor (mItems (mVar 8)) (mgTup 2 (mgCons (mgName 11) (mgCons (mgName 12) mgNil)))
 (mIf (mTest (mOp gIsNot (mVar 12) (retM .non)))
 (mSeq (mAsg (mOp gAdd (mVar 9) (mOp gIx (mIxV 4 (mVar 12)) (retM (.int 0)))) (mgName 9))
 (mAsg (mOp gAdd (mVar 10) (mOp gIx (mIxV 4 (mVar 12)) (retM (.int 1)))) (mgName 10)))
 mNext))
 (mDPutV 6 (mTup (mCons (mVar 9) (mCons (mVar 10) mNil))) (mVar 7))))))
 (mAsg (mVar 6) (mgName 4)))))
 (mRet (mIxV 4 (mVar 1))))))))
def m_law_draw (c : Cs) : Fn := mBody 2 3 (
 (mSeq (mFor (mRng1 (mCons (retM (.int 60)) mNil)) (mgName 2)
 (mIf (mAnd (mTest (mOp gNe (mIxV 0 (retM (.int 0))) (mFrz (mLstO mNil)))) (mTest (mOp gEq (mOp gIx (mIxV 0 (retM (.int 0))) (retM (.int 0))) (retM (.int 0)))))
 (mDrop (mPopO (mIxV 0 (retM (.int 0))) (retM (.int 0))))
 mNext))
 (mSeq (mIf (mTest (mOp gNe (mIxV 0 (retM (.int 0))) (mFrz (mLstO mNil))))
 (mSeq (mAsg (mCB gInt (mCons (mPopO (mIxV 0 (retM (.int 0))) (retM (.int 0))) mNil)) (mgName 4))
 (mSeq (mDrop (mInsO (mIxV 0 (retM (.int 0))) (mCons (retM (.int 0)) (mCons (mOp gDiv (mVar 4) (mVar 1)) mNil))))
 (mRet (mOp gMod (mCB gInt (mCons (mVar 4) mNil)) (mVar 1)))))
 mNext)
 (mSeq (mSetO (mOp gMod (mCB gInt (mCons (mOp gAdd (mOp gMul (mIxV 0 (retM (.int 1))) (retM (.int 16807))) (retM (.int 41))) mNil)) (retM (.int 2147483647))) (mVar 0) (retM (.int 1)))
 (mSeq (mAsg (mIxV 0 (retM (.int 1))) (mgName 3))
 (mSeq (mFor (mRng1 (mCons (retM (.int 2)) mNil)) (mgName 2)
 (mIf (mTest (mOp gGt (mVar 1) (mOp gPow (retM (.int 10)) (retM (.int 8)))))
 (mSeq (mSetO (mOp gMod (mCB gInt (mCons (mOp gAdd (mOp gMul (mIxV 0 (retM (.int 1))) (retM (.int 16807))) (retM (.int 41))) mNil)) (retM (.int 2147483647))) (mVar 0) (retM (.int 1)))
 (mAsg (mOp gAdd (mOp gMul (mVar 3) (retM (.int 2147483647))) (mIxV 0 (retM (.int 1)))) (mgName 3)))
 mNext))
 (mRet (mOp gMod (mCB gInt (mCons (mOp gDiv (mVar 3) (retM (.int 101))) mNil)) (mVar 1)))))))))
def m_law_pick (c : Cs) : Fn := mBody 2 0 (
 (mRet (mIxV 1 (mCall 2 (m_law_draw c) (mCons (mVar 0) (mCons (mLenV 1) mNil))))))
def m_law_tells (c : Cs) : Fn := mBody 2 0 (
 (mRet (mIf (mTruV 1) (mOp gIs (mVar 0) (retM (.bl true))) (mOp gIs (mVar 0) (retM (.bl false))))))
def m_is_sequence (c : Cs) : Fn := mBody 1 0 (
 (mRet (mIsi ["list", "tuple"] (mVar 0))))
def m_stores_wrong (c : Cs) : Fn := mBody 2 3 (
 (mSeq (mFor (mItems (mTup (mCons (mVar 0) (mCons (mVar 1) mNil)))) (mgName 2)
 (mIf (mOr (mNot (mTru (mCall 1 (m_is_sequence c) (mCons (mVar 2) mNil)))) (mNot (mTest (mChain gLe gLe (retM (.int 1)) (mLenV 2) (retM (.int 3))))))
 (mRet (mUn (gU fun i => -i) (retM (.int 1))))
 mNext))
 (mSeq (mIf (mTest (mOp gNe (mLenV 0) (mLenV 1)))
 (mRet (mUn (gU fun i => -i) (retM (.int 1))))
 mNext)
 (mSeq (mFor (mEnum (mCons (mVar 0) mNil)) (mgTup 2 (mgCons (mgName 3) (mgCons (mgName 4) mgNil)))
 (mIf (mOr (mNot (mTru (mCall 1 (m_is_integer c) (mCons (mVar 4) mNil)))) (mOr (mNot (mTru (mCall 1 (m_is_integer c) (mCons (mIxV 1 (mVar 3)) mNil)))) (mTest (mOp gGt (mVar 4) (mIxV 1 (mVar 3))))))
 (mRet (mVar 3))
 mNext))
 (mRet (retM .non))))))
def m_is_row (c : Cs) : Fn := mBody 2 0 (
 (mRet (mAndV (mCall 1 (m_is_sequence c) (mCons (mVar 0) mNil)) (mOp gEq (mLenV 0) (mVar 1)))))
def m_are_thresholds (c : Cs) : Fn := mBody 3 3 (
 (mSeq (mIf (mOr (mNot (mTru (mCall 1 (m_is_sequence c) (mCons (mVar 2) mNil)))) (mTest (mOp gGt (mLenV 2) (retM (.int 6)))))
 (mRet (retM (.bl false)))
 mNext)
 (mSeq (mIf (mNot (mTru (mCB gAll (mCons (mFrz (mLc (mItems (mVar 2)) (mgName 5) mYes (mCall 3 (m_is_between c) (mCons (mVar 5) (mCons (mOp gAdd (mVar 0) (retM (.int 1))) (mCons (mVar 1) mNil)))) [5])) mNil))))
 (mRet (retM (.bl false)))
 mNext)
 (mRet (mCB gAll (mCons (mFrz (mLc (mZip (mCons (mVar 2) (mCons (mSl (mVar 2) (mPart (retM (.int 1))) mNoPart) mNil))) (mgTup 2 (mgCons (mgName 3) (mgCons (mgName 4) mgNil))) mYes (mOp gLt (mVar 3) (mVar 4)) [3, 4])) mNil))))))
def m_is_move (c : Cs) : Fn := mBody 3 3 (
 (mSeq (mIf (mOr (mNot (mTru (mCall 2 (m_is_row c) (mCons (mVar 2) (mCons (retM (.int 2)) mNil))))) (mOr (mNot (mTru (mCall 2 (m_is_below c) (mCons (mIxV 2 (retM (.int 0))) (mCons (mVar 1) mNil))))) (mNot (mTru (mCall 2 (m_is_row c) (mCons (mIxV 2 (retM (.int 1))) (mCons (mLenV 0) mNil)))))))
 (mRet (retM (.bl false)))
 mNext)
 (mSeq (mFor (mZip (mCons (mVar 0) (mCons (mIxV 2 (retM (.int 1))) mNil))) (mgTup 2 (mgCons (mgTup 2 (mgCons (mgName 3) (mgCons (mgName 4) mgNil))) (mgCons (mgName 5) mgNil)))
 (mIf (mOr (mNot (mTru (mCall 2 (m_is_row c) (mCons (mVar 5) (mCons (retM (.int 2)) mNil))))) (mOr (mNot (mTru (mCall 1 (m_is_integer c) (mCons (mIxV 5 (retM (.int 0))) mNil)))) (mNot (mTru (mCall 3 (m_is_between c) (mCons (mIxV 5 (retM (.int 1))) (mCons (mVar 3) (mCons (mVar 4) mNil))))))))
 (mRet (retM (.bl false)))
 mNext))
 (mRet (retM (.bl true))))))
def m_is_mode (c : Cs) : Fn := mBody 4 6 (
 (mSeq (mIf (mOr (mNot (mTru (mCall 2 (m_is_row c) (mCons (mVar 3) (mCons (retM (.int 2)) mNil))))) (mNot (mTru (mCall 2 (m_is_row c) (mCons (mIxV 3 (retM (.int 0))) (mCons (mLenV 0) mNil))))))
 (mRet (retM (.bl false)))
 mNext)
 (mSeq (mAsg (retM (.int 1)) (mgName 4))
 (mSeq (mFor (mZip (mCons (mVar 0) (mCons (mIxV 3 (retM (.int 0))) mNil))) (mgTup 2 (mgCons (mgTup 2 (mgCons (mgName 5) (mgCons (mgName 6) mgNil))) (mgCons (mgName 7) mgNil)))
 (mSeq (mIf (mNot (mTru (mCall 3 (m_are_thresholds c) (mCons (mVar 5) (mCons (mVar 6) (mCons (mVar 7) mNil))))))
 (mRet (retM (.bl false)))
 mNext)
 (mAsg (mOp gMul (mVar 4) (mOp gAdd (mLenV 7) (retM (.int 1)))) (mgName 4))))
 (mSeq (mIf (mNot (mTru (mCall 2 (m_is_row c) (mCons (mIxV 3 (retM (.int 1))) (mCons (mVar 4) mNil)))))
 (mRet (retM (.bl false)))
 mNext)
 (mSeq (mFor (mItems (mIxV 3 (retM (.int 1)))) (mgName 8)
 (mIf (mOr (mNot (mTru (mCall 2 (m_is_row c) (mCons (mVar 8) (mCons (mVar 1) mNil))))) (mNot (mTru (mCB gAll (mCons (mFrz (mLc (mItems (mVar 8)) (mgName 9) mYes (mCall 3 (m_is_move c) (mCons (mVar 0) (mCons (mVar 2) (mCons (mVar 9) mNil)))) [9])) mNil)))))
 (mRet (retM (.bl false)))
 mNext))
 (mRet (retM (.bl true)))))))))
def m_told_mode (c : Cs) : Fn := mBody 1 7 (
 (mSeq (mAsg (mCB gTuple (mCons (mFrz (mLc (mItems (mIxV 0 (retM (.int 0)))) (mgName 5) mYes (mCB gTuple (mCons (mVar 5) mNil)) [5])) mNil)) (mgName 1))
 (mSeq (mOwn 2 (mLstO mNil))
 (mSeq (mFor (mItems (mIxV 0 (retM (.int 1)))) (mgName 3)
 (mSeq (mAsg (mFrz (mLc (mItems (mVar 3)) (mgName 6) mYes (mTup (mCons (mIxV 6 (retM (.int 0))) (mCons (mCB gTuple (mCons (mFrz (mLc (mItems (mIxV 6 (retM (.int 1)))) (mgName 7) mYes (mCB gTuple (mCons (mVar 7) mNil)) [7])) mNil)) mNil))) [6])) (mgName 4))
 (mDrop (mAppV 2 (mCB gTuple (mCons (mVar 4) mNil))))))
 (mRet (mTup (mCons (mVar 1) (mCons (mCB gTuple (mCons (mVar 2) mNil)) mNil))))))))
def m_Station_init (c : Cs) : Fi := mInit c.Station 4 3 (
 (mSeq (mAsg (mCall 2 (m_stores_wrong c) (mCons (mVar 1) (mCons (mVar 2) mNil))) (mgName 5))
 (mSeq (mIf (mTest (mOp gIsNot (mVar 5) (retM .non)))
 mNever
 mNext)
 (mSeq (mIf (mNot (mTru (mCall 3 (m_is_between c) (mCons (mVar 3) (mCons (retM (.int 1)) (mCons (retM (.int 6)) mNil))))))
 mNever
 mNext)
 (mSeq (mIf (mOr (mNot (mTru (mCall 1 (m_is_sequence c) (mCons (mVar 4) mNil)))) (mNot (mTest (mChain gLe gLe (retM (.int 1)) (mLenV 4) (retM (.int 60))))))
 mNever
 mNext)
 (mSeq (mAsg (mListZip (mCons (mVar 1) (mCons (mVar 2) mNil))) (mgName 6))
 (mSeq (mFor (mEnum (mCons (mVar 4) mNil)) (mgTup 2 (mgCons (mgName 5) (mgCons (mgName 7) mgNil)))
 (mIf (mNot (mTru (mCall 4 (m_is_mode c) (mCons (mVar 6) (mCons (mVar 3) (mCons (mLenV 4) (mCons (mVar 7) mNil)))))))
 mNever
 mNext))
 (mSeq (mFldV c.Station "floors" 0 (mCB gTuple (mCons (mVar 1) mNil)))
 (mSeq (mFldV c.Station "caps" 0 (mCB gTuple (mCons (mVar 2) mNil)))
 (mSeq (mFldV c.Station "letters" 0 (mVar 3))
 (mFldV c.Station "modes" 0 (mCB gTuple (mCons (mFrz (mLc (mItems (mVar 4)) (mgName 7) mYes (mCall 1 (m_told_mode c) (mCons (mVar 7) mNil)) [7])) mNil)))))))))))))
def m_law_made (c : Cs) : Fn := mBody 1 0 (
 (mRet (mFrz (mMakeO c.Station 4 (m_Station_init c) (mCons (mIxV 0 (retM (.int 0))) (mCons (mIxV 0 (retM (.int 1))) (mCons (mIxV 0 (retM (.int 2))) (mCons (mIxV 0 (retM (.int 3))) mNil))))))))
def m_law_is_int (c : Cs) : Fn := mBody 1 0 (
 (mRet (mAndV (mIsi ["int"] (mVar 0)) (mNotV (mIsi ["bool"] (mVar 0))))))
def m_law_same (c : Cs) : Nat → Fn
 | 0 => fun _ _ => none
 | n + 1 => mBody 2 1 (
 (mSeq (mIf (mTru (mIsi ["tuple"] (mVar 1)))
 (mSeq (mIf (mOr (mNot (mTru (mIsi ["tuple"] (mVar 0)))) (mTest (mOp gNe (mLenV 0) (mLenV 1))))
 (mRet (retM (.bl false)))
 mNext)
 (mRet (mOp gEq (mFrz (mLc (mRng1 (mCons (mLenV 1) mNil)) (mgName 2) (mNot (mTru (mCall 2 (m_law_same c n) (mCons (mIxV 0 (mVar 2)) (mCons (mIxV 1 (mVar 2)) mNil))))) (mVar 2) [2])) (mFrz (mLstO mNil)))))
 mNext)
 (mSeq (mIf (mTest (mOp gIs (mVar 1) (retM .non)))
 (mRet (mOp gIs (mVar 0) (retM .non)))
 mNext)
 (mSeq (mIf (mTru (mIsi ["bool"] (mVar 1)))
 (mRet (mCall 2 (m_law_tells c) (mCons (mVar 0) (mCons (mVar 1) mNil))))
 mNext)
 (mSeq (mIf (mTru (mIsi ["str"] (mVar 1)))
 (mRet (mAndV (mIsi ["str"] (mVar 0)) (mOp gEq (mVar 0) (mVar 1))))
 mNext)
 (mRet (mAndV (mCall 1 (m_law_is_int c) (mCons (mVar 0) mNil)) (mOp gEq (mVar 0) (mVar 1)))))))))
def m_law_near (c : Cs) : Fn := mBody 2 0 (
 (mRet (mOp gSubI (mCall 2 (m_law_draw c) (mCons (mVar 0) (mCons (mOp gAdd (mOp gMul (retM (.int 2)) (mVar 1)) (retM (.int 1))) mNil))) (mVar 1))))
def m_law_plain (c : Cs) : Fn := mBody 1 11 (
 (mSeq (mAsg (mCall 2 (m_law_pick c) (mCons (mVar 0) (mCons (mFrz (mLstO (mCons (retM (.int 1)) (mCons (retM (.int 1)) (mCons (mOp gPow (retM (.int 10)) (retM (.int 14))) mNil))))) mNil))) (mgName 1))
 (mSeq (mPar 2 3 (mCons (mCall 2 (m_law_near c) (mCons (mVar 0) (mCons (mOp gPow (retM (.int 10)) (retM (.int 17))) mNil))) (mCons (mOp gAdd (mOp gMul (mOp gMul (retM (.int 400)) (retM (.int 3))) (mVar 1)) (mCall 2 (m_law_draw c) (mCons (mVar 0) (mCons (retM (.int 1000)) mNil)))) mNil)))
 (mSeq (mPar 4 5 (mCons (mOp gAdd (retM (.int 1)) (mCall 2 (m_law_draw c) (mCons (mVar 0) (mCons (mCall 2 (m_law_pick c) (mCons (mVar 0) (mCons (mFrz (mLstO (mCons (retM (.int 3)) (mCons (retM (.int 24)) mNil)))) mNil))) mNil)))) (mCons (mOp gAdd (retM (.int 1)) (mCall 2 (m_law_draw c) (mCons (mVar 0) (mCons (retM (.int 4)) mNil)))) mNil)))
 (mSeq (mOwn 6 (mLstO mNil))
 (mSeq (mFor (mRng1 (mCons (mVar 4) mNil)) (mgName 7)
 (mSeq (mOwn 8 (mLstO mNil))
 (mSeq (mFor (mRng1 (mCons (mVar 5) mNil)) (mgName 9)
 (mSeq (mAsg (mCall 2 (m_law_pick c) (mCons (mVar 0) (mCons (mFrz (mLstO (mCons (mCall 2 (m_law_draw c) (mCons (mVar 0) (mCons (mVar 4) mNil))) (mCons (mOp gMod (mCB gInt (mCons (mOp gAdd (mVar 7) (retM (.int 1))) mNil)) (mVar 4)) (mCons (mVar 7) mNil))))) mNil))) (mgName 10))
 (mSeq (mAsg (mIf (mTest (mOp gGt (mCall 2 (m_law_draw c) (mCons (mVar 0) (mCons (retM (.int 5)) mNil))) (retM (.int 0)))) (mVar 2) (mOp gAdd (mVar 2) (mCall 2 (m_law_draw c) (mCons (mVar 0) (mCons (mOp gMul (retM (.int 40)) (mVar 1)) mNil))))) (mgName 11))
 (mDrop (mAppV 8 (mTup (mCons (mVar 10) (mCons (mTup (mCons (mTup (mCons (mOp gMul (mCall 2 (m_law_pick c) (mCons (mVar 0) (mCons (mFrz (mLstO (mCons (mUn (gU fun i => -i) (retM (.int 1))) (mCons (mUn (gU fun i => -i) (retM (.int 1))) (mCons (mUn (gU fun i => -i) (retM (.int 2))) (mCons (retM (.int 0)) (mCons (retM (.int 1)) (mCons (mUn (gU fun i => -i) (retM (.int 3))) mNil)))))))) mNil))) (mVar 1)) (mCons (mVar 11) mNil))) mNil)) mNil))))))))
 (mDrop (mAppV 6 (mTup (mCons (mTup (mCons (mTup mNil) mNil)) (mCons (mTup (mCons (mCB gTuple (mCons (mVar 8) mNil)) mNil)) mNil))))))))
 (mRet (mTup (mCons (mTup (mCons (mVar 2) mNil)) (mCons (mTup (mCons (mOp gAdd (mVar 2) (mVar 3)) mNil)) (mCons (mVar 5) (mCons (mCB gTuple (mCons (mVar 6) mNil)) mNil))))))))))))
def m_law_sums (c : Cs) : Fn := mBody 2 16 (
 (mSeq (mAsg (mTup (mCons (mOp gIx (mIxV 0 (retM (.int 0))) (retM (.int 0))) (mCons (mCB gLen (mCons (mIxV 0 (retM (.int 3))) mNil)) mNil))) (mgTup 2 (mgCons (mgName 2) (mgCons (mgName 3) mgNil))))
 (mSeq (mParO 4 5 (mLstO (mCons (mFrz (mLc (mRng1 (mCons (mVar 3) mNil)) (mgName 9) mYes (mVar 2) [9])) mNil)) (mLstO (mCons (mFrz (mLc (mRng1 (mCons (mVar 3) mNil)) (mgName 9) mYes (retM (.int 0)) [9])) mNil)))
 (mSeq (mFor (mRng1 (mCons (mVar 1) mNil)) (mgName 6)
 (mSeq (mParO 7 8 (mLstO mNil) (mLstO mNil))
 (mSeq (mFor (mRng1 (mCons (mVar 3) mNil)) (mgName 9)
 (mSeq (mOwn 10 (mLstO mNil))
 (mSeq (mFor (mItems (mOp gIx (mOp gIx (mOp gIx (mIxV 0 (retM (.int 3))) (mVar 9)) (retM (.int 1))) (retM (.int 0)))) (mgTup 2 (mgCons (mgName 11) (mgCons (mgName 12) mgNil)))
 (mSeq (mAsg (mIxV 12 (retM (.int 0))) (mgTup 2 (mgCons (mgName 16) (mgCons (mgName 17) mgNil))))
 (mSeq (mAsg (mOp gSubI (mOp gIx (mIxV 4 (mUn (gU fun i => -i) (retM (.int 1)))) (mVar 11)) (mVar 16)) (mgName 15))
 (mSeq (mIf (mOr (mTest (mOp gGe (mVar 17) (mOp gIx (mIxV 4 (mUn (gU fun i => -i) (retM (.int 1)))) (mVar 11)))) (mTest (mOp gGt (mOp gSubI (mVar 2) (mVar 16)) (mVar 15))))
 (mAsg (mOp gSubI (mVar 2) (mVar 16)) (mgName 15))
 mNext)
 (mDrop (mAppV 10 (mTup (mCons (mVar 15) (mCons (mVar 11) (mCons (mVar 16) (mCons (mVar 17) mNil)))))))))))
 (mSeq (mAsg (mCB gMaxL (mCons (mOp gAdd (mFrz (mLstO (mCons (mVar 2) mNil))) (mFrz (mLc (mItems (mVar 10)) (mgName 15) mYes (mIxV 15 (retM (.int 0))) [15]))) mNil)) (mgName 13))
 (mSeq (mDrop (mAppV 7 (mVar 13)))
 (mSeq (mAsg (retM (.int 0)) (mgName 14))
 (mSeq (mFor (mItems (mVar 10)) (mgTup 4 (mgCons (mgName 15) (mgCons (mgName 11) (mgCons (mgName 16) (mgCons (mgName 17) mgNil)))))
 (mIf (mAnd (mTest (mOp gGt (mVar 13) (mVar 2))) (mTest (mOp gEq (mVar 15) (mVar 13))))
 (mAsg (mOp gAdd (mVar 14) (mIf (mTest (mOp gEq (mOp gAdd (mVar 13) (mVar 16)) (mVar 2))) (retM (.int 1)) (mOp gIx (mIxV 5 (mUn (gU fun i => -i) (retM (.int 1)))) (mVar 11)))) (mgName 14))
 mNext))
 (mDrop (mAppV 8 (mVar 14))))))))))
 (mSeq (mDrop (mAppV 4 (mVar 7)))
 (mDrop (mAppV 5 (mVar 8)))))))
 (mRet (mTup (mCons (mVar 4) (mCons (mVar 5) mNil))))))))
def m_law_shifts (c : Cs) : Fn := mBody 3 4 (
 (mSeq (mAsg (retM (.int 0)) (mgName 3))
 (mSeq (mFor (mItems (mVar 2)) (mgName 4)
 (mSeq (mAsg (mOp gIx (mOp gIx (mOp gIx (mOp gIx (mIxV 0 (retM (.int 3))) (mVar 1)) (retM (.int 1))) (retM (.int 0))) (mVar 4)) (mgTup 2 (mgCons (mgName 5) (mgCons (mgName 6) mgNil))))
 (mPar 3 1 (mCons (mOp gAdd (mVar 3) (mOp gIx (mIxV 6 (retM (.int 0))) (retM (.int 0)))) (mCons (mVar 5) mNil)))))
 (mRet (mVar 3)))))
def m_law_is_paper (c : Cs) : Fn := mBody 5 1 (
 (mSeq (mIf (mOr (mNot (mTru (mIsi ["tuple"] (mVar 1)))) (mOr (mTest (mOp gNe (mLenV 1) (retM (.int 2)))) (mOr (mNot (mTru (mCall 2 (m_law_same c 8) (mCons (mIxV 1 (retM (.int 0))) (mCons (retM (.str "floor")) mNil))))) (mNot (mTru (mIsi ["tuple"] (mIxV 1 (retM (.int 1)))))))))
 (mRet (retM (.bl false)))
 mNext)
 (mSeq (mIf (mOr (mTest (mOp gGt (mCB gLen (mCons (mIxV 1 (retM (.int 1))) mNil)) (mVar 4))) (mTest (mOp gNe (mFrz (mLc (mItems (mIxV 1 (retM (.int 1)))) (mgName 5) (mOr (mNot (mTru (mCall 1 (m_law_is_int c) (mCons (mVar 5) mNil)))) (mNot (mTest (mChain gLe gLt (retM (.int 0)) (mVar 5) (mIxV 0 (retM (.int 2))))))) (mVar 5) [5])) (mFrz (mLstO mNil)))))
 (mRet (retM (.bl false)))
 mNext)
 (mRet (mOp gEq (mOp gAdd (mVar 2) (mCall 3 (m_law_shifts c) (mCons (mVar 0) (mCons (mVar 3) (mCons (mIxV 1 (retM (.int 1))) mNil))))) (mOp gIx (mIxV 0 (retM (.int 0))) (retM (.int 0))))))))
def m_law_with_look (c : Cs) : Fn := mBody 4 10 (
 (mSeq (mAsg (mTup (mCons (mOp gIx (mIxV 1 (retM (.int 0))) (retM (.int 0))) (mCons (mOp gIx (mIxV 1 (retM (.int 1))) (retM (.int 0))) mNil))) (mgTup 2 (mgCons (mgName 4) (mgCons (mgName 5) mgNil))))
 (mSeq (mAsg (mTup (mCons (mOp gIx (mIxV 2 (mOp gSubI (mVar 3) (retM (.int 1)))) (retM (.int 0))) (mCons (mCB gLen (mCons (mIxV 1 (retM (.int 3))) mNil)) mNil))) (mgTup 2 (mgCons (mgName 6) (mgCons (mgName 7) mgNil))))
 (mSeq (mAsg (mCall 2 (m_law_pick c) (mCons (mVar 0) (mCons (mFrz (mLstO (mCons (mOp gAdd (mVar 6) (retM (.int 1))) (mCons (mVar 6) (mCons (mCB gMax2 (mCons (mOp gAdd (mVar 4) (retM (.int 1))) (mCons (mOp gSubI (mVar 6) (retM (.int 1))) mNil))) (mCons (mOp gAdd (mVar 4) (retM (.int 1))) mNil)))))) mNil))) (mgName 8))
 (mSeq (mAsg (mCB gTuple (mCons (mFrz (mLc (mRng1 (mCons (mIxV 1 (retM (.int 2))) mNil)) (mgName 13) mYes (mTup (mCons (retM (.int 0)) (mCons (mTup (mCons (mTup (mCons (retM (.int 0)) (mCons (mVar 4) mNil))) mNil)) mNil))) [13])) mNil)) (mgName 9))
 (mSeq (mAsg (mCB gTuple (mCons (mFrz (mLc (mRng1 (mCons (mIxV 1 (retM (.int 2))) mNil)) (mgName 13) mYes (mTup (mCons (mOp gAdd (mVar 7) (retM (.int 1))) (mCons (mTup (mCons (mTup (mCons (retM (.int 0)) (mCons (mVar 4) mNil))) mNil)) mNil))) [13])) mNil)) (mgName 10))
 (mSeq (mAsg (mCB gTuple (mCons (mFrz (mLc (mRng1 (mCons (mIxV 1 (retM (.int 2))) mNil)) (mgName 13) mYes (mTup (mCons (mOp gAdd (mVar 7) (retM (.int 1))) (mCons (mTup (mCons (mTup (mCons (retM (.int 0)) (mCons (mVar 4) mNil))) mNil)) mNil))) [13])) mNil)) (mgName 11))
 (mSeq (mAsg (mOp gAdd (mIxV 1 (retM (.int 3))) (mTup (mCons (mTup (mCons (mTup (mCons (mTup (mCons (mVar 8) mNil)) mNil)) (mCons (mTup (mCons (mVar 9) (mCons (mVar 10) mNil))) mNil))) (mCons (mTup (mCons (mTup (mCons (mTup mNil) mNil)) (mCons (mTup (mCons (mVar 11) mNil)) mNil))) mNil)))) (mgName 12))
 (mRet (mTup (mCons (mTup (mCons (mIxV 1 (retM (.int 0))) (mCons (mIxV 1 (retM (.int 1))) (mCons (mIxV 1 (retM (.int 2))) (mCons (mVar 12) mNil))))) (mCons (mVar 7) (mCons (mVar 8) (mCons (mVar 6) mNil))))))))))))))
def m_law_looking (c : Cs) : Fn := mBody 5 7 (
 (mSeq (mIf (mTest (mOp gLe (mOp gIx (mIxV 2 (mOp gSubI (mVar 4) (retM (.int 1)))) (retM (.int 0))) (mOp gIx (mIxV 1 (retM (.int 0))) (retM (.int 0)))))
 (mRet (retM (.bl true)))
 mNext)
 (mSeq (mAsg (mCall 4 (m_law_with_look c) (mCons (mVar 0) (mCons (mVar 1) (mCons (mVar 2) (mCons (mVar 4) mNil))))) (mgTup 4 (mgCons (mgName 5) (mgCons (mgName 6) (mgCons (mgName 7) (mgCons (mgName 8) mgNil))))))
 (mSeq (mAsg (mCall 1 (m_law_made c) (mCons (mVar 5) mNil)) (mgName 9))
 (mSeq (mAsg (mCB gMinL (mCons (mFrz (mLstO (mCons (mVar 7) (mCons (mVar 8) mNil)))) mNil)) (mgName 10))
 (mSeq (mIf (mNot (mTru (mCall 2 (m_law_same c 8) (mCons (mOp gIx (mCall 2 (m_sure_lines c) (mCons (mVar 9) (mCons (mVar 4) mNil))) (mVar 6)) (mCons (mVar 10) mNil)))))
 (mRet (retM (.bl false)))
 mNext)
 (mSeq (mIf (mTest (mOp gEq (mVar 10) (mVar 7)))
 (mRet (mAndV (mCall 2 (m_law_same c 8) (mCons (mCall 3 (m_chain_count c) (mCons (mVar 9) (mCons (mVar 6) (mCons (mVar 4) mNil)))) (mCons (mTup (mCons (retM (.int 0)) (mCons (retM (.int 1)) mNil))) mNil))) (mCall 2 (m_law_same c 8) (mCons (mCall 3 (m_chain_paper c) (mCons (mVar 9) (mCons (mVar 6) (mCons (mVar 4) mNil)))) (mCons (mTup (mCons (retM (.str "look")) (mCons (mTup mNil) mNil))) mNil)))))
 mNext)
 (mSeq (mAsg (mOp gMul (mIxV 1 (retM (.int 2))) (mOp gIx (mIxV 3 (mOp gSubI (mVar 4) (retM (.int 1)))) (retM (.int 0)))) (mgName 11))
 (mRet (mCall 2 (m_law_same c 8) (mCons (mCall 3 (m_chain_count c) (mCons (mVar 9) (mCons (mVar 6) (mCons (mVar 4) mNil)))) (mCons (mTup (mCons (mVar 11) (mCons (retM (.int 0)) mNil))) mNil))))))))))))
def m_law_once (c : Cs) : Fn := mBody 1 12 (
 (mSeq (mAsg (mCall 1 (m_law_plain c) (mCons (mVar 0) mNil)) (mgName 1))
 (mSeq (mPar 2 3 (mCons (mCall 1 (m_law_made c) (mCons (mVar 1) mNil)) (mCons (mCall 2 (m_law_pick c) (mCons (mVar 0) (mCons (mFrz (mLstO (mCons (retM (.int 6)) (mCons (retM (.int 40)) (mCons (retM (.int 100)) (mCons (mIf (mTest (mOp gLt (mCB gLen (mCons (mIxV 1 (retM (.int 3))) mNil)) (retM (.int 5)))) (retM (.int 400)) (retM (.int 60))) mNil)))))) mNil))) mNil)))
 (mSeq (mAsg (mCall 2 (m_law_sums c) (mCons (mVar 1) (mCons (mVar 3) mNil))) (mgTup 2 (mgCons (mgName 4) (mgCons (mgName 5) mgNil))))
 (mSeq (mIf (mNot (mTru (mCall 2 (m_law_same c 8) (mCons (mCall 2 (m_sure_lines c) (mCons (mVar 2) (mCons (mVar 3) mNil))) (mCons (mCB gTuple (mCons (mIxV 4 (mVar 3)) mNil)) mNil)))))
 (mRet (retM (.bl false)))
 mNext)
 (mSeq (mFor (mRng1 (mCons (retM (.int 3)) mNil)) (mgName 6)
 (mSeq (mPar 7 8 (mCons (mCall 2 (m_law_draw c) (mCons (mVar 0) (mCons (mCB gLen (mCons (mIxV 1 (retM (.int 3))) mNil)) mNil))) (mCons (mOp gSubI (mVar 3) (mCall 2 (m_law_draw c) (mCons (mVar 0) (mCons (mCall 2 (m_law_pick c) (mCons (mVar 0) (mCons (mFrz (mLstO (mCons (retM (.int 1)) (mCons (mVar 3) mNil)))) mNil))) mNil)))) mNil)))
 (mSeq (mAsg (mOp gIx (mIxV 4 (mVar 8)) (mVar 7)) (mgName 9))
 (mIf (mTest (mOp gGt (mVar 9) (mOp gIx (mIxV 1 (retM (.int 0))) (retM (.int 0)))))
 (mSeq (mIf (mNot (mTru (mCall 2 (m_law_same c 8) (mCons (mCall 3 (m_chain_count c) (mCons (mVar 2) (mCons (mVar 7) (mCons (mVar 8) mNil)))) (mCons (mTup (mCons (mOp gIx (mIxV 5 (mVar 8)) (mVar 7)) (mCons (retM (.int 0)) mNil))) mNil)))))
 (mRet (retM (.bl false)))
 mNext)
 (mSeq (mAsg (mCall 3 (m_chain_paper c) (mCons (mVar 2) (mCons (mVar 7) (mCons (mVar 8) mNil)))) (mgName 10))
 (mSeq (mIf (mOr (mNot (mTru (mCall 5 (m_law_is_paper c) (mCons (mVar 1) (mCons (mVar 10) (mCons (mVar 9) (mCons (mVar 7) (mCons (mVar 8) mNil)))))))) (mNot (mTru (mCall 2 (m_law_tells c) (mCons (mCall 4 (m_chain_holds c) (mCons (mVar 2) (mCons (mVar 7) (mCons (mVar 8) (mCons (mVar 10) mNil))))) (mCons (retM (.bl true)) mNil))))))
 (mRet (retM (.bl false)))
 mNext)
 (mSeq (mAsg (mIxV 10 (retM (.int 1))) (mgName 11))
 (mFor (mItems (mFrz (mLstO (mCons (mTup (mCons (retM (.str "floor")) (mCons (mSl (mVar 11) mNoPart (mPart (mUn (gU fun i => -i) (retM (.int 1))))) mNil))) (mCons (mTup (mCons (retM (.str "floor")) (mCons (mOp gAdd (mVar 11) (mTup (mCons (retM (.int 0)) mNil))) mNil))) (mCons (mTup (mCons (retM (.str "look")) (mCons (mVar 11) mNil))) (mCons (mTup (mCons (retM (.str "look")) (mCons (mSl (mVar 11) mNoPart (mPart (mUn (gU fun i => -i) (retM (.int 1))))) mNil))) (mCons (mTup (mCons (retM (.str "look")) (mCons (mTup mNil) mNil))) mNil)))))))) (mgName 12)
 (mIf (mNot (mTru (mCall 2 (m_law_tells c) (mCons (mCall 4 (m_chain_holds c) (mCons (mVar 2) (mCons (mVar 7) (mCons (mVar 8) (mCons (mVar 12) mNil))))) (mCons (retM (.bl false)) mNil)))))
 (mRet (retM (.bl false)))
 mNext))))))
 mNext))))
 (mRet (mCall 5 (m_law_looking c) (mCons (mVar 0) (mCons (mVar 1) (mCons (mVar 4) (mCons (mVar 5) (mCons (mVar 3) mNil)))))))))))))
def m_law (c : Cs) : Fn := mBody 1 0 (
 (mRet (mCall 1 (m_law_once c) (mCons (mCall 1 (m_law_box c) (mCons (mVar 0) mNil)) mNil))))
section
variable {P : Program} {w : World} {K : PySem.W.Frag} {mg : Str → Option Value} {base : Heap}
theorem b_law_box (X : Fs K mg) : Binds K X.f_law_box.d ["script"] [] := X.f_law_box.F.bindsN fun _ _ _ _ _ _ us hl => match us, hl with | [_], _ => rfl
theorem b_is_integer (X : Fs K mg) : Binds K X.f_is_integer.d ["value"] [] := X.f_is_integer.F.bindsN fun _ _ _ _ _ _ us hl => match us, hl with | [_], _ => rfl
theorem b_is_between (X : Fs K mg) : Binds K X.f_is_between.d ["value", "least", "greatest"] [] := X.f_is_between.F.bindsN fun _ _ _ _ _ _ us hl => match us, hl with | [_, _, _], _ => rfl
theorem bd_need_station_1 (X : Fs K mg) : ∃ ds, Vals ([(.int (-1))] : List V) ds ∧ Binds K X.f_need_station.d ["station", "at"] ds := X.f_need_station.F.binds1 1 0 (by simp) rfl (fun _ _ _ _ _ _ _ us its hl hi => match us, hl, its, hi with | [_], _, [_], _ => ⟨_, rfl, rfl⟩)
theorem dv_need_station_1 {K : KW} {N : Kn} : Reps K N ([(.int (-1))] : List V) ([(.int (-1))] : List D) := (Reps.cons (.int _) Reps.nil)
theorem b_need_one_store (X : Fs K mg) : Binds K X.f_need_one_store.d ["station"] [] := X.f_need_one_store.F.bindsN fun _ _ _ _ _ _ us hl => match us, hl with | [_], _ => rfl
theorem b_first_lines (X : Fs K mg) : Binds K X.f_first_lines.d ["station"] [] := X.f_first_lines.F.bindsN fun _ _ _ _ _ _ us hl => match us, hl with | [_], _ => rfl
theorem b_stretch_ends (X : Fs K mg) : Binds K X.f_stretch_ends.d ["station", "mode"] [] := X.f_stretch_ends.F.bindsN fun _ _ _ _ _ _ us hl => match us, hl with | [_, _], _ => rfl
theorem b_ask_of (X : Fs K mg) : Binds K X.f_ask_of.d ["station", "lines", "move"] [] := X.f_ask_of.F.bindsN fun _ _ _ _ _ _ us hl => match us, hl with | [_, _, _], _ => rfl
theorem b_asks_of (X : Fs K mg) : Binds K X.f_asks_of.d ["station", "lines", "mode"] [] := X.f_asks_of.F.bindsN fun _ _ _ _ _ _ us hl => match us, hl with | [_, _, _], _ => rfl
theorem b_sure_step (X : Fs K mg) : Binds K X.f_sure_step.d ["station", "lines"] [] := X.f_sure_step.F.bindsN fun _ _ _ _ _ _ us hl => match us, hl with | [_, _], _ => rfl
theorem b_sure_lines (X : Fs K mg) : Binds K X.f_sure_lines.d ["station", "nights"] [] := X.f_sure_lines.F.bindsN fun _ _ _ _ _ _ us hl => match us, hl with | [_, _], _ => rfl
theorem b_is_below (X : Fs K mg) : Binds K X.f_is_below.d ["value", "limit"] [] := X.f_is_below.F.bindsN fun _ _ _ _ _ _ us hl => match us, hl with | [_, _], _ => rfl
theorem b_need_mode (X : Fs K mg) : Binds K X.f_need_mode.d ["station", "mode"] [] := X.f_need_mode.F.bindsN fun _ _ _ _ _ _ us hl => match us, hl with | [_, _], _ => rfl
theorem b_need_line (X : Fs K mg) : Binds K X.f_need_line.d ["station", "mode", "nights"] [] := X.f_need_line.F.bindsN fun _ _ _ _ _ _ us hl => match us, hl with | [_, _, _], _ => rfl
theorem b_line_table (X : Fs K mg) : Binds K X.f_line_table.d ["station", "nights"] [] := X.f_line_table.F.bindsN fun _ _ _ _ _ _ us hl => match us, hl with | [_, _], _ => rfl
theorem b_is_held (X : Fs K mg) : Binds K X.f_is_held.d ["station", "line"] [] := X.f_is_held.F.bindsN fun _ _ _ _ _ _ us hl => match us, hl with | [_, _], _ => rfl
theorem b_held_table (X : Fs K mg) : Binds K X.f_held_table.d ["station", "mode", "nights"] [] := X.f_held_table.F.bindsN fun _ _ _ _ _ _ us hl => match us, hl with | [_, _, _], _ => rfl
theorem b_cell_at (X : Fs K mg) : Binds K X.f_cell_at.d ["station", "mode", "row"] [] := X.f_cell_at.F.bindsN fun _ _ _ _ _ _ us hl => match us, hl with | [_, _, _], _ => rfl
theorem b_cell_number (X : Fs K mg) : Binds K X.f_cell_number.d ["station", "mode", "cell"] [] := X.f_cell_number.F.bindsN fun _ _ _ _ _ _ us hl => match us, hl with | [_, _, _], _ => rfl
theorem b_moves_at (X : Fs K mg) : Binds K X.f_moves_at.d ["station", "mode", "row"] [] := X.f_moves_at.F.bindsN fun _ _ _ _ _ _ us hl => match us, hl with | [_, _, _], _ => rfl
theorem b_is_look (X : Fs K mg) : Binds K X.f_is_look.d ["station", "mode", "line"] [] := X.f_is_look.F.bindsN fun _ _ _ _ _ _ us hl => match us, hl with | [_, _, _], _ => rfl
theorem b_chain_steps (X : Fs K mg) : Binds K X.f_chain_steps.d ["station", "table", "mode", "nights"] [] := X.f_chain_steps.F.bindsN fun _ _ _ _ _ _ us hl => match us, hl with | [_, _, _, _], _ => rfl
theorem b_chain_paper (X : Fs K mg) : Binds K X.f_chain_paper.d ["station", "mode", "nights"] [] := X.f_chain_paper.F.bindsN fun _ _ _ _ _ _ us hl => match us, hl with | [_, _, _], _ => rfl
theorem b_is_paper (X : Fs K mg) : Binds K X.f_is_paper.d ["value", "many"] [] := X.f_is_paper.F.bindsN fun _ _ _ _ _ _ us hl => match us, hl with | [_, _], _ => rfl
theorem b_is_fate (X : Fs K mg) : Binds K X.f_is_fate.d ["station", "value"] [] := X.f_is_fate.F.bindsN fun _ _ _ _ _ _ us hl => match us, hl with | [_, _], _ => rfl
theorem b_chain_end (X : Fs K mg) : Binds K X.f_chain_end.d ["station", "table", "mode", "nights", "fate"] [] := X.f_chain_end.F.bindsN fun _ _ _ _ _ _ us hl => match us, hl with | [_, _, _, _, _], _ => rfl
theorem b_chain_holds (X : Fs K mg) : Binds K X.f_chain_holds.d ["station", "mode", "nights", "value"] [] := X.f_chain_holds.F.bindsN fun _ _ _ _ _ _ us hl => match us, hl with | [_, _, _, _], _ => rfl
theorem b_chain_layers (X : Fs K mg) : Binds K X.f_chain_layers.d ["station", "table", "mode", "nights"] [] := X.f_chain_layers.F.bindsN fun _ _ _ _ _ _ us hl => match us, hl with | [_, _, _, _], _ => rfl
theorem b_chain_count (X : Fs K mg) : Binds K X.f_chain_count.d ["station", "mode", "nights"] [] := X.f_chain_count.F.bindsN fun _ _ _ _ _ _ us hl => match us, hl with | [_, _, _], _ => rfl
theorem b_law_draw (X : Fs K mg) : Binds K X.f_law_draw.d ["box", "many"] [] := X.f_law_draw.F.bindsN fun _ _ _ _ _ _ us hl => match us, hl with | [_, _], _ => rfl
theorem b_law_pick (X : Fs K mg) : Binds K X.f_law_pick.d ["box", "some"] [] := X.f_law_pick.F.bindsN fun _ _ _ _ _ _ us hl => match us, hl with | [_, _], _ => rfl
theorem b_law_tells (X : Fs K mg) : Binds K X.f_law_tells.d ["value", "due"] [] := X.f_law_tells.F.bindsN fun _ _ _ _ _ _ us hl => match us, hl with | [_, _], _ => rfl
theorem b_is_sequence (X : Fs K mg) : Binds K X.f_is_sequence.d ["value"] [] := X.f_is_sequence.F.bindsN fun _ _ _ _ _ _ us hl => match us, hl with | [_], _ => rfl
theorem b_stores_wrong (X : Fs K mg) : Binds K X.f_stores_wrong.d ["floors", "caps"] [] := X.f_stores_wrong.F.bindsN fun _ _ _ _ _ _ us hl => match us, hl with | [_, _], _ => rfl
theorem b_is_row (X : Fs K mg) : Binds K X.f_is_row.d ["value", "many"] [] := X.f_is_row.F.bindsN fun _ _ _ _ _ _ us hl => match us, hl with | [_, _], _ => rfl
theorem b_are_thresholds (X : Fs K mg) : Binds K X.f_are_thresholds.d ["floor", "cap", "value"] [] := X.f_are_thresholds.F.bindsN fun _ _ _ _ _ _ us hl => match us, hl with | [_, _, _], _ => rfl
theorem b_is_move (X : Fs K mg) : Binds K X.f_is_move.d ["bounds", "modes", "value"] [] := X.f_is_move.F.bindsN fun _ _ _ _ _ _ us hl => match us, hl with | [_, _, _], _ => rfl
theorem b_is_mode (X : Fs K mg) : Binds K X.f_is_mode.d ["bounds", "letters", "modes", "value"] [] := X.f_is_mode.F.bindsN fun _ _ _ _ _ _ us hl => match us, hl with | [_, _, _, _], _ => rfl
theorem b_told_mode (X : Fs K mg) : Binds K X.f_told_mode.d ["mode"] [] := X.f_told_mode.F.bindsN fun _ _ _ _ _ _ us hl => match us, hl with | [_], _ => rfl
theorem b_Station_init (X : Fs K mg) : Binds K X.f_Station_init.d ["self", "floors", "caps", "letters", "modes"] [] := X.f_Station_init.F.bindsN fun _ _ _ _ _ _ us hl => match us, hl with | [_, _, _, _, _], _ => rfl
theorem b_law_made (X : Fs K mg) : Binds K X.f_law_made.d ["house"] [] := X.f_law_made.F.bindsN fun _ _ _ _ _ _ us hl => match us, hl with | [_], _ => rfl
theorem b_law_is_int (X : Fs K mg) : Binds K X.f_law_is_int.d ["value"] [] := X.f_law_is_int.F.bindsN fun _ _ _ _ _ _ us hl => match us, hl with | [_], _ => rfl
theorem b_law_same (X : Fs K mg) : Binds K X.f_law_same.d ["value", "due"] [] := X.f_law_same.F.bindsN fun _ _ _ _ _ _ us hl => match us, hl with | [_, _], _ => rfl
theorem b_law_near (X : Fs K mg) : Binds K X.f_law_near.d ["box", "size"] [] := X.f_law_near.F.bindsN fun _ _ _ _ _ _ us hl => match us, hl with | [_, _], _ => rfl
theorem b_law_plain (X : Fs K mg) : Binds K X.f_law_plain.d ["box"] [] := X.f_law_plain.F.bindsN fun _ _ _ _ _ _ us hl => match us, hl with | [_], _ => rfl
theorem b_law_sums (X : Fs K mg) : Binds K X.f_law_sums.d ["house", "nights"] [] := X.f_law_sums.F.bindsN fun _ _ _ _ _ _ us hl => match us, hl with | [_, _], _ => rfl
theorem b_law_shifts (X : Fs K mg) : Binds K X.f_law_shifts.d ["house", "mode", "fate"] [] := X.f_law_shifts.F.bindsN fun _ _ _ _ _ _ us hl => match us, hl with | [_, _, _], _ => rfl
theorem b_law_is_paper (X : Fs K mg) : Binds K X.f_law_is_paper.d ["house", "value", "line", "mode", "nights"] [] := X.f_law_is_paper.F.bindsN fun _ _ _ _ _ _ us hl => match us, hl with | [_, _, _, _, _], _ => rfl
theorem b_law_with_look (X : Fs K mg) : Binds K X.f_law_with_look.d ["box", "house", "lines", "nights"] [] := X.f_law_with_look.F.bindsN fun _ _ _ _ _ _ us hl => match us, hl with | [_, _, _, _], _ => rfl
theorem b_law_looking (X : Fs K mg) : Binds K X.f_law_looking.d ["box", "house", "lines", "counts", "nights"] [] := X.f_law_looking.F.bindsN fun _ _ _ _ _ _ us hl => match us, hl with | [_, _, _, _, _], _ => rfl
theorem b_law_once (X : Fs K mg) : Binds K X.f_law_once.d ["box"] [] := X.f_law_once.F.bindsN fun _ _ _ _ _ _ us hl => match us, hl with | [_], _ => rfl
theorem b_law (X : Fs K mg) : Binds K X.f_law.d ["script"] [] := X.f_law.F.bindsN fun _ _ _ _ _ _ us hl => match us, hl with | [_], _ => rfl
end
end ML
set_option Elab.async false
set_option linter.all false
set_option maxRecDepth 100000
set_option maxHeartbeats 0
namespace ML
open PySem PySem.Spec PyProof.Rows L2
section
variable {P : Program} {w : World} {K : PySem.W.Frag} {mg : Str → Option Value} {base : Heap}
theorem ok_law_box (X : Fs K mg) : FnOk P w K mg base CX0 1 X.f_law_box.a X.f_law_box.d ["script"] (spM ⟨K, w⟩ 1 (m_law_box X.c)) := by
  refine X.f_law_box.F.ok (k := 0) (N := N_law_box) sc_law_box (fun _ _ _ _ h => spM_len h) fun cdv A outer s H vs Q E hr h => ?_
  have hv := hv_of hr
  exact ⟨_, PSs.nox ((pss_cons (ps_setLc (i := 1) (own := [("cell", 3)]) (g := (gName 3)) rfl sc_law_box.nd rfl rfl (sw_true rfl rfl rfl (by decide +kernel)) (pi_seqE (pe_slice sl_U (pv 0) po_none (po_some pe_int))) (blkOk_by (N := N_law_box) (sc := defScope s_law_box) (by decide +kernel)) (fun _ _ _ _ _ => (pg_name (i := 3) sc_law_box.nd rfl (by first | exact Or.inl rfl | exact Or.inr rfl))) (fun _ _ _ _ _ => pts_nil) (fun _ _ _ _ _ => (pe_callB call_abs rfl X.z_abs bt_abs (pa_cons (pe_callTy call_int1 rfl X.z_int bt_int (pa_cons (pv 3) pa_nil)) pa_nil))))
 (pss_cons (ps_set (i := 2) sc_law_box.nd rfl (by first | exact Or.inl rfl | exact Or.inr rfl) pe_int)
 (pss_cons (ps_for PassesOwn.never rfl (pi_seqE (pv 1)) (pg_name (i := 3) sc_law_box.nd rfl (by first | exact Or.inl rfl | exact Or.inr rfl))
 (pss_one (ps_set (i := 2) sc_law_box.nd rfl (by first | exact Or.inl rfl | exact Or.inr rfl) (pe_op op_mod (pe_callTy call_int1 rfl X.z_int bt_int (pa_cons (pe_op op_addU (pe_op op_addU (pe_op op_mulW (pv 2) pe_int) (pe_op op_mod (pe_callTy call_int1 rfl X.z_int bt_int (pa_cons (pv 3) pa_nil)) pe_int)) pe_int) pa_nil)) pe_int))))
 (pss_one (ps_ret (pe_lst (pa_cons (pe_lc (own := [("cell", 3)]) (g := (gName 3)) rfl sc_law_box.nd (pi_seqE (pv 1)) (blkOk_by (N := N_law_box) (sc := defScope s_law_box) (by decide +kernel)) (fun _ _ _ _ _ => (pg_name (i := 3) sc_law_box.nd rfl (by first | exact Or.inl rfl | exact Or.inr rfl))) (fun _ _ _ _ _ => (pts_one (pt_cmpR op_ge (pv 3) (pe_op op_pow pe_int pe_int) (nomark _)))) (fun _ _ _ _ _ => (pv 3))) (pa_cons (pv 2) pa_nil))))))))),
   body_ok (n := 1) (k := 3) rfl h ((es_seq (es_asg (ee_frz (eo_lc (vs := [3]) (ei_seq (ee_sl (ee_var (i := 0)) eo_no (eo_part (ee_c rfl)))) (eg_name (i := 3)) (by decide) et_yes (ee_cb (ea_cons (ee_cb (ea_cons (ee_var (i := 3)) ea_nil) rc_int) ea_nil) rc_abs))) (eg_name (i := 1)))
 (es_seq (es_asg (ee_c rfl) (eg_name (i := 2)))
 (es_seq (es_for (ei_seq (ee_var (i := 1))) (eg_name (i := 3))
 (es_asg (ee_op (ee_cb (ea_cons (ee_op (ee_op (ee_op (ee_var (i := 2)) (ee_c rfl) rd_mul) (ee_op (ee_cb (ea_cons (ee_var (i := 3)) ea_nil) rc_int) (ee_c rfl) rd_mod) rd_add) (ee_c rfl) rd_add) ea_nil) rc_int) (ee_c rfl) rd_mod) (eg_name (i := 2))))
 (es_ret (ee_out (eo_lst (ea_cons (ee_out (eo_lc (vs := [3]) (ei_seq (ee_var (i := 1))) (eg_name (i := 3)) (by decide) (et_test (ee_op (ee_var (i := 3)) (ee_op (ee_c rfl) (ee_c rfl) rd_pow) rd_B0)) (ee_var (i := 3)))) (ea_cons (ee_var (i := 2)) ea_nil)))))))))⟩
theorem ok_is_integer (X : Fs K mg) : FnOk P w K mg base CX0 1 X.f_is_integer.a X.f_is_integer.d ["value"] (spM ⟨K, w⟩ 1 (m_is_integer X.c)) := by
  refine X.f_is_integer.F.ok (k := 0) (N := N_is_integer) sc_is_integer (fun _ _ _ _ h => spM_len h) fun cdv A outer s H vs Q E hr h => ?_
  have hv := hv_of hr
  exact ⟨_, PSs.nox ((pss_one (ps_ret (pe_and (pe_callB call_isi rfl X.z_isinstance bt_isinstance (pa_cons (pv 0) (pa_cons (pe_bltn (v := .ty "int") rfl X.z_int bt_int rfl) pa_nil))) (pe_one (pe_not (pe_callB call_isi rfl X.z_isinstance bt_isinstance (pa_cons (pv 0) (pa_cons (pe_bltn (v := .ty "bool") rfl X.z_bool bt_bool rfl) pa_nil))))))))),
   body_ok (n := 1) (k := 0) rfl h ((es_ret (ee_andV (ee_isi (c := "int") (ee_var (i := 0)) (by decide)) (ee_notV (ee_isi (c := "bool") (ee_var (i := 0)) (by decide))))))⟩
theorem ok_is_between (X : Fs K mg) : FnOk P w K mg base CX0 2 X.f_is_between.a X.f_is_between.d ["value", "least", "greatest"] (spM ⟨K, w⟩ 3 (m_is_between X.c)) := by
  refine X.f_is_between.F.ok (k := 1) (N := N_is_between) sc_is_between (fun _ _ _ _ h => spM_len h) fun cdv A outer s H vs Q E hr h => ?_
  have hv := hv_of hr
  exact ⟨_, PSs.nox ((pss_one (ps_ret (pe_and (pe_call (ok_is_integer X) (hr.mono (by omega)) rfl X.g_is_integer X.f_is_integer.F.kp (b_is_integer X) .nil pass0 (pa_cons (pv 0) pa_nil)) (pe_one (pe_chain op_le op_le (pv 1) (pv 0) (pv 2))))))),
   body_ok (n := 3) (k := 0) rfl h ((es_ret (ee_andV (ee_call (ea_cons (ee_var (i := 0)) ea_nil)) (ee_chain (ee_var (i := 1)) (ee_var (i := 0)) (ee_var (i := 2)) rd_B0 rd_B0))))⟩
theorem ok_need_station (X : Fs K mg) : FnOk P w K mg base CX0 1 X.f_need_station.a X.f_need_station.d ["station", "at"] (spM ⟨K, w⟩ 2 (m_need_station X.c)) := by
  refine X.f_need_station.F.ok (k := 0) (N := N_need_station) sc_need_station (fun _ _ _ _ h => spM_len h) fun cdv A outer s H vs Q E hr h => ?_
  have hv := hv_of hr
  exact ⟨_, PSs.nox ((pss_one (ps_if (pt_not (pt_truth (pe_callB call_isi rfl X.z_isinstance bt_isinstance (pa_cons (pv 0) (pa_cons (pe_glob (v := .ref X.c.Station) rfl X.g_Station rfl) pa_nil))) (by intro _; rfl)))
 pss_never
 pss_nil))),
   body_ok (n := 2) (k := 0) rfl h ((es_ifS (et_not (et_tru (ee_isiC (ee_var (i := 0)) X.C_Station)))
 es_never
 es_next))⟩
theorem ok_need_one_store (X : Fs K mg) : FnOk P w K mg base CX0 2 X.f_need_one_store.a X.f_need_one_store.d ["station"] (spM ⟨K, w⟩ 1 (m_need_one_store X.c)) := by
  obtain ⟨ds_need_station_1, bv_need_station_1, b_need_station_1⟩ := bd_need_station_1 X
  refine X.f_need_one_store.F.ok (k := 1) (N := N_need_one_store) sc_need_one_store (fun _ _ _ _ h => spM_len h) fun cdv A outer s H vs Q E hr h => ?_
  have hv := hv_of hr
  exact ⟨_, PSs.nox ((pss_cons (ps_expr (pe_call (ok_need_station X) (hr.mono (by omega)) rfl X.g_need_station X.f_need_station.F.kp b_need_station_1 bv_need_station_1 pass0 (pa_cons (pv 0) pa_nil)))
 (pss_one (ps_if (pt_cmpR (op_neM hv) (pe_callB call_len_seq rfl X.z_len bt_len (pa_cons (pe_fld (pv 0) rfl) pa_nil)) pe_int (nomark _))
 pss_never
 pss_nil)))),
   body_ok (n := 1) (k := 0) rfl h ((es_seq (es_drop (ee_callD (ea_cons (ee_var (i := 0)) ea_nil) (fun N => dv_need_station_1 (N := N))))
 (es_ifS (et_test (ee_op (ee_cb (ea_cons (ee_fld (ee_var (i := 0)) X.C_Station.cl X.n_Station_floors) ea_nil) rc_len) (ee_c rfl) rd_ne))
 es_never
 es_next)))⟩
theorem ok_first_lines (X : Fs K mg) : FnOk P w K mg base CX0 1 X.f_first_lines.a X.f_first_lines.d ["station"] (spM ⟨K, w⟩ 1 (m_first_lines X.c)) := by
  refine X.f_first_lines.F.ok (k := 0) (N := N_first_lines) sc_first_lines (fun _ _ _ _ h => spM_len h) fun cdv A outer s H vs Q E hr h => ?_
  have hv := hv_of hr
  exact ⟨_, PSs.nox ((pss_one (ps_ret (pe_callTy call_tuple_of rfl X.z_tuple bt_tuple (pa_cons (pe_lc (own := [("mode", 1)]) (g := (gName 1)) rfl sc_first_lines.nd (pi_seqE (pe_fld (pv 0) rfl)) (blkOk_by (N := N_first_lines) (sc := defScope s_first_lines) (by decide +kernel)) (fun _ _ _ _ _ => (pg_name (i := 1) sc_first_lines.nd rfl (by first | exact Or.inl rfl | exact Or.inr rfl))) (fun _ _ _ _ _ => pts_nil) (fun _ _ _ _ _ => (pe_ixU hv (pe_fld (pv 0) rfl) pe_int (by intro _ _; rfl)))) pa_nil))))),
   body_ok (n := 1) (k := 1) rfl h ((es_ret (ee_cb (ea_cons (ee_frz (eo_lc (vs := [1]) (ei_seq (ee_fld (ee_var (i := 0)) X.C_Station.cl X.n_Station_modes)) (eg_name (i := 1)) (by decide) et_yes (ee_ixU (ee_fld (ee_var (i := 0)) X.C_Station.cl X.n_Station_floors) (ee_c rfl)))) ea_nil) rc_tuple)))⟩
theorem ok_stretch_ends (X : Fs K mg) : FnOk P w K mg base CX0 1 X.f_stretch_ends.a X.f_stretch_ends.d ["station", "mode"] (spM ⟨K, w⟩ 2 (m_stretch_ends X.c)) := by
  refine X.f_stretch_ends.F.ok (k := 0) (N := N_stretch_ends) sc_stretch_ends (fun _ _ _ _ h => spM_len h) fun cdv A outer s H vs Q E hr h => ?_
  have hv := hv_of hr
  exact ⟨_, PSs.nox ((pss_cons (ps_set (i := 2) sc_stretch_ends.nd rfl (by first | exact Or.inl rfl | exact Or.inr rfl) (pe_op op_addU (pe_op op_addU (pe_tup (pa_cons (pe_ixU hv (pe_fld (pv 0) rfl) pe_int (by intro _ _; rfl)) pa_nil)) (pe_ixU hv (pe_ixU hv (pe_ixU hv (pe_fld (pv 0) rfl) (pv 1) (by intro _ _; rfl)) pe_int (by intro _ _; rfl)) pe_int (by intro _ _; rfl))) (pe_tup (pa_cons (pe_op op_addU (pe_ixU hv (pe_fld (pv 0) rfl) pe_int (by intro _ _; rfl)) pe_int) pa_nil))))
 (pss_one (ps_ret (pe_listZip rfl X.z_list rfl X.z_zip (pa_cons (pv 2) (pa_cons (pe_slice sl_U (pv 2) (po_some pe_int) po_none) pa_nil))))))),
   body_ok (n := 2) (k := 1) rfl h ((es_seq (es_asg (ee_op (ee_op (ee_tup (ea_cons (ee_ixU (ee_fld (ee_var (i := 0)) X.C_Station.cl X.n_Station_floors) (ee_c rfl)) ea_nil)) (ee_ixU (ee_ixU (ee_ixU (ee_fld (ee_var (i := 0)) X.C_Station.cl X.n_Station_modes) (ee_var (i := 1))) (ee_c rfl)) (ee_c rfl)) rd_add) (ee_tup (ea_cons (ee_op (ee_ixU (ee_fld (ee_var (i := 0)) X.C_Station.cl X.n_Station_caps) (ee_c rfl)) (ee_c rfl) rd_add) ea_nil)) rd_add) (eg_name (i := 2)))
 (es_ret (ee_listZip (ea_cons (ee_var (i := 2)) (ea_cons (ee_sl (ee_var (i := 2)) (eo_part (ee_c rfl)) eo_no) ea_nil))))))⟩
theorem ok_ask_of (X : Fs K mg) : FnOk P w K mg base CX0 1 X.f_ask_of.a X.f_ask_of.d ["station", "lines", "move"] (spM ⟨K, w⟩ 3 (m_ask_of X.c)) := by
  refine X.f_ask_of.F.ok (k := 0) (N := N_ask_of) sc_ask_of (fun _ _ _ _ h => spM_len h) fun cdv A outer s H vs Q E hr h => ?_
  have hv := hv_of hr
  exact ⟨_, PSs.nox ((pss_cons (ps_set (i := 3) sc_ask_of.nd rfl (by first | exact Or.inl rfl | exact Or.inr rfl) (pe_ixU hv (pv 1) (pe_ixU hv (pv 2) pe_int (by intro _ _; rfl)) (by intro _ _; rfl)))
 (pss_cons (ps_if (pt_cmpR op_gt (pv 3) (pe_ixU hv (pe_fld (pv 0) rfl) pe_int (by intro _ _; rfl)) (nomark _))
 (pss_one (ps_ret pe_non))
 pss_nil)
 (pss_cons (ps_asg (pe_ixU hv (pe_ixU hv (pv 2) pe_int (by intro _ _; rfl)) pe_int (by intro _ _; rfl)) (pg_tupU (n := 2) rfl (pgs_cons (pg_name (i := 4) sc_ask_of.nd rfl (by first | exact Or.inl rfl | exact Or.inr rfl)) (pgs_cons (pg_name (i := 5) sc_ask_of.nd rfl (by first | exact Or.inl rfl | exact Or.inr rfl)) pgs_nil))))
 (pss_cons (ps_if (pt_cmpR op_ge (pv 5) (pv 3) (nomark _))
 (pss_one (ps_ret (pe_op op_sub (pe_ixU hv (pe_fld (pv 0) rfl) pe_int (by intro _ _; rfl)) (pv 4))))
 pss_nil)
 (pss_one (ps_ret (pe_op op_sub (pv 3) (pv 4))))))))),
   body_ok (n := 3) (k := 3) rfl h ((es_seq (es_asg (ee_ixV (i := 1) (ee_ixV (i := 2) (ee_c rfl))) (eg_name (i := 3)))
 (es_seq (es_ifS (et_test (ee_op (ee_var (i := 3)) (ee_ixU (ee_fld (ee_var (i := 0)) X.C_Station.cl X.n_Station_caps) (ee_c rfl)) rd_B0))
 (es_ret (ee_c rfl))
 es_next)
 (es_seq (es_asg (ee_ixU (ee_ixV (i := 2) (ee_c rfl)) (ee_c rfl)) (eg_tup (n := 2) (eg_cons (eg_name (i := 4)) (eg_cons (eg_name (i := 5)) eg_nil))))
 (es_seq (es_ifS (et_test (ee_op (ee_var (i := 5)) (ee_var (i := 3)) rd_B0))
 (es_ret (ee_op (ee_ixU (ee_fld (ee_var (i := 0)) X.C_Station.cl X.n_Station_floors) (ee_c rfl)) (ee_var (i := 4)) rd_I0))
 es_next)
 (es_ret (ee_op (ee_var (i := 3)) (ee_var (i := 4)) rd_I0)))))))⟩
theorem ok_asks_of (X : Fs K mg) : FnOk P w K mg base CX0 2 X.f_asks_of.a X.f_asks_of.d ["station", "lines", "mode"] (spM ⟨K, w⟩ 3 (m_asks_of X.c)) := by
  refine X.f_asks_of.F.ok (k := 1) (N := N_asks_of) sc_asks_of (fun _ _ _ _ h => spM_len h) fun cdv A outer s H vs Q E hr h => ?_
  have hv := hv_of hr
  exact ⟨_, PSs.nox ((pss_cons (ps_set (i := 3) sc_asks_of.nd rfl (by first | exact Or.inl rfl | exact Or.inr rfl) (pe_lst pa_nil))
 (pss_cons (ps_for PassesOwn.never rfl (pi_zipB rfl X.z_zip (pa_cons (pe_call (ok_stretch_ends X) (hr.mono (by omega)) rfl X.g_stretch_ends X.f_stretch_ends.F.kp (b_stretch_ends X) .nil pass0 (pa_cons (pv 0) (pa_cons (pv 2) pa_nil))) (pa_cons (pe_ixU hv (pe_ixU hv (pe_fld (pv 0) rfl) (pv 2) (by intro _ _; rfl)) pe_int (by intro _ _; rfl)) pa_nil))) (pg_tupU (n := 2) rfl (pgs_cons (pg_tupU (n := 2) rfl (pgs_cons (pg_name (i := 4) sc_asks_of.nd rfl (by first | exact Or.inl rfl | exact Or.inr rfl)) (pgs_cons (pg_name (i := 5) sc_asks_of.nd rfl (by first | exact Or.inl rfl | exact Or.inr rfl)) pgs_nil))) (pgs_cons (pg_name (i := 6) sc_asks_of.nd rfl (by first | exact Or.inl rfl | exact Or.inr rfl)) pgs_nil)))
 (pss_cons (ps_setLc (i := 7) (own := [("move", 8)]) (g := (gName 8)) rfl sc_asks_of.nd rfl rfl (sw_true rfl rfl rfl (by decide +kernel)) (pi_seqE (pv 6)) (blkOk_by (N := N_asks_of) (sc := defScope s_asks_of) (by decide +kernel)) (fun _ _ _ _ _ => (pg_name (i := 8) sc_asks_of.nd rfl (by first | exact Or.inl rfl | exact Or.inr rfl))) (fun _ _ _ _ _ => pts_nil) (fun _ _ _ _ _ => (pe_call (ok_ask_of X) (hr.mono (by omega)) rfl X.g_ask_of X.f_ask_of.F.kp (b_ask_of X) .nil pass0 (pa_cons (pv 0) (pa_cons (pv 1) (pa_cons (pv 8) pa_nil))))))
 (pss_one (ps_expr (pe_bm PySem.F.plainAttrs_list PySem.F.slot_list_append PySem.F.type_list_append mt_append (pv 3) (pa_cons (pe_tup (pa_cons (pv 4) (pa_cons (pv 5) (pa_cons (pe_ifExp (pt_inV hv pe_non (pv 7) (by with_unfolding_all rfl)) pe_non (pe_callB (cr_max rfl) rfl X.z_max bt_max (pa_cons (pv 7) pa_nil))) pa_nil)))) pa_nil))))))
 (pss_one (ps_ret (pv 3)))))),
   body_ok (n := 3) (k := 6) rfl h ((es_seq (es_own (i := 3) (eo_lst ea_nil))
 (es_seq (es_for (ei_zip (ea_cons (ee_call (ea_cons (ee_var (i := 0)) (ea_cons (ee_var (i := 2)) ea_nil))) (ea_cons (ee_ixU (ee_ixU (ee_fld (ee_var (i := 0)) X.C_Station.cl X.n_Station_modes) (ee_var (i := 2))) (ee_c rfl)) ea_nil))) (eg_tup (n := 2) (eg_cons (eg_tup (n := 2) (eg_cons (eg_name (i := 4)) (eg_cons (eg_name (i := 5)) eg_nil))) (eg_cons (eg_name (i := 6)) eg_nil)))
 (es_seq (es_asg (ee_frz (eo_lc (vs := [8]) (ei_seq (ee_var (i := 6))) (eg_name (i := 8)) (by decide) et_yes (ee_call (ea_cons (ee_var (i := 0)) (ea_cons (ee_var (i := 1)) (ea_cons (ee_var (i := 8)) ea_nil)))))) (eg_name (i := 7)))
 (es_drop (ee_appV (i := 3) (ee_tup (ea_cons (ee_var (i := 4)) (ea_cons (ee_var (i := 5)) (ea_cons (ee_if (et_test (ee_inV (ee_c rfl) (ee_var (i := 7)))) (ee_c rfl) (ee_cb (ea_cons (ee_var (i := 7)) ea_nil) rc_maxL)) ea_nil))))))))
 (es_ret (ee_var (i := 3))))))⟩
theorem ok_sure_step (X : Fs K mg) : FnOk P w K mg base CX0 3 X.f_sure_step.a X.f_sure_step.d ["station", "lines"] (spM ⟨K, w⟩ 2 (m_sure_step X.c)) := by
  refine X.f_sure_step.F.ok (k := 2) (N := N_sure_step) sc_sure_step (fun _ _ _ _ h => spM_len h) fun cdv A outer s H vs Q E hr h => ?_
  have hv := hv_of hr
  exact ⟨_, PSs.nox ((pss_cons (ps_set (i := 2) sc_sure_step.nd rfl (by first | exact Or.inl rfl | exact Or.inr rfl) (pe_lst pa_nil))
 (pss_cons (ps_for PassesOwn.never rfl (pi_range1 rfl X.z_range (pa_cons (pe_callB call_len_seq rfl X.z_len bt_len (pa_cons (pe_fld (pv 0) rfl) pa_nil)) pa_nil)) (pg_name (i := 3) sc_sure_step.nd rfl (by first | exact Or.inl rfl | exact Or.inr rfl))
 (pss_cons (ps_set (i := 4) sc_sure_step.nd rfl (by first | exact Or.inl rfl | exact Or.inr rfl) (pe_ixU hv (pe_fld (pv 0) rfl) pe_int (by intro _ _; rfl)))
 (pss_cons (ps_for PassesOwn.never rfl (pi_seqE (pe_call (ok_asks_of X) (hr.mono (by omega)) rfl X.g_asks_of X.f_asks_of.F.kp (b_asks_of X) .nil pass0 (pa_cons (pv 0) (pa_cons (pv 1) (pa_cons (pv 3) pa_nil))))) (pg_tupU (n := 3) rfl (pgs_cons (pg_name (i := 5) sc_sure_step.nd rfl (by first | exact Or.inl rfl | exact Or.inr rfl)) (pgs_cons (pg_name (i := 6) sc_sure_step.nd rfl (by first | exact Or.inl rfl | exact Or.inr rfl)) (pgs_cons (pg_name (i := 7) sc_sure_step.nd rfl (by first | exact Or.inl rfl | exact Or.inr rfl)) pgs_nil))))
 (pss_one (ps_if (pt_cmpR op_isU (pv 7) pe_non (nomark _))
 (pss_one (ps_set (i := 4) sc_sure_step.nd rfl (by first | exact Or.inl rfl | exact Or.inr rfl) (pv 6)))
 (pss_one (ps_if (pt_cmpR op_gt (pv 7) (pv 5) (nomark _))
 (pss_one (ps_set (i := 4) sc_sure_step.nd rfl (by first | exact Or.inl rfl | exact Or.inr rfl) (pe_callB (call_min2 rfl) rfl X.z_min bt_min (pa_cons (pv 6) (pa_cons (pv 7) pa_nil)))))
 pss_nil)))))
 (pss_one (ps_expr (pe_bm PySem.F.plainAttrs_list PySem.F.slot_list_append PySem.F.type_list_append mt_append (pv 2) (pa_cons (pv 4) pa_nil)))))))
 (pss_one (ps_ret (pe_callTy call_tuple_of rfl X.z_tuple bt_tuple (pa_cons (pv 2) pa_nil))))))),
   body_ok (n := 2) (k := 6) rfl h ((es_seq (es_own (i := 2) (eo_lst ea_nil))
 (es_seq (es_for (ei_rng1 (ea_cons (ee_cb (ea_cons (ee_fld (ee_var (i := 0)) X.C_Station.cl X.n_Station_modes) ea_nil) rc_len) ea_nil)) (eg_name (i := 3))
 (es_seq (es_asg (ee_ixU (ee_fld (ee_var (i := 0)) X.C_Station.cl X.n_Station_floors) (ee_c rfl)) (eg_name (i := 4)))
 (es_seq (es_for (ei_seq (ee_call (ea_cons (ee_var (i := 0)) (ea_cons (ee_var (i := 1)) (ea_cons (ee_var (i := 3)) ea_nil))))) (eg_tup (n := 3) (eg_cons (eg_name (i := 5)) (eg_cons (eg_name (i := 6)) (eg_cons (eg_name (i := 7)) eg_nil))))
 (es_ifS (et_test (ee_op (ee_var (i := 7)) (ee_c rfl) rd_is))
 (es_asg (ee_var (i := 6)) (eg_name (i := 4)))
 (es_ifS (et_test (ee_op (ee_var (i := 7)) (ee_var (i := 5)) rd_B0))
 (es_asg (ee_cb (ea_cons (ee_var (i := 6)) (ea_cons (ee_var (i := 7)) ea_nil)) rc_min2) (eg_name (i := 4)))
 es_next)))
 (es_drop (ee_appV (i := 2) (ee_var (i := 4)))))))
 (es_ret (ee_cb (ea_cons (ee_var (i := 2)) ea_nil) rc_tuple)))))⟩
theorem ok_sure_lines (X : Fs K mg) : FnOk P w K mg base CX0 4 X.f_sure_lines.a X.f_sure_lines.d ["station", "nights"] (spM ⟨K, w⟩ 2 (m_sure_lines X.c)) := by
  refine X.f_sure_lines.F.ok (k := 3) (N := N_sure_lines) sc_sure_lines (fun _ _ _ _ h => spM_len h) fun cdv A outer s H vs Q E hr h => ?_
  have hv := hv_of hr
  exact ⟨_, PSs.nox ((pss_cons (ps_expr (pe_call (ok_need_one_store X) (hr.mono (by omega)) rfl X.g_need_one_store X.f_need_one_store.F.kp (b_need_one_store X) .nil pass0 (pa_cons (pv 0) pa_nil)))
 (pss_cons (ps_if (pt_not (pt_truth (pe_call (ok_is_between X) (hr.mono (by omega)) rfl X.g_is_between X.f_is_between.F.kp (b_is_between X) .nil pass0 (pa_cons (pv 1) (pa_cons pe_int (pa_cons (pe_glob (v := (.int 400)) rfl X.k_MOST_NIGHTS_ever.choose_spec ⟨_, rfl⟩) pa_nil)))) (by intro _; rfl)))
 pss_never
 pss_nil)
 (pss_cons (ps_set (i := 2) sc_sure_lines.nd rfl (by first | exact Or.inl rfl | exact Or.inr rfl) (pe_call (ok_first_lines X) (hr.mono (by omega)) rfl X.g_first_lines X.f_first_lines.F.kp (b_first_lines X) .nil pass0 (pa_cons (pv 0) pa_nil)))
 (pss_cons (ps_for PassesOwn.never rfl (pi_range1 rfl X.z_range (pa_cons (pv 1) pa_nil)) (pg_name (i := 3) sc_sure_lines.nd rfl (by first | exact Or.inl rfl | exact Or.inr rfl))
 (pss_one (ps_set (i := 2) sc_sure_lines.nd rfl (by first | exact Or.inl rfl | exact Or.inr rfl) (pe_call (ok_sure_step X) (hr.mono (by omega)) rfl X.g_sure_step X.f_sure_step.F.kp (b_sure_step X) .nil pass0 (pa_cons (pv 0) (pa_cons (pv 2) pa_nil))))))
 (pss_one (ps_ret (pv 2)))))))),
   body_ok (n := 2) (k := 2) rfl h ((es_seq (es_drop (ee_call (ea_cons (ee_var (i := 0)) ea_nil)))
 (es_seq (es_ifS (et_not (et_tru (ee_call (ea_cons (ee_var (i := 1)) (ea_cons (ee_c rfl) (ea_cons (ee_c rfl) ea_nil))))))
 es_never
 es_next)
 (es_seq (es_asg (ee_call (ea_cons (ee_var (i := 0)) ea_nil)) (eg_name (i := 2)))
 (es_seq (es_for (ei_rng1 (ea_cons (ee_var (i := 1)) ea_nil)) (eg_name (i := 3))
 (es_asg (ee_call (ea_cons (ee_var (i := 0)) (ea_cons (ee_var (i := 2)) ea_nil))) (eg_name (i := 2))))
 (es_ret (ee_var (i := 2))))))))⟩
theorem ok_is_below (X : Fs K mg) : FnOk P w K mg base CX0 2 X.f_is_below.a X.f_is_below.d ["value", "limit"] (spM ⟨K, w⟩ 2 (m_is_below X.c)) := by
  refine X.f_is_below.F.ok (k := 1) (N := N_is_below) sc_is_below (fun _ _ _ _ h => spM_len h) fun cdv A outer s H vs Q E hr h => ?_
  have hv := hv_of hr
  exact ⟨_, PSs.nox ((pss_one (ps_ret (pe_and (pe_call (ok_is_integer X) (hr.mono (by omega)) rfl X.g_is_integer X.f_is_integer.F.kp (b_is_integer X) .nil pass0 (pa_cons (pv 0) pa_nil)) (pe_one (pe_chain op_le op_lt pe_int (pv 0) (pv 1))))))),
   body_ok (n := 2) (k := 0) rfl h ((es_ret (ee_andV (ee_call (ea_cons (ee_var (i := 0)) ea_nil)) (ee_chain (ee_c rfl) (ee_var (i := 0)) (ee_var (i := 1)) rd_B0 rd_B0))))⟩
theorem ok_need_mode (X : Fs K mg) : FnOk P w K mg base CX0 3 X.f_need_mode.a X.f_need_mode.d ["station", "mode"] (spM ⟨K, w⟩ 2 (m_need_mode X.c)) := by
  refine X.f_need_mode.F.ok (k := 2) (N := N_need_mode) sc_need_mode (fun _ _ _ _ h => spM_len h) fun cdv A outer s H vs Q E hr h => ?_
  have hv := hv_of hr
  exact ⟨_, PSs.nox ((pss_one (ps_if (pt_not (pt_truth (pe_call (ok_is_below X) (hr.mono (by omega)) rfl X.g_is_below X.f_is_below.F.kp (b_is_below X) .nil pass0 (pa_cons (pv 1) (pa_cons (pe_callB call_len_seq rfl X.z_len bt_len (pa_cons (pe_fld (pv 0) rfl) pa_nil)) pa_nil))) (by intro _; rfl)))
 pss_never
 pss_nil))),
   body_ok (n := 2) (k := 0) rfl h ((es_ifS (et_not (et_tru (ee_call (ea_cons (ee_var (i := 1)) (ea_cons (ee_cb (ea_cons (ee_fld (ee_var (i := 0)) X.C_Station.cl X.n_Station_modes) ea_nil) rc_len) ea_nil)))))
 es_never
 es_next))⟩
theorem ok_need_line (X : Fs K mg) : FnOk P w K mg base CX0 4 X.f_need_line.a X.f_need_line.d ["station", "mode", "nights"] (spM ⟨K, w⟩ 3 (m_need_line X.c)) := by
  refine X.f_need_line.F.ok (k := 3) (N := N_need_line) sc_need_line (fun _ _ _ _ h => spM_len h) fun cdv A outer s H vs Q E hr h => ?_
  have hv := hv_of hr
  exact ⟨_, PSs.nox ((pss_cons (ps_expr (pe_call (ok_need_one_store X) (hr.mono (by omega)) rfl X.g_need_one_store X.f_need_one_store.F.kp (b_need_one_store X) .nil pass0 (pa_cons (pv 0) pa_nil)))
 (pss_cons (ps_expr (pe_call (ok_need_mode X) (hr.mono (by omega)) rfl X.g_need_mode X.f_need_mode.F.kp (b_need_mode X) .nil pass0 (pa_cons (pv 0) (pa_cons (pv 1) pa_nil))))
 (pss_one (ps_if (pt_not (pt_truth (pe_call (ok_is_between X) (hr.mono (by omega)) rfl X.g_is_between X.f_is_between.F.kp (b_is_between X) .nil pass0 (pa_cons (pv 2) (pa_cons pe_int (pa_cons (pe_glob (v := (.int 400)) rfl X.k_MOST_NIGHTS_props.choose_spec ⟨_, rfl⟩) pa_nil)))) (by intro _; rfl)))
 pss_never
 pss_nil))))),
   body_ok (n := 3) (k := 0) rfl h ((es_seq (es_drop (ee_call (ea_cons (ee_var (i := 0)) ea_nil)))
 (es_seq (es_drop (ee_call (ea_cons (ee_var (i := 0)) (ea_cons (ee_var (i := 1)) ea_nil))))
 (es_ifS (et_not (et_tru (ee_call (ea_cons (ee_var (i := 2)) (ea_cons (ee_c rfl) (ea_cons (ee_c rfl) ea_nil))))))
 es_never
 es_next))))⟩
theorem ok_line_table (X : Fs K mg) : FnOk P w K mg base CX0 4 X.f_line_table.a X.f_line_table.d ["station", "nights"] (spM ⟨K, w⟩ 2 (m_line_table X.c)) := by
  refine X.f_line_table.F.ok (k := 3) (N := N_line_table) sc_line_table (fun _ _ _ _ h => spM_len h) fun cdv A outer s H vs Q E hr h => ?_
  have hv := hv_of hr
  exact ⟨_, PSs.nox ((pss_cons (ps_set (i := 2) sc_line_table.nd rfl (by first | exact Or.inl rfl | exact Or.inr rfl) (pe_lst (pa_cons (pe_call (ok_first_lines X) (hr.mono (by omega)) rfl X.g_first_lines X.f_first_lines.F.kp (b_first_lines X) .nil pass0 (pa_cons (pv 0) pa_nil)) pa_nil)))
 (pss_cons (ps_for PassesOwn.never rfl (pi_range1 rfl X.z_range (pa_cons (pv 1) pa_nil)) (pg_name (i := 3) sc_line_table.nd rfl (by first | exact Or.inl rfl | exact Or.inr rfl))
 (pss_one (ps_expr (pe_bm PySem.F.plainAttrs_list PySem.F.slot_list_append PySem.F.type_list_append mt_append (pv 2) (pa_cons (pe_call (ok_sure_step X) (hr.mono (by omega)) rfl X.g_sure_step X.f_sure_step.F.kp (b_sure_step X) .nil pass0 (pa_cons (pv 0) (pa_cons (pe_ixU hv (pv 2) (pe_un un_neg pe_int) (by intro _ _; rfl)) pa_nil))) pa_nil)))))
 (pss_one (ps_ret (pv 2)))))),
   body_ok (n := 2) (k := 2) rfl h ((es_seq (es_own (i := 2) (eo_lst (ea_cons (ee_call (ea_cons (ee_var (i := 0)) ea_nil)) ea_nil)))
 (es_seq (es_for (ei_rng1 (ea_cons (ee_var (i := 1)) ea_nil)) (eg_name (i := 3))
 (es_drop (ee_appV (i := 2) (ee_call (ea_cons (ee_var (i := 0)) (ea_cons (ee_ixV (i := 2) (ee_un (ee_c rfl) ru_U)) ea_nil))))))
 (es_ret (ee_var (i := 2))))))⟩
theorem ok_is_held (X : Fs K mg) : FnOk P w K mg base CX0 1 X.f_is_held.a X.f_is_held.d ["station", "line"] (spM ⟨K, w⟩ 2 (m_is_held X.c)) := by
  refine X.f_is_held.F.ok (k := 0) (N := N_is_held) sc_is_held (fun _ _ _ _ h => spM_len h) fun cdv A outer s H vs Q E hr h => ?_
  have hv := hv_of hr
  exact ⟨_, PSs.nox ((pss_one (ps_ret (pe_chain op_lt op_le (pe_ixU hv (pe_fld (pv 0) rfl) pe_int (by intro _ _; rfl)) (pv 1) (pe_ixU hv (pe_fld (pv 0) rfl) pe_int (by intro _ _; rfl)))))),
   body_ok (n := 2) (k := 0) rfl h ((es_ret (ee_chain (ee_ixU (ee_fld (ee_var (i := 0)) X.C_Station.cl X.n_Station_floors) (ee_c rfl)) (ee_var (i := 1)) (ee_ixU (ee_fld (ee_var (i := 0)) X.C_Station.cl X.n_Station_caps) (ee_c rfl)) rd_B0 rd_B0)))⟩
theorem ok_held_table (X : Fs K mg) : FnOk P w K mg base CX0 5 X.f_held_table.a X.f_held_table.d ["station", "mode", "nights"] (spM ⟨K, w⟩ 3 (m_held_table X.c)) := by
  refine X.f_held_table.F.ok (k := 4) (N := N_held_table) sc_held_table (fun _ _ _ _ h => spM_len h) fun cdv A outer s H vs Q E hr h => ?_
  have hv := hv_of hr
  exact ⟨_, PSs.nox ((pss_cons (ps_set (i := 3) sc_held_table.nd rfl (by first | exact Or.inl rfl | exact Or.inr rfl) (pe_call (ok_line_table X) (hr.mono (by omega)) rfl X.g_line_table X.f_line_table.F.kp (b_line_table X) .nil pass0 (pa_cons (pv 0) (pa_cons (pv 2) pa_nil))))
 (pss_cons (ps_if (pt_not (pt_truth (pe_call (ok_is_held X) (hr.mono (by omega)) rfl X.g_is_held X.f_is_held.F.kp (b_is_held X) .nil pass0 (pa_cons (pv 0) (pa_cons (pe_ixU hv (pe_ixU hv (pv 3) (pv 2) (by intro _ _; rfl)) (pv 1) (by intro _ _; rfl)) pa_nil))) (by intro _; rfl)))
 pss_never
 pss_nil)
 (pss_one (ps_ret (pv 3)))))),
   body_ok (n := 3) (k := 1) rfl h ((es_seq (es_asg (ee_call (ea_cons (ee_var (i := 0)) (ea_cons (ee_var (i := 2)) ea_nil))) (eg_name (i := 3)))
 (es_seq (es_ifS (et_not (et_tru (ee_call (ea_cons (ee_var (i := 0)) (ea_cons (ee_ixU (ee_ixV (i := 3) (ee_var (i := 2))) (ee_var (i := 1))) ea_nil)))))
 es_never
 es_next)
 (es_ret (ee_var (i := 3))))))⟩
theorem ok_cell_at (X : Fs K mg) : FnOk P w K mg base CX0 1 X.f_cell_at.a X.f_cell_at.d ["station", "mode", "row"] (spM ⟨K, w⟩ 3 (m_cell_at X.c)) := by
  refine X.f_cell_at.F.ok (k := 0) (N := N_cell_at) sc_cell_at (fun _ _ _ _ h => spM_len h) fun cdv A outer s H vs Q E hr h => ?_
  have hv := hv_of hr
  exact ⟨_, PSs.nox ((pss_cons (ps_set (i := 3) sc_cell_at.nd rfl (by first | exact Or.inl rfl | exact Or.inr rfl) (pe_ixU hv (pe_ixU hv (pe_fld (pv 0) rfl) (pv 1) (by intro _ _; rfl)) pe_int (by intro _ _; rfl)))
 (pss_one (ps_ret (pe_callTy call_tuple_of rfl X.z_tuple bt_tuple (pa_cons (pe_lc (own := [("at", 4), ("told", 5)]) (g := (gTupU _ 2 (gCons (gName 4) (gCons (gName 5) gNil)))) rfl sc_cell_at.nd (pi_enumB rfl X.z_enumerate (pa_cons (pv 3) pa_nil)) (blkOk_by (N := N_cell_at) (sc := defScope s_cell_at) (by decide +kernel)) (fun _ _ _ _ _ => (pg_tupU (n := 2) rfl (pgs_cons (pg_name (i := 4) sc_cell_at.nd rfl (by first | exact Or.inl rfl | exact Or.inr rfl)) (pgs_cons (pg_name (i := 5) sc_cell_at.nd rfl (by first | exact Or.inl rfl | exact Or.inr rfl)) pgs_nil)))) (fun _ _ _ _ _ => pts_nil) (fun _ _ _ _ _ => (pe_callB call_len_seq rfl X.z_len bt_len (pa_cons (pe_lc (own := [("part", 6)]) (g := (gName 6)) rfl sc_cell_at.nd (pi_seqE (pv 5)) (blkOk_by (by rfl)) (fun _ _ _ _ _ => (pg_name (i := 6) sc_cell_at.nd rfl (by first | exact Or.inl rfl | exact Or.inr rfl))) (fun _ _ _ _ _ => (pts_one (pt_cmpR op_le (pv 6) (pe_ixU hv (pv 2) (pv 4) (by intro _ _; rfl)) (nomark _)))) (fun _ _ _ _ _ => (pv 6))) pa_nil)))) pa_nil)))))),
   body_ok (n := 3) (k := 4) rfl h ((es_seq (es_asg (ee_ixU (ee_ixU (ee_fld (ee_var (i := 0)) X.C_Station.cl X.n_Station_modes) (ee_var (i := 1))) (ee_c rfl)) (eg_name (i := 3)))
 (es_ret (ee_cb (ea_cons (ee_frz (eo_lc (vs := [4, 5]) (ei_enum (ea_cons (ee_var (i := 3)) ea_nil)) (eg_tup (n := 2) (eg_cons (eg_name (i := 4)) (eg_cons (eg_name (i := 5)) eg_nil))) (by decide) et_yes (ee_cb (ea_cons (ee_frz (eo_lc (vs := [6]) (ei_seq (ee_var (i := 5))) (eg_name (i := 6)) (by decide) (et_test (ee_op (ee_var (i := 6)) (ee_ixV (i := 2) (ee_var (i := 4))) rd_B0)) (ee_var (i := 6)))) ea_nil) rc_len))) ea_nil) rc_tuple))))⟩
theorem ok_cell_number (X : Fs K mg) : FnOk P w K mg base CX0 1 X.f_cell_number.a X.f_cell_number.d ["station", "mode", "cell"] (spM ⟨K, w⟩ 3 (m_cell_number X.c)) := by
  refine X.f_cell_number.F.ok (k := 0) (N := N_cell_number) sc_cell_number (fun _ _ _ _ h => spM_len h) fun cdv A outer s H vs Q E hr h => ?_
  have hv := hv_of hr
  exact ⟨_, PSs.nox ((pss_cons (ps_set (i := 3) sc_cell_number.nd rfl (by first | exact Or.inl rfl | exact Or.inr rfl) pe_int)
 (pss_cons (ps_for PassesOwn.never rfl (pi_zipB rfl X.z_zip (pa_cons (pe_ixU hv (pe_ixU hv (pe_fld (pv 0) rfl) (pv 1) (by intro _ _; rfl)) pe_int (by intro _ _; rfl)) (pa_cons (pv 2) pa_nil))) (pg_tupU (n := 2) rfl (pgs_cons (pg_name (i := 4) sc_cell_number.nd rfl (by first | exact Or.inl rfl | exact Or.inr rfl)) (pgs_cons (pg_name (i := 5) sc_cell_number.nd rfl (by first | exact Or.inl rfl | exact Or.inr rfl)) pgs_nil)))
 (pss_one (ps_set (i := 3) sc_cell_number.nd rfl (by first | exact Or.inl rfl | exact Or.inr rfl) (pe_op op_addU (pe_op op_mulW (pv 3) (pe_op op_addU (pe_callB call_len_seq rfl X.z_len bt_len (pa_cons (pv 4) pa_nil)) pe_int)) (pv 5)))))
 (pss_one (ps_ret (pv 3)))))),
   body_ok (n := 3) (k := 3) rfl h ((es_seq (es_asg (ee_c rfl) (eg_name (i := 3)))
 (es_seq (es_for (ei_zip (ea_cons (ee_ixU (ee_ixU (ee_fld (ee_var (i := 0)) X.C_Station.cl X.n_Station_modes) (ee_var (i := 1))) (ee_c rfl)) (ea_cons (ee_var (i := 2)) ea_nil))) (eg_tup (n := 2) (eg_cons (eg_name (i := 4)) (eg_cons (eg_name (i := 5)) eg_nil)))
 (es_asg (ee_op (ee_op (ee_var (i := 3)) (ee_op (ee_lenV (i := 4)) (ee_c rfl) rd_add) rd_mul) (ee_var (i := 5)) rd_add) (eg_name (i := 3))))
 (es_ret (ee_var (i := 3))))))⟩
theorem ok_moves_at (X : Fs K mg) : FnOk P w K mg base CX0 2 X.f_moves_at.a X.f_moves_at.d ["station", "mode", "row"] (spM ⟨K, w⟩ 3 (m_moves_at X.c)) := by
  refine X.f_moves_at.F.ok (k := 1) (N := N_moves_at) sc_moves_at (fun _ _ _ _ h => spM_len h) fun cdv A outer s H vs Q E hr h => ?_
  have hv := hv_of hr
  exact ⟨_, PSs.nox ((pss_one (ps_ret (pe_ixU hv (pe_ixU hv (pe_ixU hv (pe_fld (pv 0) rfl) (pv 1) (by intro _ _; rfl)) pe_int (by intro _ _; rfl)) (pe_call (ok_cell_number X) (hr.mono (by omega)) rfl X.g_cell_number X.f_cell_number.F.kp (b_cell_number X) .nil pass0 (pa_cons (pv 0) (pa_cons (pv 1) (pa_cons (pe_call (ok_cell_at X) (hr.mono (by omega)) rfl X.g_cell_at X.f_cell_at.F.kp (b_cell_at X) .nil pass0 (pa_cons (pv 0) (pa_cons (pv 1) (pa_cons (pv 2) pa_nil)))) pa_nil)))) (by intro _ _; rfl))))),
   body_ok (n := 3) (k := 0) rfl h ((es_ret (ee_ixU (ee_ixU (ee_ixU (ee_fld (ee_var (i := 0)) X.C_Station.cl X.n_Station_modes) (ee_var (i := 1))) (ee_c rfl)) (ee_call (ea_cons (ee_var (i := 0)) (ea_cons (ee_var (i := 1)) (ea_cons (ee_call (ea_cons (ee_var (i := 0)) (ea_cons (ee_var (i := 1)) (ea_cons (ee_var (i := 2)) ea_nil)))) ea_nil)))))))⟩
theorem ok_is_look (X : Fs K mg) : FnOk P w K mg base CX0 1 X.f_is_look.a X.f_is_look.d ["station", "mode", "line"] (spM ⟨K, w⟩ 3 (m_is_look X.c)) := by
  refine X.f_is_look.F.ok (k := 0) (N := N_is_look) sc_is_look (fun _ _ _ _ h => spM_len h) fun cdv A outer s H vs Q E hr h => ?_
  have hv := hv_of hr
  exact ⟨_, PSs.nox ((pss_one (ps_ret (pe_inV hv (pv 2) (pe_ixU hv (pe_ixU hv (pe_ixU hv (pe_fld (pv 0) rfl) (pv 1) (by intro _ _; rfl)) pe_int (by intro _ _; rfl)) pe_int (by intro _ _; rfl)) (by with_unfolding_all rfl))))),
   body_ok (n := 3) (k := 0) rfl h ((es_ret (ee_inV (ee_var (i := 2)) (ee_ixU (ee_ixU (ee_ixU (ee_fld (ee_var (i := 0)) X.C_Station.cl X.n_Station_modes) (ee_var (i := 1))) (ee_c rfl)) (ee_c rfl)))))⟩
theorem ok_chain_steps (X : Fs K mg) : FnOk P w K mg base CX0 3 X.f_chain_steps.a X.f_chain_steps.d ["station", "table", "mode", "nights"] (spM ⟨K, w⟩ 4 (m_chain_steps X.c)) := by
  refine X.f_chain_steps.F.ok (k := 2) (N := N_chain_steps) sc_chain_steps (fun _ _ _ _ h => spM_len h) fun cdv A outer s H vs Q E hr h => ?_
  have hv := hv_of hr
  exact ⟨_, PSs.nox ((pss_cons (ps_set (i := 4) sc_chain_steps.nd rfl (by first | exact Or.inl rfl | exact Or.inr rfl) (pe_ixU hv (pe_ixU hv (pv 1) (pv 3) (by intro _ _; rfl)) (pv 2) (by intro _ _; rfl)))
 (pss_cons (ps_set (i := 5) sc_chain_steps.nd rfl (by first | exact Or.inl rfl | exact Or.inr rfl) (pe_lst pa_nil))
 (pss_cons (ps_if (pt_truth (pe_call (ok_is_look X) (hr.mono (by omega)) rfl X.g_is_look X.f_is_look.F.kp (b_is_look X) .nil pass0 (pa_cons (pv 0) (pa_cons (pv 2) (pa_cons (pv 4) pa_nil)))) (by intro _; rfl))
 (pss_one (ps_ret (pv 5)))
 pss_nil)
 (pss_cons (ps_set (i := 6) sc_chain_steps.nd rfl (by first | exact Or.inl rfl | exact Or.inr rfl) (pe_ixU hv (pe_fld (pv 0) rfl) pe_int (by intro _ _; rfl)))
 (pss_cons (ps_for PassesOwn.never rfl (pi_enumB rfl X.z_enumerate (pa_cons (pe_call (ok_moves_at X) (hr.mono (by omega)) rfl X.g_moves_at X.f_moves_at.F.kp (b_moves_at X) .nil pass0 (pa_cons (pv 0) (pa_cons (pv 2) (pa_cons (pe_tup (pa_cons (pv 4) pa_nil)) pa_nil)))) pa_nil)) (pg_tupU (n := 2) rfl (pgs_cons (pg_name (i := 7) sc_chain_steps.nd rfl (by first | exact Or.inl rfl | exact Or.inr rfl)) (pgs_cons (pg_tupU (n := 2) rfl (pgs_cons (pg_name (i := 8) sc_chain_steps.nd rfl (by first | exact Or.inl rfl | exact Or.inr rfl)) (pgs_cons (pg_name (i := 9) sc_chain_steps.nd rfl (by first | exact Or.inl rfl | exact Or.inr rfl)) pgs_nil))) pgs_nil)))
 (pss_cons (ps_asg (pe_ixU hv (pv 9) pe_int (by intro _ _; rfl)) (pg_tupU (n := 2) rfl (pgs_cons (pg_name (i := 10) sc_chain_steps.nd rfl (by first | exact Or.inl rfl | exact Or.inr rfl)) (pgs_cons (pg_name (i := 11) sc_chain_steps.nd rfl (by first | exact Or.inl rfl | exact Or.inr rfl)) pgs_nil))))
 (pss_cons (ps_set (i := 12) sc_chain_steps.nd rfl (by first | exact Or.inl rfl | exact Or.inr rfl) (pe_op op_addU (pv 4) (pv 10)))
 (pss_one (ps_if (pt_cmpR (op_eqM hv) (pv 12) (pv 6) (nomark _))
 (pss_one (ps_expr (pe_bm PySem.F.plainAttrs_list PySem.F.slot_list_append PySem.F.type_list_append mt_append (pv 5) (pa_cons (pe_tup (pa_cons (pv 7) (pa_cons pe_non pa_nil))) pa_nil))))
 (pss_one (ps_if (PW.pt (pw_and (pt_cmpR (op_eqM hv) (pv 12) (pe_ixU hv (pe_ixU hv (pv 1) (pe_op op_sub (pv 3) pe_int) (by intro _ _; rfl)) (pv 8) (by intro _ _; rfl)) (nomark _)) (pw_and (pt_cmpR op_gt (pv 12) (pv 6) (nomark _)) (pw_and1 (pt_cmpR op_gt (pv 12) (pv 11) (nomark _))))))
 (pss_one (ps_expr (pe_bm PySem.F.plainAttrs_list PySem.F.slot_list_append PySem.F.type_list_append mt_append (pv 5) (pa_cons (pe_tup (pa_cons (pv 7) (pa_cons (pv 8) pa_nil))) pa_nil))))
 pss_nil)))))))
 (pss_one (ps_ret (pv 5))))))))),
   body_ok (n := 4) (k := 9) rfl h ((es_seq (es_asg (ee_ixU (ee_ixV (i := 1) (ee_var (i := 3))) (ee_var (i := 2))) (eg_name (i := 4)))
 (es_seq (es_own (i := 5) (eo_lst ea_nil))
 (es_seq (es_ifS (et_tru (ee_call (ea_cons (ee_var (i := 0)) (ea_cons (ee_var (i := 2)) (ea_cons (ee_var (i := 4)) ea_nil)))))
 (es_ret (ee_var (i := 5)))
 es_next)
 (es_seq (es_asg (ee_ixU (ee_fld (ee_var (i := 0)) X.C_Station.cl X.n_Station_floors) (ee_c rfl)) (eg_name (i := 6)))
 (es_seq (es_for (ei_enum (ea_cons (ee_call (ea_cons (ee_var (i := 0)) (ea_cons (ee_var (i := 2)) (ea_cons (ee_tup (ea_cons (ee_var (i := 4)) ea_nil)) ea_nil)))) ea_nil)) (eg_tup (n := 2) (eg_cons (eg_name (i := 7)) (eg_cons (eg_tup (n := 2) (eg_cons (eg_name (i := 8)) (eg_cons (eg_name (i := 9)) eg_nil))) eg_nil)))
 (es_seq (es_asg (ee_ixV (i := 9) (ee_c rfl)) (eg_tup (n := 2) (eg_cons (eg_name (i := 10)) (eg_cons (eg_name (i := 11)) eg_nil))))
 (es_seq (es_asg (ee_op (ee_var (i := 4)) (ee_var (i := 10)) rd_add) (eg_name (i := 12)))
 (es_ifS (et_test (ee_op (ee_var (i := 12)) (ee_var (i := 6)) rd_eq))
 (es_drop (ee_appV (i := 5) (ee_tup (ea_cons (ee_var (i := 7)) (ea_cons (ee_c rfl) ea_nil)))))
 (es_ifS (et_and (et_test (ee_op (ee_var (i := 12)) (ee_ixU (ee_ixV (i := 1) (ee_op (ee_var (i := 3)) (ee_c rfl) rd_I0)) (ee_var (i := 8))) rd_eq)) (et_and (et_test (ee_op (ee_var (i := 12)) (ee_var (i := 6)) rd_B0)) (et_test (ee_op (ee_var (i := 12)) (ee_var (i := 11)) rd_B0))))
 (es_drop (ee_appV (i := 5) (ee_tup (ea_cons (ee_var (i := 7)) (ea_cons (ee_var (i := 8)) ea_nil)))))
 es_next)))))
 (es_ret (ee_var (i := 5)))))))))⟩
theorem ok_chain_paper (X : Fs K mg) : FnOk P w K mg base CX0 6 X.f_chain_paper.a X.f_chain_paper.d ["station", "mode", "nights"] (spM ⟨K, w⟩ 3 (m_chain_paper X.c)) := by
  refine X.f_chain_paper.F.ok (k := 5) (N := N_chain_paper) sc_chain_paper (fun _ _ _ _ h => spM_len h) fun cdv A outer s H vs Q E hr h => ?_
  have hv := hv_of hr
  exact ⟨_, PSs.nox ((pss_cons (ps_expr (pe_call (ok_need_line X) (hr.mono (by omega)) rfl X.g_need_line X.f_need_line.F.kp (b_need_line X) .nil pass0 (pa_cons (pv 0) (pa_cons (pv 1) (pa_cons (pv 2) pa_nil)))))
 (pss_cons (ps_set (i := 3) sc_chain_paper.nd rfl (by first | exact Or.inl rfl | exact Or.inr rfl) (pe_call (ok_held_table X) (hr.mono (by omega)) rfl X.g_held_table X.f_held_table.F.kp (b_held_table X) .nil pass0 (pa_cons (pv 0) (pa_cons (pv 1) (pa_cons (pv 2) pa_nil)))))
 (pss_cons (ps_set (i := 4) sc_chain_paper.nd rfl (by first | exact Or.inl rfl | exact Or.inr rfl) (pe_lst pa_nil))
 (pss_cons (ps_for PassesOwn.never rfl (pi_range3 rfl X.z_range (pa_cons (pv 2) (pa_cons (pe_un un_neg pe_int) (pa_cons (pe_un un_neg pe_int) pa_nil)))) (pg_name (i := 5) sc_chain_paper.nd rfl (by first | exact Or.inl rfl | exact Or.inr rfl))
 (pss_cons (ps_set (i := 6) sc_chain_paper.nd rfl (by first | exact Or.inl rfl | exact Or.inr rfl) (pe_call (ok_chain_steps X) (hr.mono (by omega)) rfl X.g_chain_steps X.f_chain_steps.F.kp (b_chain_steps X) .nil pass0 (pa_cons (pv 0) (pa_cons (pv 3) (pa_cons (pv 1) (pa_cons (pv 5) pa_nil))))))
 (pss_cons (ps_if (pt_not (pt_truth (pv 6) (by intro _; rfl)))
 (pss_one ps_break)
 pss_nil)
 (pss_cons (ps_asg (pe_ixU hv (pv 6) pe_int (by intro _ _; rfl)) (pg_tupU (n := 2) rfl (pgs_cons (pg_name (i := 7) sc_chain_paper.nd rfl (by first | exact Or.inl rfl | exact Or.inr rfl)) (pgs_cons (pg_name (i := 1) sc_chain_paper.nd rfl (by first | exact Or.inl rfl | exact Or.inr rfl)) pgs_nil))))
 (pss_cons (ps_expr (pe_bm PySem.F.plainAttrs_list PySem.F.slot_list_append PySem.F.type_list_append mt_append (pv 4) (pa_cons (pv 7) pa_nil)))
 (pss_one (ps_if (pt_cmpR op_isU (pv 1) pe_non (nomark _))
 (pss_one (ps_ret (pe_tup (pa_cons pe_str (pa_cons (pe_callTy call_tuple_of rfl X.z_tuple bt_tuple (pa_cons (pv 4) pa_nil)) pa_nil)))))
 pss_nil)))))))
 (pss_one (ps_ret (pe_tup (pa_cons pe_str (pa_cons (pe_callTy call_tuple_of rfl X.z_tuple bt_tuple (pa_cons (pv 4) pa_nil)) pa_nil)))))))))),
   body_ok (n := 3) (k := 5) rfl h ((es_seq (es_drop (ee_call (ea_cons (ee_var (i := 0)) (ea_cons (ee_var (i := 1)) (ea_cons (ee_var (i := 2)) ea_nil)))))
 (es_seq (es_asg (ee_call (ea_cons (ee_var (i := 0)) (ea_cons (ee_var (i := 1)) (ea_cons (ee_var (i := 2)) ea_nil)))) (eg_name (i := 3)))
 (es_seq (es_own (i := 4) (eo_lst ea_nil))
 (es_seq (es_for (ei_rngD (ea_cons (ee_var (i := 2)) (ea_cons (ee_un (ee_c rfl) ru_U) (ea_cons (ee_un (ee_c rfl) ru_U) ea_nil)))) (eg_name (i := 5))
 (es_seq (es_asg (ee_call (ea_cons (ee_var (i := 0)) (ea_cons (ee_var (i := 3)) (ea_cons (ee_var (i := 1)) (ea_cons (ee_var (i := 5)) ea_nil))))) (eg_name (i := 6)))
 (es_seq (es_ifS (et_not (et_truV (i := 6)))
 es_break
 es_next)
 (es_seq (es_asg (ee_ixV (i := 6) (ee_c rfl)) (eg_tup (n := 2) (eg_cons (eg_name (i := 7)) (eg_cons (eg_name (i := 1)) eg_nil))))
 (es_seq (es_drop (ee_appV (i := 4) (ee_var (i := 7))))
 (es_ifS (et_test (ee_op (ee_var (i := 1)) (ee_c rfl) rd_is))
 (es_ret (ee_tup (ea_cons (ee_c rfl) (ea_cons (ee_cb (ea_cons (ee_var (i := 4)) ea_nil) rc_tuple) ea_nil))))
 es_next))))))
 (es_ret (ee_tup (ea_cons (ee_c rfl) (ea_cons (ee_cb (ea_cons (ee_var (i := 4)) ea_nil) rc_tuple) ea_nil)))))))))⟩
theorem ok_is_paper (X : Fs K mg) : FnOk P w K mg base CX0 1 X.f_is_paper.a X.f_is_paper.d ["value", "many"] (spM ⟨K, w⟩ 2 (m_is_paper X.c)) := by
  refine X.f_is_paper.F.ok (k := 0) (N := N_is_paper) sc_is_paper (fun _ _ _ _ h => spM_len h) fun cdv A outer s H vs Q E hr h => ?_
  have hv := hv_of hr
  exact ⟨_, PSs.nox ((pss_one (ps_ret (pe_and (pe_callB call_isi rfl X.z_isinstance bt_isinstance (pa_cons (pv 0) (pa_cons (pe_bltn (v := .ty "tuple") rfl X.z_tuple bt_tuple rfl) pa_nil))) (pe_one (pe_cmpR (op_eqM hv) (pe_callB call_len_seq rfl X.z_len bt_len (pa_cons (pv 0) pa_nil)) (pv 1) (nomark _))))))),
   body_ok (n := 2) (k := 0) rfl h ((es_ret (ee_andV (ee_isi (c := "tuple") (ee_var (i := 0)) (by decide)) (ee_op (ee_lenV (i := 0)) (ee_var (i := 1)) rd_eq))))⟩
theorem ok_is_fate (X : Fs K mg) : FnOk P w K mg base CX0 3 X.f_is_fate.a X.f_is_fate.d ["station", "value"] (spM ⟨K, w⟩ 2 (m_is_fate X.c)) := by
  refine X.f_is_fate.F.ok (k := 2) (N := N_is_fate) sc_is_fate (fun _ _ _ _ h => spM_len h) fun cdv A outer s H vs Q E hr h => ?_
  have hv := hv_of hr
  exact ⟨_, PSs.nox ((pss_one (ps_ret (pe_and (pe_callB call_isi rfl X.z_isinstance bt_isinstance (pa_cons (pv 1) (pa_cons (pe_bltn (v := .ty "tuple") rfl X.z_tuple bt_tuple rfl) pa_nil))) (pe_one (pe_callB (cr_all rfl) rfl X.z_all bt_all (pa_cons (pe_lc (own := [("letter", 2)]) (g := (gName 2)) rfl sc_is_fate.nd (pi_seqE (pv 1)) (blkOk_by (N := N_is_fate) (sc := defScope s_is_fate) (by decide +kernel)) (fun _ _ _ _ _ => (pg_name (i := 2) sc_is_fate.nd rfl (by first | exact Or.inl rfl | exact Or.inr rfl))) (fun _ _ _ _ _ => pts_nil) (fun _ _ _ _ _ => (pe_call (ok_is_below X) (hr.mono (by omega)) rfl X.g_is_below X.f_is_below.F.kp (b_is_below X) .nil pass0 (pa_cons (pv 2) (pa_cons (pe_fld (pv 0) rfl) pa_nil))))) pa_nil))))))),
   body_ok (n := 2) (k := 1) rfl h ((es_ret (ee_andV (ee_isi (c := "tuple") (ee_var (i := 1)) (by decide)) (ee_cb (ea_cons (ee_frz (eo_lc (vs := [2]) (ei_seq (ee_var (i := 1))) (eg_name (i := 2)) (by decide) et_yes (ee_call (ea_cons (ee_var (i := 2)) (ea_cons (ee_fld (ee_var (i := 0)) X.C_Station.cl X.n_Station_letters) ea_nil))))) ea_nil) rc_all))))⟩
theorem ok_chain_end (X : Fs K mg) : FnOk P w K mg base CX0 4 X.f_chain_end.a X.f_chain_end.d ["station", "table", "mode", "nights", "fate"] (spM ⟨K, w⟩ 5 (m_chain_end X.c)) := by
  refine X.f_chain_end.F.ok (k := 3) (N := N_chain_end) sc_chain_end (fun _ _ _ _ h => spM_len h) fun cdv A outer s H vs Q E hr h => ?_
  have hv := hv_of hr
  exact ⟨_, PSs.nox ((pss_cons (ps_for PassesOwn.never rfl (pi_enumB rfl X.z_enumerate (pa_cons (pv 4) pa_nil)) (pg_tupU (n := 2) rfl (pgs_cons (pg_name (i := 5) sc_chain_end.nd rfl (by first | exact Or.inl rfl | exact Or.inr rfl)) (pgs_cons (pg_name (i := 6) sc_chain_end.nd rfl (by first | exact Or.inl rfl | exact Or.inr rfl)) pgs_nil)))
 (pss_cons (ps_setLc (i := 7) (own := [("told", 8), ("behind", 9)]) (g := (gTupU _ 2 (gCons (gName 8) (gCons (gName 9) gNil)))) rfl sc_chain_end.nd rfl rfl (sw_true rfl rfl rfl (by decide +kernel)) (pi_seqE (pe_call (ok_chain_steps X) (hr.mono (by omega)) rfl X.g_chain_steps X.f_chain_steps.F.kp (b_chain_steps X) .nil pass0 (pa_cons (pv 0) (pa_cons (pv 1) (pa_cons (pv 2) (pa_cons (pv 3) pa_nil)))))) (blkOk_by (N := N_chain_end) (sc := defScope s_chain_end) (by decide +kernel)) (fun _ _ _ _ _ => (pg_tupU (n := 2) rfl (pgs_cons (pg_name (i := 8) sc_chain_end.nd rfl (by first | exact Or.inl rfl | exact Or.inr rfl)) (pgs_cons (pg_name (i := 9) sc_chain_end.nd rfl (by first | exact Or.inl rfl | exact Or.inr rfl)) pgs_nil)))) (fun _ _ _ _ _ => (pts_one (pt_cmpR (op_eqM hv) (pv 8) (pv 6) (nomark _)))) (fun _ _ _ _ _ => (pv 9)))
 (pss_cons (ps_if (pt_not (pt_truth (pv 7) (by intro _; rfl)))
 (pss_one (ps_ret pe_non))
 pss_nil)
 (pss_cons (ps_set (i := 2) sc_chain_end.nd rfl (by first | exact Or.inl rfl | exact Or.inr rfl) (pe_ixU hv (pv 7) pe_int (by intro _ _; rfl)))
 (pss_cons (ps_set (i := 3) sc_chain_end.nd rfl (by first | exact Or.inl rfl | exact Or.inr rfl) (pe_op op_sub (pv 3) pe_int))
 (pss_one (ps_if (pt_cmpR op_isU (pv 2) pe_non (nomark _))
 (pss_one (ps_ret (pe_ifExp (pt_cmpR (op_eqM hv) (pv 5) (pe_op op_sub (pe_callB call_len_seq rfl X.z_len bt_len (pa_cons (pv 4) pa_nil)) pe_int) (nomark _)) pe_str pe_non)))
 pss_nil)))))))
 (pss_one (ps_ret (pe_ifExp (pt_truth (pe_call (ok_is_look X) (hr.mono (by omega)) rfl X.g_is_look X.f_is_look.F.kp (b_is_look X) .nil pass0 (pa_cons (pv 0) (pa_cons (pv 2) (pa_cons (pe_ixU hv (pe_ixU hv (pv 1) (pv 3) (by intro _ _; rfl)) (pv 2) (by intro _ _; rfl)) pa_nil)))) (by intro _; rfl)) pe_str pe_non))))),
   body_ok (n := 5) (k := 5) rfl h ((es_seq (es_for (ei_enum (ea_cons (ee_var (i := 4)) ea_nil)) (eg_tup (n := 2) (eg_cons (eg_name (i := 5)) (eg_cons (eg_name (i := 6)) eg_nil)))
 (es_seq (es_asg (ee_frz (eo_lc (vs := [8, 9]) (ei_seq (ee_call (ea_cons (ee_var (i := 0)) (ea_cons (ee_var (i := 1)) (ea_cons (ee_var (i := 2)) (ea_cons (ee_var (i := 3)) ea_nil)))))) (eg_tup (n := 2) (eg_cons (eg_name (i := 8)) (eg_cons (eg_name (i := 9)) eg_nil))) (by decide) (et_test (ee_op (ee_var (i := 8)) (ee_var (i := 6)) rd_eq)) (ee_var (i := 9)))) (eg_name (i := 7)))
 (es_seq (es_ifS (et_not (et_truV (i := 7)))
 (es_ret (ee_c rfl))
 es_next)
 (es_seq (es_asg (ee_ixV (i := 7) (ee_c rfl)) (eg_name (i := 2)))
 (es_seq (es_asg (ee_op (ee_var (i := 3)) (ee_c rfl) rd_I0) (eg_name (i := 3)))
 (es_ifS (et_test (ee_op (ee_var (i := 2)) (ee_c rfl) rd_is))
 (es_ret (ee_if (et_test (ee_op (ee_var (i := 5)) (ee_op (ee_lenV (i := 4)) (ee_c rfl) rd_I0) rd_eq)) (ee_c rfl) (ee_c rfl)))
 es_next))))))
 (es_ret (ee_if (et_tru (ee_call (ea_cons (ee_var (i := 0)) (ea_cons (ee_var (i := 2)) (ea_cons (ee_ixU (ee_ixV (i := 1) (ee_var (i := 3))) (ee_var (i := 2))) ea_nil))))) (ee_c rfl) (ee_c rfl)))))⟩
theorem ok_chain_holds (X : Fs K mg) : FnOk P w K mg base CX0 6 X.f_chain_holds.a X.f_chain_holds.d ["station", "mode", "nights", "value"] (spM ⟨K, w⟩ 4 (m_chain_holds X.c)) := by
  refine X.f_chain_holds.F.ok (k := 5) (N := N_chain_holds) sc_chain_holds (fun _ _ _ _ h => spM_len h) fun cdv A outer s H vs Q E hr h => ?_
  have hv := hv_of hr
  exact ⟨_, PSs.nox ((pss_cons (ps_expr (pe_call (ok_need_line X) (hr.mono (by omega)) rfl X.g_need_line X.f_need_line.F.kp (b_need_line X) .nil pass0 (pa_cons (pv 0) (pa_cons (pv 1) (pa_cons (pv 2) pa_nil)))))
 (pss_cons (ps_set (i := 4) sc_chain_holds.nd rfl (by first | exact Or.inl rfl | exact Or.inr rfl) (pe_call (ok_held_table X) (hr.mono (by omega)) rfl X.g_held_table X.f_held_table.F.kp (b_held_table X) .nil pass0 (pa_cons (pv 0) (pa_cons (pv 1) (pa_cons (pv 2) pa_nil)))))
 (pss_cons (ps_if (PW.pt (pw_or (pt_not (pt_truth (pe_call (ok_is_paper X) (hr.mono (by omega)) rfl X.g_is_paper X.f_is_paper.F.kp (b_is_paper X) .nil pass0 (pa_cons (pv 3) (pa_cons pe_int pa_nil))) (by intro _; rfl))) (pw_or (pt_not (pt_truth (pe_callB call_isi rfl X.z_isinstance bt_isinstance (pa_cons (pe_ixU hv (pv 3) pe_int (by intro _ _; rfl)) (pa_cons (pe_bltn (v := .ty "str") rfl X.z_str bt_str rfl) pa_nil))) (by intro _; rfl))) (pw_or1 (pt_not (pt_truth (pe_call (ok_is_fate X) (hr.mono (by omega)) rfl X.g_is_fate X.f_is_fate.F.kp (b_is_fate X) .nil pass0 (pa_cons (pv 0) (pa_cons (pe_ixU hv (pv 3) pe_int (by intro _ _; rfl)) pa_nil))) (by intro _; rfl)))))))
 (pss_one (ps_ret pe_bl))
 pss_nil)
 (pss_one (ps_ret (pe_cmpR (op_eqM hv) (pe_call (ok_chain_end X) (hr.mono (by omega)) rfl X.g_chain_end X.f_chain_end.F.kp (b_chain_end X) .nil pass0 (pa_cons (pv 0) (pa_cons (pv 4) (pa_cons (pv 1) (pa_cons (pv 2) (pa_cons (pe_ixU hv (pv 3) pe_int (by intro _ _; rfl)) pa_nil)))))) (pe_ixU hv (pv 3) pe_int (by intro _ _; rfl)) (nomark _)))))))),
   body_ok (n := 4) (k := 1) rfl h ((es_seq (es_drop (ee_call (ea_cons (ee_var (i := 0)) (ea_cons (ee_var (i := 1)) (ea_cons (ee_var (i := 2)) ea_nil)))))
 (es_seq (es_asg (ee_call (ea_cons (ee_var (i := 0)) (ea_cons (ee_var (i := 1)) (ea_cons (ee_var (i := 2)) ea_nil)))) (eg_name (i := 4)))
 (es_seq (es_ifS (et_or (et_not (et_tru (ee_call (ea_cons (ee_var (i := 3)) (ea_cons (ee_c rfl) ea_nil))))) (et_or (et_not (et_tru (ee_isi (c := "str") (ee_ixV (i := 3) (ee_c rfl)) (by decide)))) (et_not (et_tru (ee_call (ea_cons (ee_var (i := 0)) (ea_cons (ee_ixV (i := 3) (ee_c rfl)) ea_nil)))))))
 (es_ret (ee_c rfl))
 es_next)
 (es_ret (ee_op (ee_call (ea_cons (ee_var (i := 0)) (ea_cons (ee_var (i := 4)) (ea_cons (ee_var (i := 1)) (ea_cons (ee_var (i := 2)) (ea_cons (ee_ixV (i := 3) (ee_c rfl)) ea_nil)))))) (ee_ixV (i := 3) (ee_c rfl)) rd_eq))))))⟩
theorem ok_chain_layers (X : Fs K mg) : FnOk P w K mg base CX0 4 X.f_chain_layers.a X.f_chain_layers.d ["station", "table", "mode", "nights"] (spM ⟨K, w⟩ 4 (m_chain_layers X.c)) := by
  refine X.f_chain_layers.F.ok (k := 3) (N := N_chain_layers) sc_chain_layers (fun _ _ _ _ h => spM_len h) fun cdv A outer s H vs Q E hr h => ?_
  have hv := hv_of hr
  exact ⟨_, PSs.nox ((pss_cons (ps_set (i := 4) sc_chain_layers.nd rfl (by first | exact Or.inl rfl | exact Or.inr rfl) (pe_lst pa_nil))
 (pss_cons (ps_set (i := 5) sc_chain_layers.nd rfl (by first | exact Or.inl rfl | exact Or.inr rfl) (pe_lst (pa_cons (pv 2) pa_nil)))
 (pss_cons (ps_for PassesOwn.never rfl (pi_range3 rfl X.z_range (pa_cons (pv 3) (pa_cons (pe_un un_neg pe_int) (pa_cons (pe_un un_neg pe_int) pa_nil)))) (pg_name (i := 6) sc_chain_layers.nd rfl (by first | exact Or.inl rfl | exact Or.inr rfl))
 (pss_cons (ps_setDc (i := 7) (own := [("one", 8)]) (g := (gName 8)) rfl sc_chain_layers.nd rfl rfl (sw_trueD rfl rfl rfl (by decide +kernel)) (pi_seqE (pv 5)) (blkOk_by (N := N_chain_layers) (sc := defScope s_chain_layers) (by decide +kernel)) (fun _ _ _ _ _ => (pg_name (i := 8) sc_chain_layers.nd rfl (by first | exact Or.inl rfl | exact Or.inr rfl))) (fun _ _ _ _ _ => pts_nil) (fun _ _ _ _ _ => (pv 8)) (fun _ _ _ _ _ => (pe_call (ok_chain_steps X) (hr.mono (by omega)) rfl X.g_chain_steps X.f_chain_steps.F.kp (b_chain_steps X) .nil pass0 (pa_cons (pv 0) (pa_cons (pv 1) (pa_cons (pv 8) (pa_cons (pv 6) pa_nil)))))))
 (pss_cons (ps_expr (pe_bm PySem.F.plainAttrs_list PySem.F.slot_list_append PySem.F.type_list_append mt_append (pv 4) (pa_cons (pv 7) pa_nil)))
 (pss_cons (ps_set (i := 5) sc_chain_layers.nd rfl (by first | exact Or.inl rfl | exact Or.inr rfl) (pe_callB (cr_sortedSet rfl) rfl X.z_sorted bt_sorted (pa_cons (pe_lk (pe_sc2 (own := [("_", 9), ("steps", 10), ("behind", 11)]) (vs1 := [9, 11]) (g := (gTupU _ 2 (gCons (gName 9) (gCons (gName 10) gNil)))) (g1 := (gTupU _ 2 (gCons (gName 9) (gCons (gName 11) gNil)))) rfl sc_chain_layers.nd (pi_items (pv 7)) (blkOk_by (N := N_chain_layers) (sc := defScope s_chain_layers) (by decide +kernel)) (by decide) (fun _ _ _ _ _ => (pg_tupU (n := 2) rfl (pgs_cons (pg_name (i := 9) sc_chain_layers.nd rfl (by first | exact Or.inl rfl | exact Or.inr rfl)) (pgs_cons (pg_name (i := 10) sc_chain_layers.nd rfl (by first | exact Or.inl rfl | exact Or.inr rfl)) pgs_nil)))) (fun _ _ _ _ _ => pts_nil) (fun _ _ _ _ _ => (pi_seqE (pv 10))) (fun _ _ _ _ _ => (pg_tupU (n := 2) rfl (pgs_cons (pg_name (i := 9) sc_chain_layers.nd rfl (by first | exact Or.inl rfl | exact Or.inr rfl)) (pgs_cons (pg_name (i := 11) sc_chain_layers.nd rfl (by first | exact Or.inl rfl | exact Or.inr rfl)) pgs_nil)))) (fun _ _ _ _ _ => (pts_one (pt_cmpR op_notN (pv 11) pe_non (nomark _)))) (fun _ _ _ _ _ => (pv 11)))) pa_nil)))
 (pss_one (ps_if (pt_not (pt_truth (pv 5) (by intro _; rfl)))
 (pss_one ps_break)
 pss_nil))))))
 (pss_one (ps_ret (pv 4))))))),
   body_ok (n := 4) (k := 8) rfl h ((es_seq (es_own (i := 4) (eo_lst ea_nil))
 (es_seq (es_asg (ee_frz (eo_lst (ea_cons (ee_var (i := 2)) ea_nil))) (eg_name (i := 5)))
 (es_seq (es_for (ei_rngD (ea_cons (ee_var (i := 3)) (ea_cons (ee_un (ee_c rfl) ru_U) (ea_cons (ee_un (ee_c rfl) ru_U) ea_nil)))) (eg_name (i := 6))
 (es_seq (es_asg (ee_frz (eo_dc (vs := [8]) (ei_seq (ee_var (i := 5))) (eg_name (i := 8)) (by decide) et_yes (ee_var (i := 8)) (ee_call (ea_cons (ee_var (i := 0)) (ea_cons (ee_var (i := 1)) (ea_cons (ee_var (i := 8)) (ea_cons (ee_var (i := 6)) ea_nil))))))) (eg_name (i := 7)))
 (es_seq (es_drop (ee_appV (i := 4) (ee_var (i := 7))))
 (es_seq (es_asg (ee_frz (eo_sortSc2 (i := 7) (vs := [9, 10, 11]) (vs1 := [9, 11]) (eg_tup (n := 2) (eg_cons (eg_name (i := 9)) (eg_cons (eg_name (i := 10)) eg_nil))) (by decide) et_yes (ei_seq (ee_var (i := 10))) (eg_tup (n := 2) (eg_cons (eg_name (i := 9)) (eg_cons (eg_name (i := 11)) eg_nil))) (by decide) (by decide) (et_test (ee_op (ee_var (i := 11)) (ee_c rfl) rd_isNot)) (ee_var (i := 11)))) (eg_name (i := 5)))
 (es_ifS (et_not (et_truV (i := 5)))
 es_break
 es_next)))))
 (es_ret (ee_var (i := 4)))))))⟩
theorem ok_chain_count (X : Fs K mg) : FnOk P w K mg base CX0 6 X.f_chain_count.a X.f_chain_count.d ["station", "mode", "nights"] (spM ⟨K, w⟩ 3 (m_chain_count X.c)) := by
  refine X.f_chain_count.F.ok (k := 5) (N := N_chain_count) sc_chain_count (fun _ _ _ _ h => spM_len h) fun cdv A outer s H vs Q E hr h => ?_
  have hv := hv_of hr
  exact ⟨_, PSs.nox ((pss_cons (ps_expr (pe_call (ok_need_line X) (hr.mono (by omega)) rfl X.g_need_line X.f_need_line.F.kp (b_need_line X) .nil pass0 (pa_cons (pv 0) (pa_cons (pv 1) (pa_cons (pv 2) pa_nil)))))
 (pss_cons (ps_set (i := 3) sc_chain_count.nd rfl (by first | exact Or.inl rfl | exact Or.inr rfl) (pe_call (ok_held_table X) (hr.mono (by omega)) rfl X.g_held_table X.f_held_table.F.kp (b_held_table X) .nil pass0 (pa_cons (pv 0) (pa_cons (pv 1) (pa_cons (pv 2) pa_nil)))))
 (pss_cons (ps_set (i := 4) sc_chain_count.nd rfl (by first | exact Or.inl rfl | exact Or.inr rfl) pe_dnewK)
 (pss_cons (ps_for PassesOwn.never rfl (pi_seqE (pe_revL (pe_call (ok_chain_layers X) (hr.mono (by omega)) rfl X.g_chain_layers X.f_chain_layers.F.kp (b_chain_layers X) .nil pass0 (pa_cons (pv 0) (pa_cons (pv 3) (pa_cons (pv 1) (pa_cons (pv 2) pa_nil))))))) (pg_name (i := 5) sc_chain_count.nd rfl (by first | exact Or.inl rfl | exact Or.inr rfl))
 (pss_cons (ps_set (i := 6) sc_chain_count.nd rfl (by first | exact Or.inl rfl | exact Or.inr rfl) pe_dnewK)
 (pss_cons (ps_lk (ps_for PassesOwn.never rfl (pi_items (pv 5)) (pg_tupU (n := 2) rfl (pgs_cons (pg_name (i := 7) sc_chain_count.nd rfl (by first | exact Or.inl rfl | exact Or.inr rfl)) (pgs_cons (pg_name (i := 8) sc_chain_count.nd rfl (by first | exact Or.inl rfl | exact Or.inr rfl)) pgs_nil)))
 (pss_cons (ps_set (i := 9) sc_chain_count.nd rfl (by first | exact Or.inl rfl | exact Or.inr rfl) (pe_callB call_len_seq rfl X.z_len bt_len (pa_cons (pe_lc (own := [("_", 11), ("behind", 12)]) (g := (gTupU _ 2 (gCons (gName 11) (gCons (gName 12) gNil)))) rfl sc_chain_count.nd (pi_seqE (pv 8)) (blkOk_by (N := N_chain_count) (sc := defScope s_chain_count) (by decide +kernel)) (fun _ _ _ _ _ => (pg_tupU (n := 2) rfl (pgs_cons (pg_name (i := 11) sc_chain_count.nd rfl (by first | exact Or.inl rfl | exact Or.inr rfl)) (pgs_cons (pg_name (i := 12) sc_chain_count.nd rfl (by first | exact Or.inl rfl | exact Or.inr rfl)) pgs_nil)))) (fun _ _ _ _ _ => (pts_one (pt_cmpR op_isU (pv 12) pe_non (nomark _)))) (fun _ _ _ _ _ => (pv 12))) pa_nil)))
 (pss_cons (ps_set (i := 10) sc_chain_count.nd rfl (by first | exact Or.inl rfl | exact Or.inr rfl) (pe_ifExp (pt_truth (pv 8) (by intro _; rfl)) pe_int pe_int))
 (pss_cons (ps_for PassesOwn.never rfl (pi_seqE (pv 8)) (pg_tupU (n := 2) rfl (pgs_cons (pg_name (i := 11) sc_chain_count.nd rfl (by first | exact Or.inl rfl | exact Or.inr rfl)) (pgs_cons (pg_name (i := 12) sc_chain_count.nd rfl (by first | exact Or.inl rfl | exact Or.inr rfl)) pgs_nil)))
 (pss_one (ps_if (pt_cmpR op_notN (pv 12) pe_non (nomark _))
 (pss_cons (ps_set (i := 9) sc_chain_count.nd rfl (by first | exact Or.inl rfl | exact Or.inr rfl) (pe_op op_addU (pv 9) (pe_ixU hv (pe_ixU hv (pv 4) (pv 12) (by intro _ _; rfl)) pe_int (by intro _ _; rfl))))
 (pss_one (ps_set (i := 10) sc_chain_count.nd rfl (by first | exact Or.inl rfl | exact Or.inr rfl) (pe_op op_addU (pv 10) (pe_ixU hv (pe_ixU hv (pv 4) (pv 12) (by intro _ _; rfl)) pe_int (by intro _ _; rfl))))))
 pss_nil)))
 (pss_one (ps_dput (hu_of hr) (pv 6) (pv 7) (pe_tup (pa_cons (pv 9) (pa_cons (pv 10) pa_nil))) rfl)))))))
 (pss_one (ps_set (i := 4) sc_chain_count.nd rfl (by first | exact Or.inl rfl | exact Or.inr rfl) (pv 6))))))
 (pss_one (ps_ret (pe_ixU hv (pv 4) (pv 1) (by intro _ _; rfl))))))))),
   body_ok (n := 3) (k := 10) rfl h ((es_seq (es_drop (ee_call (ea_cons (ee_var (i := 0)) (ea_cons (ee_var (i := 1)) (ea_cons (ee_var (i := 2)) ea_nil)))))
 (es_seq (es_asg (ee_call (ea_cons (ee_var (i := 0)) (ea_cons (ee_var (i := 1)) (ea_cons (ee_var (i := 2)) ea_nil)))) (eg_name (i := 3)))
 (es_seq (es_asg (ee_frz eo_dic) (eg_name (i := 4)))
 (es_seq (es_for (ei_seq (ee_rev (ee_call (ea_cons (ee_var (i := 0)) (ea_cons (ee_var (i := 3)) (ea_cons (ee_var (i := 1)) (ea_cons (ee_var (i := 2)) ea_nil))))))) (eg_name (i := 5))
 (es_seq (es_own (i := 6) eo_dic)
 (es_seq (es_forIt (eg_tup (n := 2) (eg_cons (eg_name (i := 7)) (eg_cons (eg_name (i := 8)) eg_nil)))
 (es_seq (es_asg (ee_cb (ea_cons (ee_frz (eo_lc (vs := [11, 12]) (ei_seq (ee_var (i := 8))) (eg_tup (n := 2) (eg_cons (eg_name (i := 11)) (eg_cons (eg_name (i := 12)) eg_nil))) (by decide) (et_test (ee_op (ee_var (i := 12)) (ee_c rfl) rd_is)) (ee_var (i := 12)))) ea_nil) rc_len) (eg_name (i := 9)))
 (es_seq (es_asg (ee_if (et_truV (i := 8)) (ee_c rfl) (ee_c rfl)) (eg_name (i := 10)))
 (es_seq (es_for (ei_seq (ee_var (i := 8))) (eg_tup (n := 2) (eg_cons (eg_name (i := 11)) (eg_cons (eg_name (i := 12)) eg_nil)))
 (es_ifS (et_test (ee_op (ee_var (i := 12)) (ee_c rfl) rd_isNot))
 (es_seq (es_asg (ee_op (ee_var (i := 9)) (ee_ixU (ee_ixV (i := 4) (ee_var (i := 12))) (ee_c rfl)) rd_add) (eg_name (i := 9)))
 (es_asg (ee_op (ee_var (i := 10)) (ee_ixU (ee_ixV (i := 4) (ee_var (i := 12))) (ee_c rfl)) rd_add) (eg_name (i := 10))))
 es_next))
 (es_dputV (i := 6) (ee_tup (ea_cons (ee_var (i := 9)) (ea_cons (ee_var (i := 10)) ea_nil))) (ee_var (i := 7)))))))
 (es_asg (ee_var (i := 6)) (eg_name (i := 4))))))
 (es_ret (ee_ixV (i := 4) (ee_var (i := 1)))))))))⟩
theorem ok_law_draw (X : Fs K mg) : FnOk P w K mg base CX0 1 X.f_law_draw.a X.f_law_draw.d ["box", "many"] (spM ⟨K, w⟩ 2 (m_law_draw X.c)) := by
  refine X.f_law_draw.F.ok (k := 0) (N := N_law_draw) sc_law_draw (fun _ _ _ _ h => spM_len h) fun cdv A outer s H vs Q E hr h => ?_
  have hv := hv_of hr
  exact ⟨_, PSs.nox ((pss_cons (ps_for PassesOwn.never rfl (pi_range1 rfl X.z_range (pa_cons pe_int pa_nil)) (pg_name (i := 2) sc_law_draw.nd rfl (by first | exact Or.inl rfl | exact Or.inr rfl))
 (pss_one (ps_if (PW.pt (pw_and (pt_cmpR (op_neM hv) (pe_ixU hv (pv 0) pe_int (by intro _ _; rfl)) (pe_lst pa_nil) (nomark _)) (pw_and1 (pt_cmpR (op_eqM hv) (pe_ixU hv (pe_ixU hv (pv 0) pe_int (by intro _ _; rfl)) pe_int (by intro _ _; rfl)) pe_int (nomark _)))))
 (pss_one (ps_expr (pe_bm PySem.F.plainAttrs_list PySem.F.slot_list_pop PySem.F.type_list_pop mt_popAt (pe_ixU hv (pv 0) pe_int (by intro _ _; rfl)) (pa_cons pe_int pa_nil))))
 pss_nil)))
 (pss_cons (ps_if (pt_cmpR (op_neM hv) (pe_ixU hv (pv 0) pe_int (by intro _ _; rfl)) (pe_lst pa_nil) (nomark _))
 (pss_cons (ps_set (i := 4) sc_law_draw.nd rfl (by first | exact Or.inl rfl | exact Or.inr rfl) (pe_callTy call_int1 rfl X.z_int bt_int (pa_cons (pe_bm PySem.F.plainAttrs_list PySem.F.slot_list_pop PySem.F.type_list_pop mt_popAt (pe_ixU hv (pv 0) pe_int (by intro _ _; rfl)) (pa_cons pe_int pa_nil)) pa_nil)))
 (pss_cons (ps_expr (pe_bm PySem.F.plainAttrs_list PySem.F.slot_list_insert PySem.F.type_list_insert mt_insert (pe_ixU hv (pv 0) pe_int (by intro _ _; rfl)) (pa_cons pe_int (pa_cons (pe_op op_fdivW (pv 4) (pv 1)) pa_nil))))
 (pss_one (ps_ret (pe_op op_mod (pe_callTy call_int1 rfl X.z_int bt_int (pa_cons (pv 4) pa_nil)) (pv 1))))))
 pss_nil)
 (pss_cons (ps_asg (pe_op op_mod (pe_callTy call_int1 rfl X.z_int bt_int (pa_cons (pe_op op_addU (pe_op op_mulW (pe_ixU hv (pv 0) pe_int (by intro _ _; rfl)) pe_int) pe_int) pa_nil)) pe_int) (pg_sub (pv 0) pe_int set_list))
 (pss_cons (ps_set (i := 3) sc_law_draw.nd rfl (by first | exact Or.inl rfl | exact Or.inr rfl) (pe_ixU hv (pv 0) pe_int (by intro _ _; rfl)))
 (pss_cons (ps_for PassesOwn.never rfl (pi_range1 rfl X.z_range (pa_cons pe_int pa_nil)) (pg_name (i := 2) sc_law_draw.nd rfl (by first | exact Or.inl rfl | exact Or.inr rfl))
 (pss_one (ps_if (pt_cmpR op_gt (pv 1) (pe_op op_pow pe_int pe_int) (nomark _))
 (pss_cons (ps_asg (pe_op op_mod (pe_callTy call_int1 rfl X.z_int bt_int (pa_cons (pe_op op_addU (pe_op op_mulW (pe_ixU hv (pv 0) pe_int (by intro _ _; rfl)) pe_int) pe_int) pa_nil)) pe_int) (pg_sub (pv 0) pe_int set_list))
 (pss_one (ps_set (i := 3) sc_law_draw.nd rfl (by first | exact Or.inl rfl | exact Or.inr rfl) (pe_op op_addU (pe_op op_mulW (pv 3) pe_int) (pe_ixU hv (pv 0) pe_int (by intro _ _; rfl))))))
 pss_nil)))
 (pss_one (ps_ret (pe_op op_mod (pe_callTy call_int1 rfl X.z_int bt_int (pa_cons (pe_op op_fdivW (pv 3) pe_int) pa_nil)) (pv 1)))))))))),
   body_ok (n := 2) (k := 3) rfl h ((es_seq (es_for (ei_rng1 (ea_cons (ee_c rfl) ea_nil)) (eg_name (i := 2))
 (es_ifS (et_and (et_test (ee_op (ee_ixV (i := 0) (ee_c rfl)) (ee_frz (eo_lst ea_nil)) rd_ne)) (et_test (ee_op (ee_ixU (ee_ixV (i := 0) (ee_c rfl)) (ee_c rfl)) (ee_c rfl) rd_eq)))
 (es_drop (ee_popO (ee_ixV (i := 0) (ee_c rfl)) (ee_c rfl)))
 es_next))
 (es_seq (es_ifS (et_test (ee_op (ee_ixV (i := 0) (ee_c rfl)) (ee_frz (eo_lst ea_nil)) rd_ne))
 (es_seq (es_asg (ee_cb (ea_cons (ee_popO (ee_ixV (i := 0) (ee_c rfl)) (ee_c rfl)) ea_nil) rc_int) (eg_name (i := 4)))
 (es_seq (es_drop (ee_insO (ee_ixV (i := 0) (ee_c rfl)) (ea_cons (ee_c rfl) (ea_cons (ee_op (ee_var (i := 4)) (ee_var (i := 1)) rd_div) ea_nil))))
 (es_ret (ee_op (ee_cb (ea_cons (ee_var (i := 4)) ea_nil) rc_int) (ee_var (i := 1)) rd_mod))))
 es_next)
 (es_seq (es_setO (ee_op (ee_cb (ea_cons (ee_op (ee_op (ee_ixV (i := 0) (ee_c rfl)) (ee_c rfl) rd_mul) (ee_c rfl) rd_add) ea_nil) rc_int) (ee_c rfl) rd_mod) (ee_var (i := 0)) (ee_c rfl))
 (es_seq (es_asg (ee_ixV (i := 0) (ee_c rfl)) (eg_name (i := 3)))
 (es_seq (es_for (ei_rng1 (ea_cons (ee_c rfl) ea_nil)) (eg_name (i := 2))
 (es_ifS (et_test (ee_op (ee_var (i := 1)) (ee_op (ee_c rfl) (ee_c rfl) rd_pow) rd_B0))
 (es_seq (es_setO (ee_op (ee_cb (ea_cons (ee_op (ee_op (ee_ixV (i := 0) (ee_c rfl)) (ee_c rfl) rd_mul) (ee_c rfl) rd_add) ea_nil) rc_int) (ee_c rfl) rd_mod) (ee_var (i := 0)) (ee_c rfl))
 (es_asg (ee_op (ee_op (ee_var (i := 3)) (ee_c rfl) rd_mul) (ee_ixV (i := 0) (ee_c rfl)) rd_add) (eg_name (i := 3))))
 es_next))
 (es_ret (ee_op (ee_cb (ea_cons (ee_op (ee_var (i := 3)) (ee_c rfl) rd_div) ea_nil) rc_int) (ee_var (i := 1)) rd_mod))))))))⟩
theorem ok_law_pick (X : Fs K mg) : FnOk P w K mg base CX0 2 X.f_law_pick.a X.f_law_pick.d ["box", "some"] (spM ⟨K, w⟩ 2 (m_law_pick X.c)) := by
  refine X.f_law_pick.F.ok (k := 1) (N := N_law_pick) sc_law_pick (fun _ _ _ _ h => spM_len h) fun cdv A outer s H vs Q E hr h => ?_
  have hv := hv_of hr
  exact ⟨_, PSs.nox ((pss_one (ps_ret (pe_ixU hv (pv 1) (pe_call (ok_law_draw X) (hr.mono (by omega)) rfl X.g_law_draw X.f_law_draw.F.kp (b_law_draw X) .nil pass0 (pa_cons (pv 0) (pa_cons (pe_callB call_len_seq rfl X.z_len bt_len (pa_cons (pv 1) pa_nil)) pa_nil))) (by intro _ _; rfl))))),
   body_ok (n := 2) (k := 0) rfl h ((es_ret (ee_ixV (i := 1) (ee_call (ea_cons (ee_var (i := 0)) (ea_cons (ee_lenV (i := 1)) ea_nil))))))⟩
theorem ok_law_tells (X : Fs K mg) : FnOk P w K mg base CX0 1 X.f_law_tells.a X.f_law_tells.d ["value", "due"] (spM ⟨K, w⟩ 2 (m_law_tells X.c)) := by
  refine X.f_law_tells.F.ok (k := 0) (N := N_law_tells) sc_law_tells (fun _ _ _ _ h => spM_len h) fun cdv A outer s H vs Q E hr h => ?_
  have hv := hv_of hr
  exact ⟨_, PSs.nox ((pss_one (ps_ret (pe_ifExp (pt_truth (pv 1) (by intro _; rfl)) (pe_cmpR op_isU (pv 0) pe_bl (nomark _)) (pe_cmpR op_isU (pv 0) pe_bl (nomark _)))))),
   body_ok (n := 2) (k := 0) rfl h ((es_ret (ee_if (et_truV (i := 1)) (ee_op (ee_var (i := 0)) (ee_c rfl) rd_is) (ee_op (ee_var (i := 0)) (ee_c rfl) rd_is))))⟩
theorem ok_is_sequence (X : Fs K mg) : FnOk P w K mg base CX0 1 X.f_is_sequence.a X.f_is_sequence.d ["value"] (spM ⟨K, w⟩ 1 (m_is_sequence X.c)) := by
  refine X.f_is_sequence.F.ok (k := 0) (N := N_is_sequence) sc_is_sequence (fun _ _ _ _ h => spM_len h) fun cdv A outer s H vs Q E hr h => ?_
  have hv := hv_of hr
  exact ⟨_, PSs.nox ((pss_one (ps_ret (pe_callB call_isiT rfl X.z_isinstance bt_isinstance (pa_cons (pv 0) (pa_cons (pe_tup (pa_cons (pe_bltn (v := .ty "list") rfl X.z_list bt_list rfl) (pa_cons (pe_bltn (v := .ty "tuple") rfl X.z_tuple bt_tuple rfl) pa_nil))) pa_nil)))))),
   body_ok (n := 1) (k := 0) rfl h ((es_ret (ee_isiT (cs := ["list", "tuple"]) (ee_var (i := 0)) (by decide) (by decide))))⟩
theorem ok_stores_wrong (X : Fs K mg) : FnOk P w K mg base CX0 2 X.f_stores_wrong.a X.f_stores_wrong.d ["floors", "caps"] (spM ⟨K, w⟩ 2 (m_stores_wrong X.c)) := by
  refine X.f_stores_wrong.F.ok (k := 1) (N := N_stores_wrong) sc_stores_wrong (fun _ _ _ _ h => spM_len h) fun cdv A outer s H vs Q E hr h => ?_
  have hv := hv_of hr
  exact ⟨_, PSs.nox ((pss_cons (ps_for PassesOwn.never rfl (pi_seqE (pe_tup (pa_cons (pv 0) (pa_cons (pv 1) pa_nil)))) (pg_name (i := 2) sc_stores_wrong.nd rfl (by first | exact Or.inl rfl | exact Or.inr rfl))
 (pss_one (ps_if (PW.pt (pw_or (pt_not (pt_truth (pe_call (ok_is_sequence X) (hr.mono (by omega)) rfl X.g_is_sequence X.f_is_sequence.F.kp (b_is_sequence X) .nil pass0 (pa_cons (pv 2) pa_nil)) (by intro _; rfl))) (pw_or1 (pt_not (pt_chain op_le op_le pe_int (pe_callB call_len_seq rfl X.z_len bt_len (pa_cons (pv 2) pa_nil)) (pe_glob (v := (.int 3)) rfl X.k_MOST_STORES.choose_spec ⟨_, rfl⟩) )))))
 (pss_one (ps_ret (pe_un un_neg pe_int)))
 pss_nil)))
 (pss_cons (ps_if (pt_cmpR (op_neM hv) (pe_callB call_len_seq rfl X.z_len bt_len (pa_cons (pv 0) pa_nil)) (pe_callB call_len_seq rfl X.z_len bt_len (pa_cons (pv 1) pa_nil)) (nomark _))
 (pss_one (ps_ret (pe_un un_neg pe_int)))
 pss_nil)
 (pss_cons (ps_for PassesOwn.never rfl (pi_enumB rfl X.z_enumerate (pa_cons (pv 0) pa_nil)) (pg_tupU (n := 2) rfl (pgs_cons (pg_name (i := 3) sc_stores_wrong.nd rfl (by first | exact Or.inl rfl | exact Or.inr rfl)) (pgs_cons (pg_name (i := 4) sc_stores_wrong.nd rfl (by first | exact Or.inl rfl | exact Or.inr rfl)) pgs_nil)))
 (pss_one (ps_if (PW.pt (pw_or (pt_not (pt_truth (pe_call (ok_is_integer X) (hr.mono (by omega)) rfl X.g_is_integer X.f_is_integer.F.kp (b_is_integer X) .nil pass0 (pa_cons (pv 4) pa_nil)) (by intro _; rfl))) (pw_or (pt_not (pt_truth (pe_call (ok_is_integer X) (hr.mono (by omega)) rfl X.g_is_integer X.f_is_integer.F.kp (b_is_integer X) .nil pass0 (pa_cons (pe_ixU hv (pv 1) (pv 3) (by intro _ _; rfl)) pa_nil)) (by intro _; rfl))) (pw_or1 (pt_cmpR op_gt (pv 4) (pe_ixU hv (pv 1) (pv 3) (by intro _ _; rfl)) (nomark _))))))
 (pss_one (ps_ret (pv 3)))
 pss_nil)))
 (pss_one (ps_ret pe_non)))))),
   body_ok (n := 2) (k := 3) rfl h ((es_seq (es_for (ei_seq (ee_tup (ea_cons (ee_var (i := 0)) (ea_cons (ee_var (i := 1)) ea_nil)))) (eg_name (i := 2))
 (es_ifS (et_or (et_not (et_tru (ee_call (ea_cons (ee_var (i := 2)) ea_nil)))) (et_not (et_test (ee_chain (ee_c rfl) (ee_lenV (i := 2)) (ee_c rfl) rd_B0 rd_B0))))
 (es_ret (ee_un (ee_c rfl) ru_U))
 es_next))
 (es_seq (es_ifS (et_test (ee_op (ee_lenV (i := 0)) (ee_lenV (i := 1)) rd_ne))
 (es_ret (ee_un (ee_c rfl) ru_U))
 es_next)
 (es_seq (es_for (ei_enum (ea_cons (ee_var (i := 0)) ea_nil)) (eg_tup (n := 2) (eg_cons (eg_name (i := 3)) (eg_cons (eg_name (i := 4)) eg_nil)))
 (es_ifS (et_or (et_not (et_tru (ee_call (ea_cons (ee_var (i := 4)) ea_nil)))) (et_or (et_not (et_tru (ee_call (ea_cons (ee_ixV (i := 1) (ee_var (i := 3))) ea_nil)))) (et_test (ee_op (ee_var (i := 4)) (ee_ixV (i := 1) (ee_var (i := 3))) rd_B0))))
 (es_ret (ee_var (i := 3)))
 es_next))
 (es_ret (ee_c rfl))))))⟩
theorem ok_is_row (X : Fs K mg) : FnOk P w K mg base CX0 2 X.f_is_row.a X.f_is_row.d ["value", "many"] (spM ⟨K, w⟩ 2 (m_is_row X.c)) := by
  refine X.f_is_row.F.ok (k := 1) (N := N_is_row) sc_is_row (fun _ _ _ _ h => spM_len h) fun cdv A outer s H vs Q E hr h => ?_
  have hv := hv_of hr
  exact ⟨_, PSs.nox ((pss_one (ps_ret (pe_and (pe_call (ok_is_sequence X) (hr.mono (by omega)) rfl X.g_is_sequence X.f_is_sequence.F.kp (b_is_sequence X) .nil pass0 (pa_cons (pv 0) pa_nil)) (pe_one (pe_cmpR (op_eqM hv) (pe_callB call_len_seq rfl X.z_len bt_len (pa_cons (pv 0) pa_nil)) (pv 1) (nomark _))))))),
   body_ok (n := 2) (k := 0) rfl h ((es_ret (ee_andV (ee_call (ea_cons (ee_var (i := 0)) ea_nil)) (ee_op (ee_lenV (i := 0)) (ee_var (i := 1)) rd_eq))))⟩
theorem ok_are_thresholds (X : Fs K mg) : FnOk P w K mg base CX0 3 X.f_are_thresholds.a X.f_are_thresholds.d ["floor", "cap", "value"] (spM ⟨K, w⟩ 3 (m_are_thresholds X.c)) := by
  refine X.f_are_thresholds.F.ok (k := 2) (N := N_are_thresholds) sc_are_thresholds (fun _ _ _ _ h => spM_len h) fun cdv A outer s H vs Q E hr h => ?_
  have hv := hv_of hr
  exact ⟨_, PSs.nox ((pss_cons (ps_if (PW.pt (pw_or (pt_not (pt_truth (pe_call (ok_is_sequence X) (hr.mono (by omega)) rfl X.g_is_sequence X.f_is_sequence.F.kp (b_is_sequence X) .nil pass0 (pa_cons (pv 2) pa_nil)) (by intro _; rfl))) (pw_or1 (pt_cmpR op_gt (pe_callB call_len_seq rfl X.z_len bt_len (pa_cons (pv 2) pa_nil)) (pe_glob (v := (.int 6)) rfl X.k_MOST_THRESHOLDS.choose_spec ⟨_, rfl⟩) (nomark _)))))
 (pss_one (ps_ret pe_bl))
 pss_nil)
 (pss_cons (ps_if (pt_not (pt_truth (pe_callB (cr_all rfl) rfl X.z_all bt_all (pa_cons (pe_lc (own := [("part", 5)]) (g := (gName 5)) rfl sc_are_thresholds.nd (pi_seqE (pv 2)) (blkOk_by (N := N_are_thresholds) (sc := defScope s_are_thresholds) (by decide +kernel)) (fun _ _ _ _ _ => (pg_name (i := 5) sc_are_thresholds.nd rfl (by first | exact Or.inl rfl | exact Or.inr rfl))) (fun _ _ _ _ _ => pts_nil) (fun _ _ _ _ _ => (pe_call (ok_is_between X) (hr.mono (by omega)) rfl X.g_is_between X.f_is_between.F.kp (b_is_between X) .nil pass0 (pa_cons (pv 5) (pa_cons (pe_op op_addU (pv 0) pe_int) (pa_cons (pv 1) pa_nil)))))) pa_nil)) (by intro _; rfl)))
 (pss_one (ps_ret pe_bl))
 pss_nil)
 (pss_one (ps_ret (pe_callB (cr_all rfl) rfl X.z_all bt_all (pa_cons (pe_lc (own := [("one", 3), ("other", 4)]) (g := (gTupU _ 2 (gCons (gName 3) (gCons (gName 4) gNil)))) rfl sc_are_thresholds.nd (pi_zipB rfl X.z_zip (pa_cons (pv 2) (pa_cons (pe_slice sl_U (pv 2) (po_some pe_int) po_none) pa_nil))) (blkOk_by (N := N_are_thresholds) (sc := defScope s_are_thresholds) (by decide +kernel)) (fun _ _ _ _ _ => (pg_tupU (n := 2) rfl (pgs_cons (pg_name (i := 3) sc_are_thresholds.nd rfl (by first | exact Or.inl rfl | exact Or.inr rfl)) (pgs_cons (pg_name (i := 4) sc_are_thresholds.nd rfl (by first | exact Or.inl rfl | exact Or.inr rfl)) pgs_nil)))) (fun _ _ _ _ _ => pts_nil) (fun _ _ _ _ _ => (pe_cmpR op_lt (pv 3) (pv 4) (nomark _)))) pa_nil))))))),
   body_ok (n := 3) (k := 3) rfl h ((es_seq (es_ifS (et_or (et_not (et_tru (ee_call (ea_cons (ee_var (i := 2)) ea_nil)))) (et_test (ee_op (ee_lenV (i := 2)) (ee_c rfl) rd_B0)))
 (es_ret (ee_c rfl))
 es_next)
 (es_seq (es_ifS (et_not (et_tru (ee_cb (ea_cons (ee_frz (eo_lc (vs := [5]) (ei_seq (ee_var (i := 2))) (eg_name (i := 5)) (by decide) et_yes (ee_call (ea_cons (ee_var (i := 5)) (ea_cons (ee_op (ee_var (i := 0)) (ee_c rfl) rd_add) (ea_cons (ee_var (i := 1)) ea_nil)))))) ea_nil) rc_all)))
 (es_ret (ee_c rfl))
 es_next)
 (es_ret (ee_cb (ea_cons (ee_frz (eo_lc (vs := [3, 4]) (ei_zip (ea_cons (ee_var (i := 2)) (ea_cons (ee_sl (ee_var (i := 2)) (eo_part (ee_c rfl)) eo_no) ea_nil))) (eg_tup (n := 2) (eg_cons (eg_name (i := 3)) (eg_cons (eg_name (i := 4)) eg_nil))) (by decide) et_yes (ee_op (ee_var (i := 3)) (ee_var (i := 4)) rd_B0))) ea_nil) rc_all)))))⟩
theorem ok_is_move (X : Fs K mg) : FnOk P w K mg base CX0 3 X.f_is_move.a X.f_is_move.d ["bounds", "modes", "value"] (spM ⟨K, w⟩ 3 (m_is_move X.c)) := by
  refine X.f_is_move.F.ok (k := 2) (N := N_is_move) sc_is_move (fun _ _ _ _ h => spM_len h) fun cdv A outer s H vs Q E hr h => ?_
  have hv := hv_of hr
  exact ⟨_, PSs.nox ((pss_cons (ps_if (PW.pt (pw_or (pt_not (pt_truth (pe_call (ok_is_row X) (hr.mono (by omega)) rfl X.g_is_row X.f_is_row.F.kp (b_is_row X) .nil pass0 (pa_cons (pv 2) (pa_cons pe_int pa_nil))) (by intro _; rfl))) (pw_or (pt_not (pt_truth (pe_call (ok_is_below X) (hr.mono (by omega)) rfl X.g_is_below X.f_is_below.F.kp (b_is_below X) .nil pass0 (pa_cons (pe_ixU hv (pv 2) pe_int (by intro _ _; rfl)) (pa_cons (pv 1) pa_nil))) (by intro _; rfl))) (pw_or1 (pt_not (pt_truth (pe_call (ok_is_row X) (hr.mono (by omega)) rfl X.g_is_row X.f_is_row.F.kp (b_is_row X) .nil pass0 (pa_cons (pe_ixU hv (pv 2) pe_int (by intro _ _; rfl)) (pa_cons (pe_callB call_len_seq rfl X.z_len bt_len (pa_cons (pv 0) pa_nil)) pa_nil))) (by intro _; rfl)))))))
 (pss_one (ps_ret pe_bl))
 pss_nil)
 (pss_cons (ps_for PassesOwn.never rfl (pi_zipB rfl X.z_zip (pa_cons (pv 0) (pa_cons (pe_ixU hv (pv 2) pe_int (by intro _ _; rfl)) pa_nil))) (pg_tupU (n := 2) rfl (pgs_cons (pg_tupU (n := 2) rfl (pgs_cons (pg_name (i := 3) sc_is_move.nd rfl (by first | exact Or.inl rfl | exact Or.inr rfl)) (pgs_cons (pg_name (i := 4) sc_is_move.nd rfl (by first | exact Or.inl rfl | exact Or.inr rfl)) pgs_nil))) (pgs_cons (pg_name (i := 5) sc_is_move.nd rfl (by first | exact Or.inl rfl | exact Or.inr rfl)) pgs_nil)))
 (pss_one (ps_if (PW.pt (pw_or (pt_not (pt_truth (pe_call (ok_is_row X) (hr.mono (by omega)) rfl X.g_is_row X.f_is_row.F.kp (b_is_row X) .nil pass0 (pa_cons (pv 5) (pa_cons pe_int pa_nil))) (by intro _; rfl))) (pw_or (pt_not (pt_truth (pe_call (ok_is_integer X) (hr.mono (by omega)) rfl X.g_is_integer X.f_is_integer.F.kp (b_is_integer X) .nil pass0 (pa_cons (pe_ixU hv (pv 5) pe_int (by intro _ _; rfl)) pa_nil)) (by intro _; rfl))) (pw_or1 (pt_not (pt_truth (pe_call (ok_is_between X) (hr.mono (by omega)) rfl X.g_is_between X.f_is_between.F.kp (b_is_between X) .nil pass0 (pa_cons (pe_ixU hv (pv 5) pe_int (by intro _ _; rfl)) (pa_cons (pv 3) (pa_cons (pv 4) pa_nil)))) (by intro _; rfl)))))))
 (pss_one (ps_ret pe_bl))
 pss_nil)))
 (pss_one (ps_ret pe_bl))))),
   body_ok (n := 3) (k := 3) rfl h ((es_seq (es_ifS (et_or (et_not (et_tru (ee_call (ea_cons (ee_var (i := 2)) (ea_cons (ee_c rfl) ea_nil))))) (et_or (et_not (et_tru (ee_call (ea_cons (ee_ixV (i := 2) (ee_c rfl)) (ea_cons (ee_var (i := 1)) ea_nil))))) (et_not (et_tru (ee_call (ea_cons (ee_ixV (i := 2) (ee_c rfl)) (ea_cons (ee_lenV (i := 0)) ea_nil)))))))
 (es_ret (ee_c rfl))
 es_next)
 (es_seq (es_for (ei_zip (ea_cons (ee_var (i := 0)) (ea_cons (ee_ixV (i := 2) (ee_c rfl)) ea_nil))) (eg_tup (n := 2) (eg_cons (eg_tup (n := 2) (eg_cons (eg_name (i := 3)) (eg_cons (eg_name (i := 4)) eg_nil))) (eg_cons (eg_name (i := 5)) eg_nil)))
 (es_ifS (et_or (et_not (et_tru (ee_call (ea_cons (ee_var (i := 5)) (ea_cons (ee_c rfl) ea_nil))))) (et_or (et_not (et_tru (ee_call (ea_cons (ee_ixV (i := 5) (ee_c rfl)) ea_nil)))) (et_not (et_tru (ee_call (ea_cons (ee_ixV (i := 5) (ee_c rfl)) (ea_cons (ee_var (i := 3)) (ea_cons (ee_var (i := 4)) ea_nil))))))))
 (es_ret (ee_c rfl))
 es_next))
 (es_ret (ee_c rfl)))))⟩
theorem ok_is_mode (X : Fs K mg) : FnOk P w K mg base CX0 4 X.f_is_mode.a X.f_is_mode.d ["bounds", "letters", "modes", "value"] (spM ⟨K, w⟩ 4 (m_is_mode X.c)) := by
  refine X.f_is_mode.F.ok (k := 3) (N := N_is_mode) sc_is_mode (fun _ _ _ _ h => spM_len h) fun cdv A outer s H vs Q E hr h => ?_
  have hv := hv_of hr
  exact ⟨_, PSs.nox ((pss_cons (ps_if (PW.pt (pw_or (pt_not (pt_truth (pe_call (ok_is_row X) (hr.mono (by omega)) rfl X.g_is_row X.f_is_row.F.kp (b_is_row X) .nil pass0 (pa_cons (pv 3) (pa_cons pe_int pa_nil))) (by intro _; rfl))) (pw_or1 (pt_not (pt_truth (pe_call (ok_is_row X) (hr.mono (by omega)) rfl X.g_is_row X.f_is_row.F.kp (b_is_row X) .nil pass0 (pa_cons (pe_ixU hv (pv 3) pe_int (by intro _ _; rfl)) (pa_cons (pe_callB call_len_seq rfl X.z_len bt_len (pa_cons (pv 0) pa_nil)) pa_nil))) (by intro _; rfl))))))
 (pss_one (ps_ret pe_bl))
 pss_nil)
 (pss_cons (ps_set (i := 4) sc_is_mode.nd rfl (by first | exact Or.inl rfl | exact Or.inr rfl) pe_int)
 (pss_cons (ps_for PassesOwn.never rfl (pi_zipB rfl X.z_zip (pa_cons (pv 0) (pa_cons (pe_ixU hv (pv 3) pe_int (by intro _ _; rfl)) pa_nil))) (pg_tupU (n := 2) rfl (pgs_cons (pg_tupU (n := 2) rfl (pgs_cons (pg_name (i := 5) sc_is_mode.nd rfl (by first | exact Or.inl rfl | exact Or.inr rfl)) (pgs_cons (pg_name (i := 6) sc_is_mode.nd rfl (by first | exact Or.inl rfl | exact Or.inr rfl)) pgs_nil))) (pgs_cons (pg_name (i := 7) sc_is_mode.nd rfl (by first | exact Or.inl rfl | exact Or.inr rfl)) pgs_nil)))
 (pss_cons (ps_if (pt_not (pt_truth (pe_call (ok_are_thresholds X) (hr.mono (by omega)) rfl X.g_are_thresholds X.f_are_thresholds.F.kp (b_are_thresholds X) .nil pass0 (pa_cons (pv 5) (pa_cons (pv 6) (pa_cons (pv 7) pa_nil)))) (by intro _; rfl)))
 (pss_one (ps_ret pe_bl))
 pss_nil)
 (pss_one (ps_set (i := 4) sc_is_mode.nd rfl (by first | exact Or.inl rfl | exact Or.inr rfl) (pe_op op_mulW (pv 4) (pe_op op_addU (pe_callB call_len_seq rfl X.z_len bt_len (pa_cons (pv 7) pa_nil)) pe_int))))))
 (pss_cons (ps_if (pt_not (pt_truth (pe_call (ok_is_row X) (hr.mono (by omega)) rfl X.g_is_row X.f_is_row.F.kp (b_is_row X) .nil pass0 (pa_cons (pe_ixU hv (pv 3) pe_int (by intro _ _; rfl)) (pa_cons (pv 4) pa_nil))) (by intro _; rfl)))
 (pss_one (ps_ret pe_bl))
 pss_nil)
 (pss_cons (ps_for PassesOwn.never rfl (pi_seqE (pe_ixU hv (pv 3) pe_int (by intro _ _; rfl))) (pg_name (i := 8) sc_is_mode.nd rfl (by first | exact Or.inl rfl | exact Or.inr rfl))
 (pss_one (ps_if (PW.pt (pw_or (pt_not (pt_truth (pe_call (ok_is_row X) (hr.mono (by omega)) rfl X.g_is_row X.f_is_row.F.kp (b_is_row X) .nil pass0 (pa_cons (pv 8) (pa_cons (pv 1) pa_nil))) (by intro _; rfl))) (pw_or1 (pt_not (pt_truth (pe_callB (cr_all rfl) rfl X.z_all bt_all (pa_cons (pe_lc (own := [("move", 9)]) (g := (gName 9)) rfl sc_is_mode.nd (pi_seqE (pv 8)) (blkOk_by (N := N_is_mode) (sc := defScope s_is_mode) (by decide +kernel)) (fun _ _ _ _ _ => (pg_name (i := 9) sc_is_mode.nd rfl (by first | exact Or.inl rfl | exact Or.inr rfl))) (fun _ _ _ _ _ => pts_nil) (fun _ _ _ _ _ => (pe_call (ok_is_move X) (hr.mono (by omega)) rfl X.g_is_move X.f_is_move.F.kp (b_is_move X) .nil pass0 (pa_cons (pv 0) (pa_cons (pv 2) (pa_cons (pv 9) pa_nil)))))) pa_nil)) (by intro _; rfl))))))
 (pss_one (ps_ret pe_bl))
 pss_nil)))
 (pss_one (ps_ret pe_bl)))))))),
   body_ok (n := 4) (k := 6) rfl h ((es_seq (es_ifS (et_or (et_not (et_tru (ee_call (ea_cons (ee_var (i := 3)) (ea_cons (ee_c rfl) ea_nil))))) (et_not (et_tru (ee_call (ea_cons (ee_ixV (i := 3) (ee_c rfl)) (ea_cons (ee_lenV (i := 0)) ea_nil))))))
 (es_ret (ee_c rfl))
 es_next)
 (es_seq (es_asg (ee_c rfl) (eg_name (i := 4)))
 (es_seq (es_for (ei_zip (ea_cons (ee_var (i := 0)) (ea_cons (ee_ixV (i := 3) (ee_c rfl)) ea_nil))) (eg_tup (n := 2) (eg_cons (eg_tup (n := 2) (eg_cons (eg_name (i := 5)) (eg_cons (eg_name (i := 6)) eg_nil))) (eg_cons (eg_name (i := 7)) eg_nil)))
 (es_seq (es_ifS (et_not (et_tru (ee_call (ea_cons (ee_var (i := 5)) (ea_cons (ee_var (i := 6)) (ea_cons (ee_var (i := 7)) ea_nil))))))
 (es_ret (ee_c rfl))
 es_next)
 (es_asg (ee_op (ee_var (i := 4)) (ee_op (ee_lenV (i := 7)) (ee_c rfl) rd_add) rd_mul) (eg_name (i := 4)))))
 (es_seq (es_ifS (et_not (et_tru (ee_call (ea_cons (ee_ixV (i := 3) (ee_c rfl)) (ea_cons (ee_var (i := 4)) ea_nil)))))
 (es_ret (ee_c rfl))
 es_next)
 (es_seq (es_for (ei_seq (ee_ixV (i := 3) (ee_c rfl))) (eg_name (i := 8))
 (es_ifS (et_or (et_not (et_tru (ee_call (ea_cons (ee_var (i := 8)) (ea_cons (ee_var (i := 1)) ea_nil))))) (et_not (et_tru (ee_cb (ea_cons (ee_frz (eo_lc (vs := [9]) (ei_seq (ee_var (i := 8))) (eg_name (i := 9)) (by decide) et_yes (ee_call (ea_cons (ee_var (i := 0)) (ea_cons (ee_var (i := 2)) (ea_cons (ee_var (i := 9)) ea_nil)))))) ea_nil) rc_all))))
 (es_ret (ee_c rfl))
 es_next))
 (es_ret (ee_c rfl))))))))⟩
theorem ok_told_mode (X : Fs K mg) : FnOk P w K mg base CX0 1 X.f_told_mode.a X.f_told_mode.d ["mode"] (spM ⟨K, w⟩ 1 (m_told_mode X.c)) := by
  refine X.f_told_mode.F.ok (k := 0) (N := N_told_mode) sc_told_mode (fun _ _ _ _ h => spM_len h) fun cdv A outer s H vs Q E hr h => ?_
  have hv := hv_of hr
  exact ⟨_, PSs.nox ((pss_cons (ps_set (i := 1) sc_told_mode.nd rfl (by first | exact Or.inl rfl | exact Or.inr rfl) (pe_callTy call_tuple_of rfl X.z_tuple bt_tuple (pa_cons (pe_lc (own := [("row", 5)]) (g := (gName 5)) rfl sc_told_mode.nd (pi_seqE (pe_ixU hv (pv 0) pe_int (by intro _ _; rfl))) (blkOk_by (N := N_told_mode) (sc := defScope s_told_mode) (by decide +kernel)) (fun _ _ _ _ _ => (pg_name (i := 5) sc_told_mode.nd rfl (by first | exact Or.inl rfl | exact Or.inr rfl))) (fun _ _ _ _ _ => pts_nil) (fun _ _ _ _ _ => (pe_callTy call_tuple_of rfl X.z_tuple bt_tuple (pa_cons (pv 5) pa_nil)))) pa_nil)))
 (pss_cons (ps_set (i := 2) sc_told_mode.nd rfl (by first | exact Or.inl rfl | exact Or.inr rfl) (pe_lst pa_nil))
 (pss_cons (ps_for PassesOwn.never rfl (pi_seqE (pe_ixU hv (pv 0) pe_int (by intro _ _; rfl))) (pg_name (i := 3) sc_told_mode.nd rfl (by first | exact Or.inl rfl | exact Or.inr rfl))
 (pss_cons (ps_setLc (i := 4) (own := [("move", 6)]) (g := (gName 6)) rfl sc_told_mode.nd rfl rfl (sw_true rfl rfl rfl (by decide +kernel)) (pi_seqE (pv 3)) (blkOk_by (N := N_told_mode) (sc := defScope s_told_mode) (by decide +kernel)) (fun _ _ _ _ _ => (pg_name (i := 6) sc_told_mode.nd rfl (by first | exact Or.inl rfl | exact Or.inr rfl))) (fun _ _ _ _ _ => pts_nil) (fun _ _ _ _ _ => (pe_tup (pa_cons (pe_ixU hv (pv 6) pe_int (by intro _ _; rfl)) (pa_cons (pe_callTy call_tuple_of rfl X.z_tuple bt_tuple (pa_cons (pe_lc (own := [("change", 7)]) (g := (gName 7)) rfl sc_told_mode.nd (pi_seqE (pe_ixU hv (pv 6) pe_int (by intro _ _; rfl))) (blkOk_by (by rfl)) (fun _ _ _ _ _ => (pg_name (i := 7) sc_told_mode.nd rfl (by first | exact Or.inl rfl | exact Or.inr rfl))) (fun _ _ _ _ _ => pts_nil) (fun _ _ _ _ _ => (pe_callTy call_tuple_of rfl X.z_tuple bt_tuple (pa_cons (pv 7) pa_nil)))) pa_nil)) pa_nil)))))
 (pss_one (ps_expr (pe_bm PySem.F.plainAttrs_list PySem.F.slot_list_append PySem.F.type_list_append mt_append (pv 2) (pa_cons (pe_callTy call_tuple_of rfl X.z_tuple bt_tuple (pa_cons (pv 4) pa_nil)) pa_nil))))))
 (pss_one (ps_ret (pe_tup (pa_cons (pv 1) (pa_cons (pe_callTy call_tuple_of rfl X.z_tuple bt_tuple (pa_cons (pv 2) pa_nil)) pa_nil))))))))),
   body_ok (n := 1) (k := 7) rfl h ((es_seq (es_asg (ee_cb (ea_cons (ee_frz (eo_lc (vs := [5]) (ei_seq (ee_ixV (i := 0) (ee_c rfl))) (eg_name (i := 5)) (by decide) et_yes (ee_cb (ea_cons (ee_var (i := 5)) ea_nil) rc_tuple))) ea_nil) rc_tuple) (eg_name (i := 1)))
 (es_seq (es_own (i := 2) (eo_lst ea_nil))
 (es_seq (es_for (ei_seq (ee_ixV (i := 0) (ee_c rfl))) (eg_name (i := 3))
 (es_seq (es_asg (ee_frz (eo_lc (vs := [6]) (ei_seq (ee_var (i := 3))) (eg_name (i := 6)) (by decide) et_yes (ee_tup (ea_cons (ee_ixV (i := 6) (ee_c rfl)) (ea_cons (ee_cb (ea_cons (ee_frz (eo_lc (vs := [7]) (ei_seq (ee_ixV (i := 6) (ee_c rfl))) (eg_name (i := 7)) (by decide) et_yes (ee_cb (ea_cons (ee_var (i := 7)) ea_nil) rc_tuple))) ea_nil) rc_tuple) ea_nil))))) (eg_name (i := 4)))
 (es_drop (ee_appV (i := 2) (ee_cb (ea_cons (ee_var (i := 4)) ea_nil) rc_tuple)))))
 (es_ret (ee_tup (ea_cons (ee_var (i := 1)) (ea_cons (ee_cb (ea_cons (ee_var (i := 2)) ea_nil) rc_tuple) ea_nil))))))))⟩
theorem ok_Station_init (X : Fs K mg) : FnOk P w K mg base CX0 5 X.f_Station_init.a X.f_Station_init.d ["self", "floors", "caps", "letters", "modes"] (spI ⟨K, w⟩ X.c.Station 4 (m_Station_init X.c)) := by
  refine X.f_Station_init.F.ok (k := 4) (N := N_Station_init) sc_Station_init (fun _ _ _ _ h => spI_len h) fun cdv A outer s H vs Q E hr h => ?_
  have hv := hv_of hr
  exact ⟨_, PSs.nox ((pss_cons (ps_set (i := 5) sc_Station_init.nd rfl (by first | exact Or.inl rfl | exact Or.inr rfl) (pe_call (ok_stores_wrong X) (hr.mono (by omega)) rfl X.g_stores_wrong X.f_stores_wrong.F.kp (b_stores_wrong X) .nil pass0 (pa_cons (pv 1) (pa_cons (pv 2) pa_nil))))
 (pss_cons (ps_if (pt_cmpR op_notN (pv 5) pe_non (nomark _))
 pss_never
 pss_nil)
 (pss_cons (ps_if (pt_not (pt_truth (pe_call (ok_is_between X) (hr.mono (by omega)) rfl X.g_is_between X.f_is_between.F.kp (b_is_between X) .nil pass0 (pa_cons (pv 3) (pa_cons pe_int (pa_cons (pe_glob (v := (.int 6)) rfl X.k_MOST_LETTERS.choose_spec ⟨_, rfl⟩) pa_nil)))) (by intro _; rfl)))
 pss_never
 pss_nil)
 (pss_cons (ps_if (PW.pt (pw_or (pt_not (pt_truth (pe_call (ok_is_sequence X) (hr.mono (by omega)) rfl X.g_is_sequence X.f_is_sequence.F.kp (b_is_sequence X) .nil pass0 (pa_cons (pv 4) pa_nil)) (by intro _; rfl))) (pw_or1 (pt_not (pt_chain op_le op_le pe_int (pe_callB call_len_seq rfl X.z_len bt_len (pa_cons (pv 4) pa_nil)) (pe_glob (v := (.int 60)) rfl X.k_MOST_MODES.choose_spec ⟨_, rfl⟩) )))))
 pss_never
 pss_nil)
 (pss_cons (ps_set (i := 6) sc_Station_init.nd rfl (by first | exact Or.inl rfl | exact Or.inr rfl) (pe_listZip rfl X.z_list rfl X.z_zip (pa_cons (pv 1) (pa_cons (pv 2) pa_nil))))
 (pss_cons (ps_for PassesOwn.never rfl (pi_enumB rfl X.z_enumerate (pa_cons (pv 4) pa_nil)) (pg_tupU (n := 2) rfl (pgs_cons (pg_name (i := 5) sc_Station_init.nd rfl (by first | exact Or.inl rfl | exact Or.inr rfl)) (pgs_cons (pg_name (i := 7) sc_Station_init.nd rfl (by first | exact Or.inl rfl | exact Or.inr rfl)) pgs_nil)))
 (pss_one (ps_if (pt_not (pt_truth (pe_call (ok_is_mode X) (hr.mono (by omega)) rfl X.g_is_mode X.f_is_mode.F.kp (b_is_mode X) .nil pass0 (pa_cons (pv 6) (pa_cons (pv 3) (pa_cons (pe_callB call_len_seq rfl X.z_len bt_len (pa_cons (pv 4) pa_nil)) (pa_cons (pv 7) pa_nil))))) (by intro _; rfl)))
 pss_never
 pss_nil)))
 (pss_cons (ps_fld (pv 0) (pe_callTy call_tuple_of rfl X.z_tuple bt_tuple (pa_cons (pv 1) pa_nil)) rfl)
 (pss_cons (ps_fld (pv 0) (pe_callTy call_tuple_of rfl X.z_tuple bt_tuple (pa_cons (pv 2) pa_nil)) rfl)
 (pss_cons (ps_fld (pv 0) (pv 3) rfl)
 (pss_one (ps_fld (pv 0) (pe_callTy call_tuple_of rfl X.z_tuple bt_tuple (pa_cons (pe_lc (own := [("mode", 7)]) (g := (gName 7)) rfl sc_Station_init.nd (pi_seqE (pv 4)) (blkOk_by (N := N_Station_init) (sc := defScope s_Station_init) (by decide +kernel)) (fun _ _ _ _ _ => (pg_name (i := 7) sc_Station_init.nd rfl (by first | exact Or.inl rfl | exact Or.inr rfl))) (fun _ _ _ _ _ => pts_nil) (fun _ _ _ _ _ => (pe_call (ok_told_mode X) (hr.mono (by omega)) rfl X.g_told_mode X.f_told_mode.F.kp (b_told_mode X) .nil pass0 (pa_cons (pv 7) pa_nil)))) pa_nil)) rfl)))))))))))),
   init_ok (n := 4) (k := 3) rfl h ((es_seq (es_asg (ee_call (ea_cons (ee_var (i := 1)) (ea_cons (ee_var (i := 2)) ea_nil))) (eg_name (i := 5)))
 (es_seq (es_ifS (et_test (ee_op (ee_var (i := 5)) (ee_c rfl) rd_isNot))
 es_never
 es_next)
 (es_seq (es_ifS (et_not (et_tru (ee_call (ea_cons (ee_var (i := 3)) (ea_cons (ee_c rfl) (ea_cons (ee_c rfl) ea_nil))))))
 es_never
 es_next)
 (es_seq (es_ifS (et_or (et_not (et_tru (ee_call (ea_cons (ee_var (i := 4)) ea_nil)))) (et_not (et_test (ee_chain (ee_c rfl) (ee_lenV (i := 4)) (ee_c rfl) rd_B0 rd_B0))))
 es_never
 es_next)
 (es_seq (es_asg (ee_listZip (ea_cons (ee_var (i := 1)) (ea_cons (ee_var (i := 2)) ea_nil))) (eg_name (i := 6)))
 (es_seq (es_for (ei_enum (ea_cons (ee_var (i := 4)) ea_nil)) (eg_tup (n := 2) (eg_cons (eg_name (i := 5)) (eg_cons (eg_name (i := 7)) eg_nil)))
 (es_ifS (et_not (et_tru (ee_call (ea_cons (ee_var (i := 6)) (ea_cons (ee_var (i := 3)) (ea_cons (ee_lenV (i := 4)) (ea_cons (ee_var (i := 7)) ea_nil)))))))
 es_never
 es_next))
 (es_seq (es_fldV (i := 0) (ee_cb (ea_cons (ee_var (i := 1)) ea_nil) rc_tuple) X.C_Station.cl X.n_Station_floors)
 (es_seq (es_fldV (i := 0) (ee_cb (ea_cons (ee_var (i := 2)) ea_nil) rc_tuple) X.C_Station.cl X.n_Station_caps)
 (es_seq (es_fldV (i := 0) (ee_var (i := 3)) X.C_Station.cl X.n_Station_letters)
 (es_fldV (i := 0) (ee_cb (ea_cons (ee_frz (eo_lc (vs := [7]) (ei_seq (ee_var (i := 4))) (eg_name (i := 7)) (by decide) et_yes (ee_call (ea_cons (ee_var (i := 7)) ea_nil)))) ea_nil) rc_tuple) X.C_Station.cl X.n_Station_modes)))))))))))⟩
theorem ok_law_made (X : Fs K mg) : FnOk P w K mg base CX0 7 X.f_law_made.a X.f_law_made.d ["house"] (spM ⟨K, w⟩ 1 (m_law_made X.c)) := by
  refine X.f_law_made.F.ok (k := 6) (N := N_law_made) sc_law_made (fun _ _ _ _ h => spM_len h) fun cdv A outer s H vs Q E hr h => ?_
  have hv := hv_of hr
  exact ⟨_, PSs.nox ((pss_one (ps_ret (pe_make X.M_Station (ok_Station_init X) (hr.mono (by omega)) rfl X.g_Station (b_Station_init X) .nil pass0 (pa_cons (pe_ixU hv (pv 0) pe_int (by intro _ _; rfl)) (pa_cons (pe_ixU hv (pv 0) pe_int (by intro _ _; rfl)) (pa_cons (pe_ixU hv (pv 0) pe_int (by intro _ _; rfl)) (pa_cons (pe_ixU hv (pv 0) pe_int (by intro _ _; rfl)) pa_nil)))))))),
   body_ok (n := 1) (k := 0) rfl h ((es_ret (ee_frz (eo_make (ea_cons (ee_ixV (i := 0) (ee_c rfl)) (ea_cons (ee_ixV (i := 0) (ee_c rfl)) (ea_cons (ee_ixV (i := 0) (ee_c rfl)) (ea_cons (ee_ixV (i := 0) (ee_c rfl)) ea_nil))))))))⟩
theorem ok_law_is_int (X : Fs K mg) : FnOk P w K mg base CX0 1 X.f_law_is_int.a X.f_law_is_int.d ["value"] (spM ⟨K, w⟩ 1 (m_law_is_int X.c)) := by
  refine X.f_law_is_int.F.ok (k := 0) (N := N_law_is_int) sc_law_is_int (fun _ _ _ _ h => spM_len h) fun cdv A outer s H vs Q E hr h => ?_
  have hv := hv_of hr
  exact ⟨_, PSs.nox ((pss_one (ps_ret (pe_and (pe_callB call_isi rfl X.z_isinstance bt_isinstance (pa_cons (pv 0) (pa_cons (pe_bltn (v := .ty "int") rfl X.z_int bt_int rfl) pa_nil))) (pe_one (pe_not (pe_callB call_isi rfl X.z_isinstance bt_isinstance (pa_cons (pv 0) (pa_cons (pe_bltn (v := .ty "bool") rfl X.z_bool bt_bool rfl) pa_nil))))))))),
   body_ok (n := 1) (k := 0) rfl h ((es_ret (ee_andV (ee_isi (c := "int") (ee_var (i := 0)) (by decide)) (ee_notV (ee_isi (c := "bool") (ee_var (i := 0)) (by decide))))))⟩
theorem ok_law_same (X : Fs K mg) : ∀ n : Nat, FnOk P w K mg base CX0 (2 + n) X.f_law_same.a X.f_law_same.d ["value", "due"] (spM ⟨K, w⟩ 2 (m_law_same X.c n))
 | 0 => X.f_law_same.F.ok (k := 1) (N := N_law_same) sc_law_same (fun _ _ _ _ h => spM_len h) fun cdv A outer s H vs Q E hr h => (spM_no h).elim
 | n + 1 => by
  have ih := ok_law_same X n
  refine X.f_law_same.F.ok (k := 2 + n) (N := N_law_same) sc_law_same (fun _ _ _ _ h => spM_len h) fun cdv A outer s H vs Q E hr h => ?_
  have hv := hv_of hr
  exact ⟨_, PSs.nox ((pss_cons (ps_if (pt_truth (pe_callB call_isi rfl X.z_isinstance bt_isinstance (pa_cons (pv 1) (pa_cons (pe_bltn (v := .ty "tuple") rfl X.z_tuple bt_tuple rfl) pa_nil))) (by intro _; rfl))
 (pss_cons (ps_if (PW.pt (pw_or (pt_not (pt_truth (pe_callB call_isi rfl X.z_isinstance bt_isinstance (pa_cons (pv 0) (pa_cons (pe_bltn (v := .ty "tuple") rfl X.z_tuple bt_tuple rfl) pa_nil))) (by intro _; rfl))) (pw_or1 (pt_cmpR (op_neM hv) (pe_callB call_len_seq rfl X.z_len bt_len (pa_cons (pv 0) pa_nil)) (pe_callB call_len_seq rfl X.z_len bt_len (pa_cons (pv 1) pa_nil)) (nomark _)))))
 (pss_one (ps_ret pe_bl))
 pss_nil)
 (pss_one (ps_ret (pe_cmpR (op_eqM hv) (pe_lc (own := [("at", 2)]) (g := (gName 2)) rfl sc_law_same.nd (pi_range1 rfl X.z_range (pa_cons (pe_callB call_len_seq rfl X.z_len bt_len (pa_cons (pv 1) pa_nil)) pa_nil)) (blkOk_by (N := N_law_same) (sc := defScope s_law_same) (by decide +kernel)) (fun _ _ _ _ _ => (pg_name (i := 2) sc_law_same.nd rfl (by first | exact Or.inl rfl | exact Or.inr rfl))) (fun _ _ _ _ _ => (pts_one (pt_not (pt_truth (by refine pe_call ih (hr.mono (by omega)) (by rfl) ?_ X.f_law_same.F.kp (b_law_same X) .nil pass0 (pa_cons (pe_ixU hv (pv 0) (pv 2) (by intro _ _; rfl)) (pa_cons (pe_ixU hv (pv 1) (pv 2) (by intro _ _; rfl)) pa_nil)); exact X.g_law_same) (by intro _; rfl))))) (fun _ _ _ _ _ => (pv 2))) (pe_lst pa_nil) (nomark _)))))
 pss_nil)
 (pss_cons (ps_if (pt_cmpR op_isU (pv 1) pe_non (nomark _))
 (pss_one (ps_ret (pe_cmpR op_isU (pv 0) pe_non (nomark _))))
 pss_nil)
 (pss_cons (ps_if (pt_truth (pe_callB call_isi rfl X.z_isinstance bt_isinstance (pa_cons (pv 1) (pa_cons (pe_bltn (v := .ty "bool") rfl X.z_bool bt_bool rfl) pa_nil))) (by intro _; rfl))
 (pss_one (ps_ret (pe_call (ok_law_tells X) (hr.mono (by omega)) rfl X.g_law_tells X.f_law_tells.F.kp (b_law_tells X) .nil pass0 (pa_cons (pv 0) (pa_cons (pv 1) pa_nil)))))
 pss_nil)
 (pss_cons (ps_if (pt_truth (pe_callB call_isi rfl X.z_isinstance bt_isinstance (pa_cons (pv 1) (pa_cons (pe_bltn (v := .ty "str") rfl X.z_str bt_str rfl) pa_nil))) (by intro _; rfl))
 (pss_one (ps_ret (pe_and (pe_callB call_isi rfl X.z_isinstance bt_isinstance (pa_cons (pv 0) (pa_cons (pe_bltn (v := .ty "str") rfl X.z_str bt_str rfl) pa_nil))) (pe_one (pe_cmpR (op_eqM hv) (pv 0) (pv 1) (nomark _))))))
 pss_nil)
 (pss_one (ps_ret (pe_and (pe_call (ok_law_is_int X) (hr.mono (by omega)) rfl X.g_law_is_int X.f_law_is_int.F.kp (b_law_is_int X) .nil pass0 (pa_cons (pv 0) pa_nil)) (pe_one (pe_cmpR (op_eqM hv) (pv 0) (pv 1) (nomark _))))))))))),
   body_ok (n := 2) (k := 1) rfl h ((es_seq (es_ifS (et_tru (ee_isi (c := "tuple") (ee_var (i := 1)) (by decide)))
 (es_seq (es_ifS (et_or (et_not (et_tru (ee_isi (c := "tuple") (ee_var (i := 0)) (by decide)))) (et_test (ee_op (ee_lenV (i := 0)) (ee_lenV (i := 1)) rd_ne)))
 (es_ret (ee_c rfl))
 es_next)
 (es_ret (ee_op (ee_frz (eo_lc (vs := [2]) (ei_rng1 (ea_cons (ee_lenV (i := 1)) ea_nil)) (eg_name (i := 2)) (by decide) (et_not (et_tru (ee_call (ea_cons (ee_ixV (i := 0) (ee_var (i := 2))) (ea_cons (ee_ixV (i := 1) (ee_var (i := 2))) ea_nil))))) (ee_var (i := 2)))) (ee_frz (eo_lst ea_nil)) rd_eq)))
 es_next)
 (es_seq (es_ifS (et_test (ee_op (ee_var (i := 1)) (ee_c rfl) rd_is))
 (es_ret (ee_op (ee_var (i := 0)) (ee_c rfl) rd_is))
 es_next)
 (es_seq (es_ifS (et_tru (ee_isi (c := "bool") (ee_var (i := 1)) (by decide)))
 (es_ret (ee_call (ea_cons (ee_var (i := 0)) (ea_cons (ee_var (i := 1)) ea_nil))))
 es_next)
 (es_seq (es_ifS (et_tru (ee_isi (c := "str") (ee_var (i := 1)) (by decide)))
 (es_ret (ee_andV (ee_isi (c := "str") (ee_var (i := 0)) (by decide)) (ee_op (ee_var (i := 0)) (ee_var (i := 1)) rd_eq)))
 es_next)
 (es_ret (ee_andV (ee_call (ea_cons (ee_var (i := 0)) ea_nil)) (ee_op (ee_var (i := 0)) (ee_var (i := 1)) rd_eq))))))))⟩
theorem ok_law_near (X : Fs K mg) : FnOk P w K mg base CX0 2 X.f_law_near.a X.f_law_near.d ["box", "size"] (spM ⟨K, w⟩ 2 (m_law_near X.c)) := by
  refine X.f_law_near.F.ok (k := 1) (N := N_law_near) sc_law_near (fun _ _ _ _ h => spM_len h) fun cdv A outer s H vs Q E hr h => ?_
  have hv := hv_of hr
  exact ⟨_, PSs.nox ((pss_one (ps_ret (pe_op op_sub (pe_call (ok_law_draw X) (hr.mono (by omega)) rfl X.g_law_draw X.f_law_draw.F.kp (b_law_draw X) .nil pass0 (pa_cons (pv 0) (pa_cons (pe_op op_addU (pe_op op_mulW pe_int (pv 1)) pe_int) pa_nil))) (pv 1))))),
   body_ok (n := 2) (k := 0) rfl h ((es_ret (ee_op (ee_call (ea_cons (ee_var (i := 0)) (ea_cons (ee_op (ee_op (ee_c rfl) (ee_var (i := 1)) rd_mul) (ee_c rfl) rd_add) ea_nil))) (ee_var (i := 1)) rd_I0)))⟩
theorem ok_law_plain (X : Fs K mg) : FnOk P w K mg base CX0 3 X.f_law_plain.a X.f_law_plain.d ["box"] (spM ⟨K, w⟩ 1 (m_law_plain X.c)) := by
  refine X.f_law_plain.F.ok (k := 2) (N := N_law_plain) sc_law_plain (fun _ _ _ _ h => spM_len h) fun cdv A outer s H vs Q E hr h => ?_
  have hv := hv_of hr
  exact ⟨_, PSs.nox ((pss_cons (ps_set (i := 1) sc_law_plain.nd rfl (by first | exact Or.inl rfl | exact Or.inr rfl) (pe_call (ok_law_pick X) (hr.mono (by omega)) rfl X.g_law_pick X.f_law_pick.F.kp (b_law_pick X) .nil pass0 (pa_cons (pv 0) (pa_cons (pe_lst (pa_cons pe_int (pa_cons pe_int (pa_cons (pe_op op_pow pe_int pe_int) pa_nil)))) pa_nil))))
 (pss_cons (ps_par (i := 2) (j := 3) rfl sc_law_plain.nd rfl rfl (by decide) (by first | rfl | kernel_rfl) (by first | rfl | kernel_rfl) (pa_cons (pe_call (ok_law_near X) (hr.mono (by omega)) rfl X.g_law_near X.f_law_near.F.kp (b_law_near X) .nil pass0 (pa_cons (pv 0) (pa_cons (pe_op op_pow pe_int pe_int) pa_nil))) (pa_cons (pe_op op_addU (pe_op op_mulW (pe_op op_mulW pe_int pe_int) (pv 1)) (pe_call (ok_law_draw X) (hr.mono (by omega)) rfl X.g_law_draw X.f_law_draw.F.kp (b_law_draw X) .nil pass0 (pa_cons (pv 0) (pa_cons pe_int pa_nil)))) pa_nil)) (by first | rfl | kernel_rfl))
 (pss_cons (ps_par (i := 4) (j := 5) rfl sc_law_plain.nd rfl rfl (by decide) (by first | rfl | kernel_rfl) (by first | rfl | kernel_rfl) (pa_cons (pe_op op_addU pe_int (pe_call (ok_law_draw X) (hr.mono (by omega)) rfl X.g_law_draw X.f_law_draw.F.kp (b_law_draw X) .nil pass0 (pa_cons (pv 0) (pa_cons (pe_call (ok_law_pick X) (hr.mono (by omega)) rfl X.g_law_pick X.f_law_pick.F.kp (b_law_pick X) .nil pass0 (pa_cons (pv 0) (pa_cons (pe_lst (pa_cons pe_int (pa_cons pe_int pa_nil))) pa_nil))) pa_nil)))) (pa_cons (pe_op op_addU pe_int (pe_call (ok_law_draw X) (hr.mono (by omega)) rfl X.g_law_draw X.f_law_draw.F.kp (b_law_draw X) .nil pass0 (pa_cons (pv 0) (pa_cons pe_int pa_nil)))) pa_nil)) (by first | rfl | kernel_rfl))
 (pss_cons (ps_set (i := 6) sc_law_plain.nd rfl (by first | exact Or.inl rfl | exact Or.inr rfl) (pe_lst pa_nil))
 (pss_cons (ps_for PassesOwn.never rfl (pi_range1 rfl X.z_range (pa_cons (pv 4) pa_nil)) (pg_name (i := 7) sc_law_plain.nd rfl (by first | exact Or.inl rfl | exact Or.inr rfl))
 (pss_cons (ps_set (i := 8) sc_law_plain.nd rfl (by first | exact Or.inl rfl | exact Or.inr rfl) (pe_lst pa_nil))
 (pss_cons (ps_for PassesOwn.never rfl (pi_range1 rfl X.z_range (pa_cons (pv 5) pa_nil)) (pg_name (i := 9) sc_law_plain.nd rfl (by first | exact Or.inl rfl | exact Or.inr rfl))
 (pss_cons (ps_set (i := 10) sc_law_plain.nd rfl (by first | exact Or.inl rfl | exact Or.inr rfl) (pe_call (ok_law_pick X) (hr.mono (by omega)) rfl X.g_law_pick X.f_law_pick.F.kp (b_law_pick X) .nil pass0 (pa_cons (pv 0) (pa_cons (pe_lst (pa_cons (pe_call (ok_law_draw X) (hr.mono (by omega)) rfl X.g_law_draw X.f_law_draw.F.kp (b_law_draw X) .nil pass0 (pa_cons (pv 0) (pa_cons (pv 4) pa_nil))) (pa_cons (pe_op op_mod (pe_callTy call_int1 rfl X.z_int bt_int (pa_cons (pe_op op_addU (pv 7) pe_int) pa_nil)) (pv 4)) (pa_cons (pv 7) pa_nil)))) pa_nil))))
 (pss_cons (ps_set (i := 11) sc_law_plain.nd rfl (by first | exact Or.inl rfl | exact Or.inr rfl) (pe_ifExp (pt_cmpR op_gt (pe_call (ok_law_draw X) (hr.mono (by omega)) rfl X.g_law_draw X.f_law_draw.F.kp (b_law_draw X) .nil pass0 (pa_cons (pv 0) (pa_cons pe_int pa_nil))) pe_int (nomark _)) (pv 2) (pe_op op_addU (pv 2) (pe_call (ok_law_draw X) (hr.mono (by omega)) rfl X.g_law_draw X.f_law_draw.F.kp (b_law_draw X) .nil pass0 (pa_cons (pv 0) (pa_cons (pe_op op_mulW pe_int (pv 1)) pa_nil))))))
 (pss_one (ps_expr (pe_bm PySem.F.plainAttrs_list PySem.F.slot_list_append PySem.F.type_list_append mt_append (pv 8) (pa_cons (pe_tup (pa_cons (pv 10) (pa_cons (pe_tup (pa_cons (pe_tup (pa_cons (pe_op op_mulW (pe_call (ok_law_pick X) (hr.mono (by omega)) rfl X.g_law_pick X.f_law_pick.F.kp (b_law_pick X) .nil pass0 (pa_cons (pv 0) (pa_cons (pe_lst (pa_cons (pe_un un_neg pe_int) (pa_cons (pe_un un_neg pe_int) (pa_cons (pe_un un_neg pe_int) (pa_cons pe_int (pa_cons pe_int (pa_cons (pe_un un_neg pe_int) pa_nil))))))) pa_nil))) (pv 1)) (pa_cons (pv 11) pa_nil))) pa_nil)) pa_nil))) pa_nil)))))))
 (pss_one (ps_expr (pe_bm PySem.F.plainAttrs_list PySem.F.slot_list_append PySem.F.type_list_append mt_append (pv 6) (pa_cons (pe_tup (pa_cons (pe_tup (pa_cons (pe_tup pa_nil) pa_nil)) (pa_cons (pe_tup (pa_cons (pe_callTy call_tuple_of rfl X.z_tuple bt_tuple (pa_cons (pv 8) pa_nil)) pa_nil)) pa_nil))) pa_nil)))))))
 (pss_one (ps_ret (pe_tup (pa_cons (pe_tup (pa_cons (pv 2) pa_nil)) (pa_cons (pe_tup (pa_cons (pe_op op_addU (pv 2) (pv 3)) pa_nil)) (pa_cons (pv 5) (pa_cons (pe_callTy call_tuple_of rfl X.z_tuple bt_tuple (pa_cons (pv 6) pa_nil)) pa_nil))))))))))))),
   body_ok (n := 1) (k := 11) rfl h ((es_seq (es_asg (ee_call (ea_cons (ee_var (i := 0)) (ea_cons (ee_frz (eo_lst (ea_cons (ee_c rfl) (ea_cons (ee_c rfl) (ea_cons (ee_op (ee_c rfl) (ee_c rfl) rd_pow) ea_nil))))) ea_nil))) (eg_name (i := 1)))
 (es_seq (es_par (ea_cons (ee_call (ea_cons (ee_var (i := 0)) (ea_cons (ee_op (ee_c rfl) (ee_c rfl) rd_pow) ea_nil))) (ea_cons (ee_op (ee_op (ee_op (ee_c rfl) (ee_c rfl) rd_mul) (ee_var (i := 1)) rd_mul) (ee_call (ea_cons (ee_var (i := 0)) (ea_cons (ee_c rfl) ea_nil))) rd_add) ea_nil)))
 (es_seq (es_par (ea_cons (ee_op (ee_c rfl) (ee_call (ea_cons (ee_var (i := 0)) (ea_cons (ee_call (ea_cons (ee_var (i := 0)) (ea_cons (ee_frz (eo_lst (ea_cons (ee_c rfl) (ea_cons (ee_c rfl) ea_nil)))) ea_nil))) ea_nil))) rd_add) (ea_cons (ee_op (ee_c rfl) (ee_call (ea_cons (ee_var (i := 0)) (ea_cons (ee_c rfl) ea_nil))) rd_add) ea_nil)))
 (es_seq (es_own (i := 6) (eo_lst ea_nil))
 (es_seq (es_for (ei_rng1 (ea_cons (ee_var (i := 4)) ea_nil)) (eg_name (i := 7))
 (es_seq (es_own (i := 8) (eo_lst ea_nil))
 (es_seq (es_for (ei_rng1 (ea_cons (ee_var (i := 5)) ea_nil)) (eg_name (i := 9))
 (es_seq (es_asg (ee_call (ea_cons (ee_var (i := 0)) (ea_cons (ee_frz (eo_lst (ea_cons (ee_call (ea_cons (ee_var (i := 0)) (ea_cons (ee_var (i := 4)) ea_nil))) (ea_cons (ee_op (ee_cb (ea_cons (ee_op (ee_var (i := 7)) (ee_c rfl) rd_add) ea_nil) rc_int) (ee_var (i := 4)) rd_mod) (ea_cons (ee_var (i := 7)) ea_nil))))) ea_nil))) (eg_name (i := 10)))
 (es_seq (es_asg (ee_if (et_test (ee_op (ee_call (ea_cons (ee_var (i := 0)) (ea_cons (ee_c rfl) ea_nil))) (ee_c rfl) rd_B0)) (ee_var (i := 2)) (ee_op (ee_var (i := 2)) (ee_call (ea_cons (ee_var (i := 0)) (ea_cons (ee_op (ee_c rfl) (ee_var (i := 1)) rd_mul) ea_nil))) rd_add)) (eg_name (i := 11)))
 (es_drop (ee_appV (i := 8) (ee_tup (ea_cons (ee_var (i := 10)) (ea_cons (ee_tup (ea_cons (ee_tup (ea_cons (ee_op (ee_call (ea_cons (ee_var (i := 0)) (ea_cons (ee_frz (eo_lst (ea_cons (ee_un (ee_c rfl) ru_U) (ea_cons (ee_un (ee_c rfl) ru_U) (ea_cons (ee_un (ee_c rfl) ru_U) (ea_cons (ee_c rfl) (ea_cons (ee_c rfl) (ea_cons (ee_un (ee_c rfl) ru_U) ea_nil)))))))) ea_nil))) (ee_var (i := 1)) rd_mul) (ea_cons (ee_var (i := 11)) ea_nil))) ea_nil)) ea_nil))))))))
 (es_drop (ee_appV (i := 6) (ee_tup (ea_cons (ee_tup (ea_cons (ee_tup ea_nil) ea_nil)) (ea_cons (ee_tup (ea_cons (ee_cb (ea_cons (ee_var (i := 8)) ea_nil) rc_tuple) ea_nil)) ea_nil))))))))
 (es_ret (ee_tup (ea_cons (ee_tup (ea_cons (ee_var (i := 2)) ea_nil)) (ea_cons (ee_tup (ea_cons (ee_op (ee_var (i := 2)) (ee_var (i := 3)) rd_add) ea_nil)) (ea_cons (ee_var (i := 5)) (ea_cons (ee_cb (ea_cons (ee_var (i := 6)) ea_nil) rc_tuple) ea_nil))))))))))))⟩
theorem ok_law_sums (X : Fs K mg) : FnOk P w K mg base CX0 1 X.f_law_sums.a X.f_law_sums.d ["house", "nights"] (spM ⟨K, w⟩ 2 (m_law_sums X.c)) := by
  refine X.f_law_sums.F.ok (k := 0) (N := N_law_sums) sc_law_sums (fun _ _ _ _ h => spM_len h) fun cdv A outer s H vs Q E hr h => ?_
  have hv := hv_of hr
  exact ⟨_, PSs.nox ((pss_cons (ps_asg (pe_tup (pa_cons (pe_ixU hv (pe_ixU hv (pv 0) pe_int (by intro _ _; rfl)) pe_int (by intro _ _; rfl)) (pa_cons (pe_callB call_len_seq rfl X.z_len bt_len (pa_cons (pe_ixU hv (pv 0) pe_int (by intro _ _; rfl)) pa_nil)) pa_nil))) (pg_tupU (n := 2) rfl (pgs_cons (pg_name (i := 2) sc_law_sums.nd rfl (by first | exact Or.inl rfl | exact Or.inr rfl)) (pgs_cons (pg_name (i := 3) sc_law_sums.nd rfl (by first | exact Or.inl rfl | exact Or.inr rfl)) pgs_nil))))
 (pss_cons (ps_par (i := 4) (j := 5) rfl sc_law_sums.nd rfl rfl (by decide) (by first | rfl | kernel_rfl) (by first | rfl | kernel_rfl) (pa_cons (pe_lst (pa_cons (pe_lc (own := [("mode", 9)]) (g := (gName 9)) rfl sc_law_sums.nd (pi_range1 rfl X.z_range (pa_cons (pv 3) pa_nil)) (blkOk_by (N := N_law_sums) (sc := defScope s_law_sums) (by decide +kernel)) (fun _ _ _ _ _ => (pg_name (i := 9) sc_law_sums.nd rfl (by first | exact Or.inl rfl | exact Or.inr rfl))) (fun _ _ _ _ _ => pts_nil) (fun _ _ _ _ _ => (pv 2))) pa_nil)) (pa_cons (pe_lst (pa_cons (pe_lc (own := [("mode", 9)]) (g := (gName 9)) rfl sc_law_sums.nd (pi_range1 rfl X.z_range (pa_cons (pv 3) pa_nil)) (blkOk_by (N := N_law_sums) (sc := defScope s_law_sums) (by decide +kernel)) (fun _ _ _ _ _ => (pg_name (i := 9) sc_law_sums.nd rfl (by first | exact Or.inl rfl | exact Or.inr rfl))) (fun _ _ _ _ _ => pts_nil) (fun _ _ _ _ _ => pe_int)) pa_nil)) pa_nil)) (by first | rfl | kernel_rfl))
 (pss_cons (ps_for PassesOwn.never rfl (pi_range1 rfl X.z_range (pa_cons (pv 1) pa_nil)) (pg_name (i := 6) sc_law_sums.nd rfl (by first | exact Or.inl rfl | exact Or.inr rfl))
 (pss_cons (ps_par (i := 7) (j := 8) rfl sc_law_sums.nd rfl rfl (by decide) (by first | rfl | kernel_rfl) (by first | rfl | kernel_rfl) (pa_cons (pe_lst pa_nil) (pa_cons (pe_lst pa_nil) pa_nil)) (by first | rfl | kernel_rfl))
 (pss_cons (ps_for PassesOwn.never rfl (pi_range1 rfl X.z_range (pa_cons (pv 3) pa_nil)) (pg_name (i := 9) sc_law_sums.nd rfl (by first | exact Or.inl rfl | exact Or.inr rfl))
 (pss_cons (ps_set (i := 10) sc_law_sums.nd rfl (by first | exact Or.inl rfl | exact Or.inr rfl) (pe_lst pa_nil))
 (pss_cons (ps_for PassesOwn.never rfl (pi_seqE (pe_ixU hv (pe_ixU hv (pe_ixU hv (pe_ixU hv (pv 0) pe_int (by intro _ _; rfl)) (pv 9) (by intro _ _; rfl)) pe_int (by intro _ _; rfl)) pe_int (by intro _ _; rfl))) (pg_tupU (n := 2) rfl (pgs_cons (pg_name (i := 11) sc_law_sums.nd rfl (by first | exact Or.inl rfl | exact Or.inr rfl)) (pgs_cons (pg_name (i := 12) sc_law_sums.nd rfl (by first | exact Or.inl rfl | exact Or.inr rfl)) pgs_nil)))
 (pss_cons (ps_asg (pe_ixU hv (pv 12) pe_int (by intro _ _; rfl)) (pg_tupU (n := 2) rfl (pgs_cons (pg_name (i := 16) sc_law_sums.nd rfl (by first | exact Or.inl rfl | exact Or.inr rfl)) (pgs_cons (pg_name (i := 17) sc_law_sums.nd rfl (by first | exact Or.inl rfl | exact Or.inr rfl)) pgs_nil))))
 (pss_cons (ps_set (i := 15) sc_law_sums.nd rfl (by first | exact Or.inl rfl | exact Or.inr rfl) (pe_op op_sub (pe_ixU hv (pe_ixU hv (pv 4) (pe_un un_neg pe_int) (by intro _ _; rfl)) (pv 11) (by intro _ _; rfl)) (pv 16)))
 (pss_cons (ps_if (PW.pt (pw_or (pt_cmpR op_ge (pv 17) (pe_ixU hv (pe_ixU hv (pv 4) (pe_un un_neg pe_int) (by intro _ _; rfl)) (pv 11) (by intro _ _; rfl)) (nomark _)) (pw_or1 (pt_cmpR op_gt (pe_op op_sub (pv 2) (pv 16)) (pv 15) (nomark _)))))
 (pss_one (ps_set (i := 15) sc_law_sums.nd rfl (by first | exact Or.inl rfl | exact Or.inr rfl) (pe_op op_sub (pv 2) (pv 16))))
 pss_nil)
 (pss_one (ps_expr (pe_bm PySem.F.plainAttrs_list PySem.F.slot_list_append PySem.F.type_list_append mt_append (pv 10) (pa_cons (pe_tup (pa_cons (pv 15) (pa_cons (pv 11) (pa_cons (pv 16) (pa_cons (pv 17) pa_nil))))) pa_nil))))))))
 (pss_cons (ps_set (i := 13) sc_law_sums.nd rfl (by first | exact Or.inl rfl | exact Or.inr rfl) (pe_callB (cr_max rfl) rfl X.z_max bt_max (pa_cons (pe_op op_addU (pe_lst (pa_cons (pv 2) pa_nil)) (pe_lc (own := [("ask", 15)]) (g := (gName 15)) rfl sc_law_sums.nd (pi_seqE (pv 10)) (blkOk_by (N := N_law_sums) (sc := defScope s_law_sums) (by decide +kernel)) (fun _ _ _ _ _ => (pg_name (i := 15) sc_law_sums.nd rfl (by first | exact Or.inl rfl | exact Or.inr rfl))) (fun _ _ _ _ _ => pts_nil) (fun _ _ _ _ _ => (pe_ixU hv (pv 15) pe_int (by intro _ _; rfl))))) pa_nil)))
 (pss_cons (ps_expr (pe_bm PySem.F.plainAttrs_list PySem.F.slot_list_append PySem.F.type_list_append mt_append (pv 7) (pa_cons (pv 13) pa_nil)))
 (pss_cons (ps_set (i := 14) sc_law_sums.nd rfl (by first | exact Or.inl rfl | exact Or.inr rfl) pe_int)
 (pss_cons (ps_for PassesOwn.never rfl (pi_seqE (pv 10)) (pg_tupU (n := 4) rfl (pgs_cons (pg_name (i := 15) sc_law_sums.nd rfl (by first | exact Or.inl rfl | exact Or.inr rfl)) (pgs_cons (pg_name (i := 11) sc_law_sums.nd rfl (by first | exact Or.inl rfl | exact Or.inr rfl)) (pgs_cons (pg_name (i := 16) sc_law_sums.nd rfl (by first | exact Or.inl rfl | exact Or.inr rfl)) (pgs_cons (pg_name (i := 17) sc_law_sums.nd rfl (by first | exact Or.inl rfl | exact Or.inr rfl)) pgs_nil)))))
 (pss_one (ps_if (PW.pt (pw_and (pt_cmpR op_gt (pv 13) (pv 2) (nomark _)) (pw_and1 (pt_cmpR (op_eqM hv) (pv 15) (pv 13) (nomark _)))))
 (pss_one (ps_set (i := 14) sc_law_sums.nd rfl (by first | exact Or.inl rfl | exact Or.inr rfl) (pe_op op_addU (pv 14) (pe_ifExp (pt_cmpR (op_eqM hv) (pe_op op_addU (pv 13) (pv 16)) (pv 2) (nomark _)) pe_int (pe_ixU hv (pe_ixU hv (pv 5) (pe_un un_neg pe_int) (by intro _ _; rfl)) (pv 11) (by intro _ _; rfl))))))
 pss_nil)))
 (pss_one (ps_expr (pe_bm PySem.F.plainAttrs_list PySem.F.slot_list_append PySem.F.type_list_append mt_append (pv 8) (pa_cons (pv 14) pa_nil)))))))))))
 (pss_cons (ps_expr (pe_bm PySem.F.plainAttrs_list PySem.F.slot_list_append PySem.F.type_list_append mt_append (pv 4) (pa_cons (pv 7) pa_nil)))
 (pss_one (ps_expr (pe_bm PySem.F.plainAttrs_list PySem.F.slot_list_append PySem.F.type_list_append mt_append (pv 5) (pa_cons (pv 8) pa_nil))))))))
 (pss_one (ps_ret (pe_tup (pa_cons (pv 4) (pa_cons (pv 5) pa_nil))))))))),
   body_ok (n := 2) (k := 16) rfl h ((es_seq (es_asg (ee_tup (ea_cons (ee_ixU (ee_ixV (i := 0) (ee_c rfl)) (ee_c rfl)) (ea_cons (ee_cb (ea_cons (ee_ixV (i := 0) (ee_c rfl)) ea_nil) rc_len) ea_nil))) (eg_tup (n := 2) (eg_cons (eg_name (i := 2)) (eg_cons (eg_name (i := 3)) eg_nil))))
 (es_seq (es_parO (eo_lst (ea_cons (ee_frz (eo_lc (vs := [9]) (ei_rng1 (ea_cons (ee_var (i := 3)) ea_nil)) (eg_name (i := 9)) (by decide) et_yes (ee_var (i := 2)))) ea_nil)) (eo_lst (ea_cons (ee_frz (eo_lc (vs := [9]) (ei_rng1 (ea_cons (ee_var (i := 3)) ea_nil)) (eg_name (i := 9)) (by decide) et_yes (ee_c rfl))) ea_nil)))
 (es_seq (es_for (ei_rng1 (ea_cons (ee_var (i := 1)) ea_nil)) (eg_name (i := 6))
 (es_seq (es_parO (eo_lst ea_nil) (eo_lst ea_nil))
 (es_seq (es_for (ei_rng1 (ea_cons (ee_var (i := 3)) ea_nil)) (eg_name (i := 9))
 (es_seq (es_own (i := 10) (eo_lst ea_nil))
 (es_seq (es_for (ei_seq (ee_ixU (ee_ixU (ee_ixU (ee_ixV (i := 0) (ee_c rfl)) (ee_var (i := 9))) (ee_c rfl)) (ee_c rfl))) (eg_tup (n := 2) (eg_cons (eg_name (i := 11)) (eg_cons (eg_name (i := 12)) eg_nil)))
 (es_seq (es_asg (ee_ixV (i := 12) (ee_c rfl)) (eg_tup (n := 2) (eg_cons (eg_name (i := 16)) (eg_cons (eg_name (i := 17)) eg_nil))))
 (es_seq (es_asg (ee_op (ee_ixU (ee_ixV (i := 4) (ee_un (ee_c rfl) ru_U)) (ee_var (i := 11))) (ee_var (i := 16)) rd_I0) (eg_name (i := 15)))
 (es_seq (es_ifS (et_or (et_test (ee_op (ee_var (i := 17)) (ee_ixU (ee_ixV (i := 4) (ee_un (ee_c rfl) ru_U)) (ee_var (i := 11))) rd_B0)) (et_test (ee_op (ee_op (ee_var (i := 2)) (ee_var (i := 16)) rd_I0) (ee_var (i := 15)) rd_B0)))
 (es_asg (ee_op (ee_var (i := 2)) (ee_var (i := 16)) rd_I0) (eg_name (i := 15)))
 es_next)
 (es_drop (ee_appV (i := 10) (ee_tup (ea_cons (ee_var (i := 15)) (ea_cons (ee_var (i := 11)) (ea_cons (ee_var (i := 16)) (ea_cons (ee_var (i := 17)) ea_nil)))))))))))
 (es_seq (es_asg (ee_cb (ea_cons (ee_op (ee_frz (eo_lst (ea_cons (ee_var (i := 2)) ea_nil))) (ee_frz (eo_lc (vs := [15]) (ei_seq (ee_var (i := 10))) (eg_name (i := 15)) (by decide) et_yes (ee_ixV (i := 15) (ee_c rfl)))) rd_add) ea_nil) rc_maxL) (eg_name (i := 13)))
 (es_seq (es_drop (ee_appV (i := 7) (ee_var (i := 13))))
 (es_seq (es_asg (ee_c rfl) (eg_name (i := 14)))
 (es_seq (es_for (ei_seq (ee_var (i := 10))) (eg_tup (n := 4) (eg_cons (eg_name (i := 15)) (eg_cons (eg_name (i := 11)) (eg_cons (eg_name (i := 16)) (eg_cons (eg_name (i := 17)) eg_nil)))))
 (es_ifS (et_and (et_test (ee_op (ee_var (i := 13)) (ee_var (i := 2)) rd_B0)) (et_test (ee_op (ee_var (i := 15)) (ee_var (i := 13)) rd_eq)))
 (es_asg (ee_op (ee_var (i := 14)) (ee_if (et_test (ee_op (ee_op (ee_var (i := 13)) (ee_var (i := 16)) rd_add) (ee_var (i := 2)) rd_eq)) (ee_c rfl) (ee_ixU (ee_ixV (i := 5) (ee_un (ee_c rfl) ru_U)) (ee_var (i := 11)))) rd_add) (eg_name (i := 14)))
 es_next))
 (es_drop (ee_appV (i := 8) (ee_var (i := 14)))))))))))
 (es_seq (es_drop (ee_appV (i := 4) (ee_var (i := 7))))
 (es_drop (ee_appV (i := 5) (ee_var (i := 8))))))))
 (es_ret (ee_tup (ea_cons (ee_var (i := 4)) (ea_cons (ee_var (i := 5)) ea_nil))))))))⟩
theorem ok_law_shifts (X : Fs K mg) : FnOk P w K mg base CX0 1 X.f_law_shifts.a X.f_law_shifts.d ["house", "mode", "fate"] (spM ⟨K, w⟩ 3 (m_law_shifts X.c)) := by
  refine X.f_law_shifts.F.ok (k := 0) (N := N_law_shifts) sc_law_shifts (fun _ _ _ _ h => spM_len h) fun cdv A outer s H vs Q E hr h => ?_
  have hv := hv_of hr
  exact ⟨_, PSs.nox ((pss_cons (ps_set (i := 3) sc_law_shifts.nd rfl (by first | exact Or.inl rfl | exact Or.inr rfl) pe_int)
 (pss_cons (ps_for PassesOwn.never rfl (pi_seqE (pv 2)) (pg_name (i := 4) sc_law_shifts.nd rfl (by first | exact Or.inl rfl | exact Or.inr rfl))
 (pss_cons (ps_asg (pe_ixU hv (pe_ixU hv (pe_ixU hv (pe_ixU hv (pe_ixU hv (pv 0) pe_int (by intro _ _; rfl)) (pv 1) (by intro _ _; rfl)) pe_int (by intro _ _; rfl)) pe_int (by intro _ _; rfl)) (pv 4) (by intro _ _; rfl)) (pg_tupU (n := 2) rfl (pgs_cons (pg_name (i := 5) sc_law_shifts.nd rfl (by first | exact Or.inl rfl | exact Or.inr rfl)) (pgs_cons (pg_name (i := 6) sc_law_shifts.nd rfl (by first | exact Or.inl rfl | exact Or.inr rfl)) pgs_nil))))
 (pss_one (ps_par (i := 3) (j := 1) rfl sc_law_shifts.nd rfl rfl (by decide) (by first | rfl | kernel_rfl) (by first | rfl | kernel_rfl) (pa_cons (pe_op op_addU (pv 3) (pe_ixU hv (pe_ixU hv (pv 6) pe_int (by intro _ _; rfl)) pe_int (by intro _ _; rfl))) (pa_cons (pv 5) pa_nil)) (by first | rfl | kernel_rfl)))))
 (pss_one (ps_ret (pv 3)))))),
   body_ok (n := 3) (k := 4) rfl h ((es_seq (es_asg (ee_c rfl) (eg_name (i := 3)))
 (es_seq (es_for (ei_seq (ee_var (i := 2))) (eg_name (i := 4))
 (es_seq (es_asg (ee_ixU (ee_ixU (ee_ixU (ee_ixU (ee_ixV (i := 0) (ee_c rfl)) (ee_var (i := 1))) (ee_c rfl)) (ee_c rfl)) (ee_var (i := 4))) (eg_tup (n := 2) (eg_cons (eg_name (i := 5)) (eg_cons (eg_name (i := 6)) eg_nil))))
 (es_par (ea_cons (ee_op (ee_var (i := 3)) (ee_ixU (ee_ixV (i := 6) (ee_c rfl)) (ee_c rfl)) rd_add) (ea_cons (ee_var (i := 5)) ea_nil)))))
 (es_ret (ee_var (i := 3))))))⟩
theorem ok_law_is_paper (X : Fs K mg) : FnOk P w K mg base CX0 11 X.f_law_is_paper.a X.f_law_is_paper.d ["house", "value", "line", "mode", "nights"] (spM ⟨K, w⟩ 5 (m_law_is_paper X.c)) := by
  refine X.f_law_is_paper.F.ok (k := 10) (N := N_law_is_paper) sc_law_is_paper (fun _ _ _ _ h => spM_len h) fun cdv A outer s H vs Q E hr h => ?_
  have hv := hv_of hr
  exact ⟨_, PSs.nox ((pss_cons (ps_if (PW.pt (pw_or (pt_not (pt_truth (pe_callB call_isi rfl X.z_isinstance bt_isinstance (pa_cons (pv 1) (pa_cons (pe_bltn (v := .ty "tuple") rfl X.z_tuple bt_tuple rfl) pa_nil))) (by intro _; rfl))) (pw_or (pt_cmpR (op_neM hv) (pe_callB call_len_seq rfl X.z_len bt_len (pa_cons (pv 1) pa_nil)) pe_int (nomark _)) (pw_or (pt_not (pt_truth (pe_call (ok_law_same X 8) (hr.mono (by omega)) rfl X.g_law_same X.f_law_same.F.kp (b_law_same X) .nil pass0 (pa_cons (pe_ixU hv (pv 1) pe_int (by intro _ _; rfl)) (pa_cons pe_str pa_nil))) (by intro _; rfl))) (pw_or1 (pt_not (pt_truth (pe_callB call_isi rfl X.z_isinstance bt_isinstance (pa_cons (pe_ixU hv (pv 1) pe_int (by intro _ _; rfl)) (pa_cons (pe_bltn (v := .ty "tuple") rfl X.z_tuple bt_tuple rfl) pa_nil))) (by intro _; rfl))))))))
 (pss_one (ps_ret pe_bl))
 pss_nil)
 (pss_cons (ps_if (PW.pt (pw_or (pt_cmpR op_gt (pe_callB call_len_seq rfl X.z_len bt_len (pa_cons (pe_ixU hv (pv 1) pe_int (by intro _ _; rfl)) pa_nil)) (pv 4) (nomark _)) (pw_or1 (pt_cmpR (op_neM hv) (pe_lc (own := [("letter", 5)]) (g := (gName 5)) rfl sc_law_is_paper.nd (pi_seqE (pe_ixU hv (pv 1) pe_int (by intro _ _; rfl))) (blkOk_by (N := N_law_is_paper) (sc := defScope s_law_is_paper) (by decide +kernel)) (fun _ _ _ _ _ => (pg_name (i := 5) sc_law_is_paper.nd rfl (by first | exact Or.inl rfl | exact Or.inr rfl))) (fun _ _ _ _ _ => (pts_one (PW.pt (pw_or (pt_not (pt_truth (by exact (pe_call (ok_law_is_int X) (hr.mono (by omega)) rfl X.g_law_is_int X.f_law_is_int.F.kp (b_law_is_int X) .nil pass0 (pa_cons (pv 5) pa_nil))) (by intro _; rfl))) (pw_or1 (pt_not (pt_chain op_le op_lt pe_int (pv 5) (pe_ixU hv (pv 0) pe_int (by intro _ _; rfl)) ))))))) (fun _ _ _ _ _ => (pv 5))) (pe_lst pa_nil) (nomark _)))))
 (pss_one (ps_ret pe_bl))
 pss_nil)
 (pss_one (ps_ret (pe_cmpR (op_eqM hv) (pe_op op_addU (pv 2) (pe_call (ok_law_shifts X) (hr.mono (by omega)) rfl X.g_law_shifts X.f_law_shifts.F.kp (b_law_shifts X) .nil pass0 (pa_cons (pv 0) (pa_cons (pv 3) (pa_cons (pe_ixU hv (pv 1) pe_int (by intro _ _; rfl)) pa_nil))))) (pe_ixU hv (pe_ixU hv (pv 0) pe_int (by intro _ _; rfl)) pe_int (by intro _ _; rfl)) (nomark _))))))),
   body_ok (n := 5) (k := 1) rfl h ((es_seq (es_ifS (et_or (et_not (et_tru (ee_isi (c := "tuple") (ee_var (i := 1)) (by decide)))) (et_or (et_test (ee_op (ee_lenV (i := 1)) (ee_c rfl) rd_ne)) (et_or (et_not (et_tru (ee_call (ea_cons (ee_ixV (i := 1) (ee_c rfl)) (ea_cons (ee_c rfl) ea_nil))))) (et_not (et_tru (ee_isi (c := "tuple") (ee_ixV (i := 1) (ee_c rfl)) (by decide)))))))
 (es_ret (ee_c rfl))
 es_next)
 (es_seq (es_ifS (et_or (et_test (ee_op (ee_cb (ea_cons (ee_ixV (i := 1) (ee_c rfl)) ea_nil) rc_len) (ee_var (i := 4)) rd_B0)) (et_test (ee_op (ee_frz (eo_lc (vs := [5]) (ei_seq (ee_ixV (i := 1) (ee_c rfl))) (eg_name (i := 5)) (by decide) (et_or (et_not (et_tru (ee_call (ea_cons (ee_var (i := 5)) ea_nil)))) (et_not (et_test (ee_chain (ee_c rfl) (ee_var (i := 5)) (ee_ixV (i := 0) (ee_c rfl)) rd_B0 rd_B0)))) (ee_var (i := 5)))) (ee_frz (eo_lst ea_nil)) rd_ne)))
 (es_ret (ee_c rfl))
 es_next)
 (es_ret (ee_op (ee_op (ee_var (i := 2)) (ee_call (ea_cons (ee_var (i := 0)) (ea_cons (ee_var (i := 3)) (ea_cons (ee_ixV (i := 1) (ee_c rfl)) ea_nil)))) rd_add) (ee_ixU (ee_ixV (i := 0) (ee_c rfl)) (ee_c rfl)) rd_eq)))))⟩
theorem ok_law_with_look (X : Fs K mg) : FnOk P w K mg base CX0 3 X.f_law_with_look.a X.f_law_with_look.d ["box", "house", "lines", "nights"] (spM ⟨K, w⟩ 4 (m_law_with_look X.c)) := by
  refine X.f_law_with_look.F.ok (k := 2) (N := N_law_with_look) sc_law_with_look (fun _ _ _ _ h => spM_len h) fun cdv A outer s H vs Q E hr h => ?_
  have hv := hv_of hr
  exact ⟨_, PSs.nox ((pss_cons (ps_asg (pe_tup (pa_cons (pe_ixU hv (pe_ixU hv (pv 1) pe_int (by intro _ _; rfl)) pe_int (by intro _ _; rfl)) (pa_cons (pe_ixU hv (pe_ixU hv (pv 1) pe_int (by intro _ _; rfl)) pe_int (by intro _ _; rfl)) pa_nil))) (pg_tupU (n := 2) rfl (pgs_cons (pg_name (i := 4) sc_law_with_look.nd rfl (by first | exact Or.inl rfl | exact Or.inr rfl)) (pgs_cons (pg_name (i := 5) sc_law_with_look.nd rfl (by first | exact Or.inl rfl | exact Or.inr rfl)) pgs_nil))))
 (pss_cons (ps_asg (pe_tup (pa_cons (pe_ixU hv (pe_ixU hv (pv 2) (pe_op op_sub (pv 3) pe_int) (by intro _ _; rfl)) pe_int (by intro _ _; rfl)) (pa_cons (pe_callB call_len_seq rfl X.z_len bt_len (pa_cons (pe_ixU hv (pv 1) pe_int (by intro _ _; rfl)) pa_nil)) pa_nil))) (pg_tupU (n := 2) rfl (pgs_cons (pg_name (i := 6) sc_law_with_look.nd rfl (by first | exact Or.inl rfl | exact Or.inr rfl)) (pgs_cons (pg_name (i := 7) sc_law_with_look.nd rfl (by first | exact Or.inl rfl | exact Or.inr rfl)) pgs_nil))))
 (pss_cons (ps_set (i := 8) sc_law_with_look.nd rfl (by first | exact Or.inl rfl | exact Or.inr rfl) (pe_call (ok_law_pick X) (hr.mono (by omega)) rfl X.g_law_pick X.f_law_pick.F.kp (b_law_pick X) .nil pass0 (pa_cons (pv 0) (pa_cons (pe_lst (pa_cons (pe_op op_addU (pv 6) pe_int) (pa_cons (pv 6) (pa_cons (pe_callB (call_max2 rfl) rfl X.z_max bt_max (pa_cons (pe_op op_addU (pv 4) pe_int) (pa_cons (pe_op op_sub (pv 6) pe_int) pa_nil))) (pa_cons (pe_op op_addU (pv 4) pe_int) pa_nil))))) pa_nil))))
 (pss_cons (ps_set (i := 9) sc_law_with_look.nd rfl (by first | exact Or.inl rfl | exact Or.inr rfl) (pe_callTy call_tuple_of rfl X.z_tuple bt_tuple (pa_cons (pe_lc (own := [("letter", 13)]) (g := (gName 13)) rfl sc_law_with_look.nd (pi_range1 rfl X.z_range (pa_cons (pe_ixU hv (pv 1) pe_int (by intro _ _; rfl)) pa_nil)) (blkOk_by (N := N_law_with_look) (sc := defScope s_law_with_look) (by decide +kernel)) (fun _ _ _ _ _ => (pg_name (i := 13) sc_law_with_look.nd rfl (by first | exact Or.inl rfl | exact Or.inr rfl))) (fun _ _ _ _ _ => pts_nil) (fun _ _ _ _ _ => (pe_tup (pa_cons pe_int (pa_cons (pe_tup (pa_cons (pe_tup (pa_cons pe_int (pa_cons (pv 4) pa_nil))) pa_nil)) pa_nil))))) pa_nil)))
 (pss_cons (ps_set (i := 10) sc_law_with_look.nd rfl (by first | exact Or.inl rfl | exact Or.inr rfl) (pe_callTy call_tuple_of rfl X.z_tuple bt_tuple (pa_cons (pe_lc (own := [("letter", 13)]) (g := (gName 13)) rfl sc_law_with_look.nd (pi_range1 rfl X.z_range (pa_cons (pe_ixU hv (pv 1) pe_int (by intro _ _; rfl)) pa_nil)) (blkOk_by (N := N_law_with_look) (sc := defScope s_law_with_look) (by decide +kernel)) (fun _ _ _ _ _ => (pg_name (i := 13) sc_law_with_look.nd rfl (by first | exact Or.inl rfl | exact Or.inr rfl))) (fun _ _ _ _ _ => pts_nil) (fun _ _ _ _ _ => (pe_tup (pa_cons (pe_op op_addU (pv 7) pe_int) (pa_cons (pe_tup (pa_cons (pe_tup (pa_cons pe_int (pa_cons (pv 4) pa_nil))) pa_nil)) pa_nil))))) pa_nil)))
 (pss_cons (ps_set (i := 11) sc_law_with_look.nd rfl (by first | exact Or.inl rfl | exact Or.inr rfl) (pe_callTy call_tuple_of rfl X.z_tuple bt_tuple (pa_cons (pe_lc (own := [("letter", 13)]) (g := (gName 13)) rfl sc_law_with_look.nd (pi_range1 rfl X.z_range (pa_cons (pe_ixU hv (pv 1) pe_int (by intro _ _; rfl)) pa_nil)) (blkOk_by (N := N_law_with_look) (sc := defScope s_law_with_look) (by decide +kernel)) (fun _ _ _ _ _ => (pg_name (i := 13) sc_law_with_look.nd rfl (by first | exact Or.inl rfl | exact Or.inr rfl))) (fun _ _ _ _ _ => pts_nil) (fun _ _ _ _ _ => (pe_tup (pa_cons (pe_op op_addU (pv 7) pe_int) (pa_cons (pe_tup (pa_cons (pe_tup (pa_cons pe_int (pa_cons (pv 4) pa_nil))) pa_nil)) pa_nil))))) pa_nil)))
 (pss_cons (ps_set (i := 12) sc_law_with_look.nd rfl (by first | exact Or.inl rfl | exact Or.inr rfl) (pe_op op_addU (pe_ixU hv (pv 1) pe_int (by intro _ _; rfl)) (pe_tup (pa_cons (pe_tup (pa_cons (pe_tup (pa_cons (pe_tup (pa_cons (pv 8) pa_nil)) pa_nil)) (pa_cons (pe_tup (pa_cons (pv 9) (pa_cons (pv 10) pa_nil))) pa_nil))) (pa_cons (pe_tup (pa_cons (pe_tup (pa_cons (pe_tup pa_nil) pa_nil)) (pa_cons (pe_tup (pa_cons (pv 11) pa_nil)) pa_nil))) pa_nil)))))
 (pss_one (ps_ret (pe_tup (pa_cons (pe_tup (pa_cons (pe_ixU hv (pv 1) pe_int (by intro _ _; rfl)) (pa_cons (pe_ixU hv (pv 1) pe_int (by intro _ _; rfl)) (pa_cons (pe_ixU hv (pv 1) pe_int (by intro _ _; rfl)) (pa_cons (pv 12) pa_nil))))) (pa_cons (pv 7) (pa_cons (pv 8) (pa_cons (pv 6) pa_nil))))))))))))))),
   body_ok (n := 4) (k := 10) rfl h ((es_seq (es_asg (ee_tup (ea_cons (ee_ixU (ee_ixV (i := 1) (ee_c rfl)) (ee_c rfl)) (ea_cons (ee_ixU (ee_ixV (i := 1) (ee_c rfl)) (ee_c rfl)) ea_nil))) (eg_tup (n := 2) (eg_cons (eg_name (i := 4)) (eg_cons (eg_name (i := 5)) eg_nil))))
 (es_seq (es_asg (ee_tup (ea_cons (ee_ixU (ee_ixV (i := 2) (ee_op (ee_var (i := 3)) (ee_c rfl) rd_I0)) (ee_c rfl)) (ea_cons (ee_cb (ea_cons (ee_ixV (i := 1) (ee_c rfl)) ea_nil) rc_len) ea_nil))) (eg_tup (n := 2) (eg_cons (eg_name (i := 6)) (eg_cons (eg_name (i := 7)) eg_nil))))
 (es_seq (es_asg (ee_call (ea_cons (ee_var (i := 0)) (ea_cons (ee_frz (eo_lst (ea_cons (ee_op (ee_var (i := 6)) (ee_c rfl) rd_add) (ea_cons (ee_var (i := 6)) (ea_cons (ee_cb (ea_cons (ee_op (ee_var (i := 4)) (ee_c rfl) rd_add) (ea_cons (ee_op (ee_var (i := 6)) (ee_c rfl) rd_I0) ea_nil)) rc_max2) (ea_cons (ee_op (ee_var (i := 4)) (ee_c rfl) rd_add) ea_nil)))))) ea_nil))) (eg_name (i := 8)))
 (es_seq (es_asg (ee_cb (ea_cons (ee_frz (eo_lc (vs := [13]) (ei_rng1 (ea_cons (ee_ixV (i := 1) (ee_c rfl)) ea_nil)) (eg_name (i := 13)) (by decide) et_yes (ee_tup (ea_cons (ee_c rfl) (ea_cons (ee_tup (ea_cons (ee_tup (ea_cons (ee_c rfl) (ea_cons (ee_var (i := 4)) ea_nil))) ea_nil)) ea_nil))))) ea_nil) rc_tuple) (eg_name (i := 9)))
 (es_seq (es_asg (ee_cb (ea_cons (ee_frz (eo_lc (vs := [13]) (ei_rng1 (ea_cons (ee_ixV (i := 1) (ee_c rfl)) ea_nil)) (eg_name (i := 13)) (by decide) et_yes (ee_tup (ea_cons (ee_op (ee_var (i := 7)) (ee_c rfl) rd_add) (ea_cons (ee_tup (ea_cons (ee_tup (ea_cons (ee_c rfl) (ea_cons (ee_var (i := 4)) ea_nil))) ea_nil)) ea_nil))))) ea_nil) rc_tuple) (eg_name (i := 10)))
 (es_seq (es_asg (ee_cb (ea_cons (ee_frz (eo_lc (vs := [13]) (ei_rng1 (ea_cons (ee_ixV (i := 1) (ee_c rfl)) ea_nil)) (eg_name (i := 13)) (by decide) et_yes (ee_tup (ea_cons (ee_op (ee_var (i := 7)) (ee_c rfl) rd_add) (ea_cons (ee_tup (ea_cons (ee_tup (ea_cons (ee_c rfl) (ea_cons (ee_var (i := 4)) ea_nil))) ea_nil)) ea_nil))))) ea_nil) rc_tuple) (eg_name (i := 11)))
 (es_seq (es_asg (ee_op (ee_ixV (i := 1) (ee_c rfl)) (ee_tup (ea_cons (ee_tup (ea_cons (ee_tup (ea_cons (ee_tup (ea_cons (ee_var (i := 8)) ea_nil)) ea_nil)) (ea_cons (ee_tup (ea_cons (ee_var (i := 9)) (ea_cons (ee_var (i := 10)) ea_nil))) ea_nil))) (ea_cons (ee_tup (ea_cons (ee_tup (ea_cons (ee_tup ea_nil) ea_nil)) (ea_cons (ee_tup (ea_cons (ee_var (i := 11)) ea_nil)) ea_nil))) ea_nil))) rd_add) (eg_name (i := 12)))
 (es_ret (ee_tup (ea_cons (ee_tup (ea_cons (ee_ixV (i := 1) (ee_c rfl)) (ea_cons (ee_ixV (i := 1) (ee_c rfl)) (ea_cons (ee_ixV (i := 1) (ee_c rfl)) (ea_cons (ee_var (i := 12)) ea_nil))))) (ea_cons (ee_var (i := 7)) (ea_cons (ee_var (i := 8)) (ea_cons (ee_var (i := 6)) ea_nil))))))))))))))⟩
theorem ok_law_looking (X : Fs K mg) : FnOk P w K mg base CX0 11 X.f_law_looking.a X.f_law_looking.d ["box", "house", "lines", "counts", "nights"] (spM ⟨K, w⟩ 5 (m_law_looking X.c)) := by
  refine X.f_law_looking.F.ok (k := 10) (N := N_law_looking) sc_law_looking (fun _ _ _ _ h => spM_len h) fun cdv A outer s H vs Q E hr h => ?_
  have hv := hv_of hr
  exact ⟨_, PSs.nox ((pss_cons (ps_if (pt_cmpR op_le (pe_ixU hv (pe_ixU hv (pv 2) (pe_op op_sub (pv 4) pe_int) (by intro _ _; rfl)) pe_int (by intro _ _; rfl)) (pe_ixU hv (pe_ixU hv (pv 1) pe_int (by intro _ _; rfl)) pe_int (by intro _ _; rfl)) (nomark _))
 (pss_one (ps_ret pe_bl))
 pss_nil)
 (pss_cons (ps_asg (pe_call (ok_law_with_look X) (hr.mono (by omega)) rfl X.g_law_with_look X.f_law_with_look.F.kp (b_law_with_look X) .nil pass0 (pa_cons (pv 0) (pa_cons (pv 1) (pa_cons (pv 2) (pa_cons (pv 4) pa_nil))))) (pg_tupU (n := 4) rfl (pgs_cons (pg_name (i := 5) sc_law_looking.nd rfl (by first | exact Or.inl rfl | exact Or.inr rfl)) (pgs_cons (pg_name (i := 6) sc_law_looking.nd rfl (by first | exact Or.inl rfl | exact Or.inr rfl)) (pgs_cons (pg_name (i := 7) sc_law_looking.nd rfl (by first | exact Or.inl rfl | exact Or.inr rfl)) (pgs_cons (pg_name (i := 8) sc_law_looking.nd rfl (by first | exact Or.inl rfl | exact Or.inr rfl)) pgs_nil))))))
 (pss_cons (ps_set (i := 9) sc_law_looking.nd rfl (by first | exact Or.inl rfl | exact Or.inr rfl) (pe_call (ok_law_made X) (hr.mono (by omega)) rfl X.g_law_made X.f_law_made.F.kp (b_law_made X) .nil pass0 (pa_cons (pv 5) pa_nil)))
 (pss_cons (ps_set (i := 10) sc_law_looking.nd rfl (by first | exact Or.inl rfl | exact Or.inr rfl) (pe_callB (cr_min rfl) rfl X.z_min bt_min (pa_cons (pe_lst (pa_cons (pv 7) (pa_cons (pv 8) pa_nil))) pa_nil)))
 (pss_cons (ps_if (pt_not (pt_truth (pe_call (ok_law_same X 8) (hr.mono (by omega)) rfl X.g_law_same X.f_law_same.F.kp (b_law_same X) .nil pass0 (pa_cons (pe_ixU hv (pe_call (ok_sure_lines X) (hr.mono (by omega)) rfl X.g_sure_lines X.f_sure_lines.F.kp (b_sure_lines X) .nil pass0 (pa_cons (pv 9) (pa_cons (pv 4) pa_nil))) (pv 6) (by intro _ _; rfl)) (pa_cons (pv 10) pa_nil))) (by intro _; rfl)))
 (pss_one (ps_ret pe_bl))
 pss_nil)
 (pss_cons (ps_if (pt_cmpR (op_eqM hv) (pv 10) (pv 7) (nomark _))
 (pss_one (ps_ret (pe_and (pe_call (ok_law_same X 8) (hr.mono (by omega)) rfl X.g_law_same X.f_law_same.F.kp (b_law_same X) .nil pass0 (pa_cons (pe_call (ok_chain_count X) (hr.mono (by omega)) rfl X.g_chain_count X.f_chain_count.F.kp (b_chain_count X) .nil pass0 (pa_cons (pv 9) (pa_cons (pv 6) (pa_cons (pv 4) pa_nil)))) (pa_cons (pe_tup (pa_cons pe_int (pa_cons pe_int pa_nil))) pa_nil))) (pe_one (pe_call (ok_law_same X 8) (hr.mono (by omega)) rfl X.g_law_same X.f_law_same.F.kp (b_law_same X) .nil pass0 (pa_cons (pe_call (ok_chain_paper X) (hr.mono (by omega)) rfl X.g_chain_paper X.f_chain_paper.F.kp (b_chain_paper X) .nil pass0 (pa_cons (pv 9) (pa_cons (pv 6) (pa_cons (pv 4) pa_nil)))) (pa_cons (pe_tup (pa_cons pe_str (pa_cons (pe_tup pa_nil) pa_nil))) pa_nil)))))))
 pss_nil)
 (pss_cons (ps_set (i := 11) sc_law_looking.nd rfl (by first | exact Or.inl rfl | exact Or.inr rfl) (pe_op op_mulW (pe_ixU hv (pv 1) pe_int (by intro _ _; rfl)) (pe_ixU hv (pe_ixU hv (pv 3) (pe_op op_sub (pv 4) pe_int) (by intro _ _; rfl)) pe_int (by intro _ _; rfl))))
 (pss_one (ps_ret (pe_call (ok_law_same X 8) (hr.mono (by omega)) rfl X.g_law_same X.f_law_same.F.kp (b_law_same X) .nil pass0 (pa_cons (pe_call (ok_chain_count X) (hr.mono (by omega)) rfl X.g_chain_count X.f_chain_count.F.kp (b_chain_count X) .nil pass0 (pa_cons (pv 9) (pa_cons (pv 6) (pa_cons (pv 4) pa_nil)))) (pa_cons (pe_tup (pa_cons (pv 11) (pa_cons pe_int pa_nil))) pa_nil))))))))))))),
   body_ok (n := 5) (k := 7) rfl h ((es_seq (es_ifS (et_test (ee_op (ee_ixU (ee_ixV (i := 2) (ee_op (ee_var (i := 4)) (ee_c rfl) rd_I0)) (ee_c rfl)) (ee_ixU (ee_ixV (i := 1) (ee_c rfl)) (ee_c rfl)) rd_B0))
 (es_ret (ee_c rfl))
 es_next)
 (es_seq (es_asg (ee_call (ea_cons (ee_var (i := 0)) (ea_cons (ee_var (i := 1)) (ea_cons (ee_var (i := 2)) (ea_cons (ee_var (i := 4)) ea_nil))))) (eg_tup (n := 4) (eg_cons (eg_name (i := 5)) (eg_cons (eg_name (i := 6)) (eg_cons (eg_name (i := 7)) (eg_cons (eg_name (i := 8)) eg_nil))))))
 (es_seq (es_asg (ee_call (ea_cons (ee_var (i := 5)) ea_nil)) (eg_name (i := 9)))
 (es_seq (es_asg (ee_cb (ea_cons (ee_frz (eo_lst (ea_cons (ee_var (i := 7)) (ea_cons (ee_var (i := 8)) ea_nil)))) ea_nil) rc_minL) (eg_name (i := 10)))
 (es_seq (es_ifS (et_not (et_tru (ee_call (ea_cons (ee_ixU (ee_call (ea_cons (ee_var (i := 9)) (ea_cons (ee_var (i := 4)) ea_nil))) (ee_var (i := 6))) (ea_cons (ee_var (i := 10)) ea_nil)))))
 (es_ret (ee_c rfl))
 es_next)
 (es_seq (es_ifS (et_test (ee_op (ee_var (i := 10)) (ee_var (i := 7)) rd_eq))
 (es_ret (ee_andV (ee_call (ea_cons (ee_call (ea_cons (ee_var (i := 9)) (ea_cons (ee_var (i := 6)) (ea_cons (ee_var (i := 4)) ea_nil)))) (ea_cons (ee_tup (ea_cons (ee_c rfl) (ea_cons (ee_c rfl) ea_nil))) ea_nil))) (ee_call (ea_cons (ee_call (ea_cons (ee_var (i := 9)) (ea_cons (ee_var (i := 6)) (ea_cons (ee_var (i := 4)) ea_nil)))) (ea_cons (ee_tup (ea_cons (ee_c rfl) (ea_cons (ee_tup ea_nil) ea_nil))) ea_nil)))))
 es_next)
 (es_seq (es_asg (ee_op (ee_ixV (i := 1) (ee_c rfl)) (ee_ixU (ee_ixV (i := 3) (ee_op (ee_var (i := 4)) (ee_c rfl) rd_I0)) (ee_c rfl)) rd_mul) (eg_name (i := 11)))
 (es_ret (ee_call (ea_cons (ee_call (ea_cons (ee_var (i := 9)) (ea_cons (ee_var (i := 6)) (ea_cons (ee_var (i := 4)) ea_nil)))) (ea_cons (ee_tup (ea_cons (ee_var (i := 11)) (ea_cons (ee_c rfl) ea_nil))) ea_nil))))))))))))⟩
theorem ok_law_once (X : Fs K mg) : FnOk P w K mg base CX0 12 X.f_law_once.a X.f_law_once.d ["box"] (spM ⟨K, w⟩ 1 (m_law_once X.c)) := by
  refine X.f_law_once.F.ok (k := 11) (N := N_law_once) sc_law_once (fun _ _ _ _ h => spM_len h) fun cdv A outer s H vs Q E hr h => ?_
  have hv := hv_of hr
  exact ⟨_, PSs.nox ((pss_cons (ps_set (i := 1) sc_law_once.nd rfl (by first | exact Or.inl rfl | exact Or.inr rfl) (pe_call (ok_law_plain X) (hr.mono (by omega)) rfl X.g_law_plain X.f_law_plain.F.kp (b_law_plain X) .nil pass0 (pa_cons (pv 0) pa_nil)))
 (pss_cons (ps_par (i := 2) (j := 3) rfl sc_law_once.nd rfl rfl (by decide) (by first | rfl | kernel_rfl) (by first | rfl | kernel_rfl) (pa_cons (pe_call (ok_law_made X) (hr.mono (by omega)) rfl X.g_law_made X.f_law_made.F.kp (b_law_made X) .nil pass0 (pa_cons (pv 1) pa_nil)) (pa_cons (pe_call (ok_law_pick X) (hr.mono (by omega)) rfl X.g_law_pick X.f_law_pick.F.kp (b_law_pick X) .nil pass0 (pa_cons (pv 0) (pa_cons (pe_lst (pa_cons pe_int (pa_cons pe_int (pa_cons pe_int (pa_cons (pe_ifExp (pt_cmpR op_lt (pe_callB call_len_seq rfl X.z_len bt_len (pa_cons (pe_ixU hv (pv 1) pe_int (by intro _ _; rfl)) pa_nil)) pe_int (nomark _)) pe_int pe_int) pa_nil))))) pa_nil))) pa_nil)) (by first | rfl | kernel_rfl))
 (pss_cons (ps_asg (pe_call (ok_law_sums X) (hr.mono (by omega)) rfl X.g_law_sums X.f_law_sums.F.kp (b_law_sums X) .nil pass0 (pa_cons (pv 1) (pa_cons (pv 3) pa_nil))) (pg_tupU (n := 2) rfl (pgs_cons (pg_name (i := 4) sc_law_once.nd rfl (by first | exact Or.inl rfl | exact Or.inr rfl)) (pgs_cons (pg_name (i := 5) sc_law_once.nd rfl (by first | exact Or.inl rfl | exact Or.inr rfl)) pgs_nil))))
 (pss_cons (ps_if (pt_not (pt_truth (pe_call (ok_law_same X 8) (hr.mono (by omega)) rfl X.g_law_same X.f_law_same.F.kp (b_law_same X) .nil pass0 (pa_cons (pe_call (ok_sure_lines X) (hr.mono (by omega)) rfl X.g_sure_lines X.f_sure_lines.F.kp (b_sure_lines X) .nil pass0 (pa_cons (pv 2) (pa_cons (pv 3) pa_nil))) (pa_cons (pe_callTy call_tuple_of rfl X.z_tuple bt_tuple (pa_cons (pe_ixU hv (pv 4) (pv 3) (by intro _ _; rfl)) pa_nil)) pa_nil))) (by intro _; rfl)))
 (pss_one (ps_ret pe_bl))
 pss_nil)
 (pss_cons (ps_for PassesOwn.never rfl (pi_range1 rfl X.z_range (pa_cons pe_int pa_nil)) (pg_name (i := 6) sc_law_once.nd rfl (by first | exact Or.inl rfl | exact Or.inr rfl))
 (pss_cons (ps_par (i := 7) (j := 8) rfl sc_law_once.nd rfl rfl (by decide) (by first | rfl | kernel_rfl) (by first | rfl | kernel_rfl) (pa_cons (pe_call (ok_law_draw X) (hr.mono (by omega)) rfl X.g_law_draw X.f_law_draw.F.kp (b_law_draw X) .nil pass0 (pa_cons (pv 0) (pa_cons (pe_callB call_len_seq rfl X.z_len bt_len (pa_cons (pe_ixU hv (pv 1) pe_int (by intro _ _; rfl)) pa_nil)) pa_nil))) (pa_cons (pe_op op_sub (pv 3) (pe_call (ok_law_draw X) (hr.mono (by omega)) rfl X.g_law_draw X.f_law_draw.F.kp (b_law_draw X) .nil pass0 (pa_cons (pv 0) (pa_cons (pe_call (ok_law_pick X) (hr.mono (by omega)) rfl X.g_law_pick X.f_law_pick.F.kp (b_law_pick X) .nil pass0 (pa_cons (pv 0) (pa_cons (pe_lst (pa_cons pe_int (pa_cons (pv 3) pa_nil))) pa_nil))) pa_nil)))) pa_nil)) (by first | rfl | kernel_rfl))
 (pss_cons (ps_set (i := 9) sc_law_once.nd rfl (by first | exact Or.inl rfl | exact Or.inr rfl) (pe_ixU hv (pe_ixU hv (pv 4) (pv 8) (by intro _ _; rfl)) (pv 7) (by intro _ _; rfl)))
 (pss_one (ps_if (pt_cmpR op_gt (pv 9) (pe_ixU hv (pe_ixU hv (pv 1) pe_int (by intro _ _; rfl)) pe_int (by intro _ _; rfl)) (nomark _))
 (pss_cons (ps_if (pt_not (pt_truth (pe_call (ok_law_same X 8) (hr.mono (by omega)) rfl X.g_law_same X.f_law_same.F.kp (b_law_same X) .nil pass0 (pa_cons (pe_call (ok_chain_count X) (hr.mono (by omega)) rfl X.g_chain_count X.f_chain_count.F.kp (b_chain_count X) .nil pass0 (pa_cons (pv 2) (pa_cons (pv 7) (pa_cons (pv 8) pa_nil)))) (pa_cons (pe_tup (pa_cons (pe_ixU hv (pe_ixU hv (pv 5) (pv 8) (by intro _ _; rfl)) (pv 7) (by intro _ _; rfl)) (pa_cons pe_int pa_nil))) pa_nil))) (by intro _; rfl)))
 (pss_one (ps_ret pe_bl))
 pss_nil)
 (pss_cons (ps_set (i := 10) sc_law_once.nd rfl (by first | exact Or.inl rfl | exact Or.inr rfl) (pe_call (ok_chain_paper X) (hr.mono (by omega)) rfl X.g_chain_paper X.f_chain_paper.F.kp (b_chain_paper X) .nil pass0 (pa_cons (pv 2) (pa_cons (pv 7) (pa_cons (pv 8) pa_nil)))))
 (pss_cons (ps_if (PW.pt (pw_or (pt_not (pt_truth (pe_call (ok_law_is_paper X) (hr.mono (by omega)) rfl X.g_law_is_paper X.f_law_is_paper.F.kp (b_law_is_paper X) .nil pass0 (pa_cons (pv 1) (pa_cons (pv 10) (pa_cons (pv 9) (pa_cons (pv 7) (pa_cons (pv 8) pa_nil)))))) (by intro _; rfl))) (pw_or1 (pt_not (pt_truth (pe_call (ok_law_tells X) (hr.mono (by omega)) rfl X.g_law_tells X.f_law_tells.F.kp (b_law_tells X) .nil pass0 (pa_cons (pe_call (ok_chain_holds X) (hr.mono (by omega)) rfl X.g_chain_holds X.f_chain_holds.F.kp (b_chain_holds X) .nil pass0 (pa_cons (pv 2) (pa_cons (pv 7) (pa_cons (pv 8) (pa_cons (pv 10) pa_nil))))) (pa_cons pe_bl pa_nil))) (by intro _; rfl))))))
 (pss_one (ps_ret pe_bl))
 pss_nil)
 (pss_cons (ps_set (i := 11) sc_law_once.nd rfl (by first | exact Or.inl rfl | exact Or.inr rfl) (pe_ixU hv (pv 10) pe_int (by intro _ _; rfl)))
 (pss_one (ps_for PassesOwn.never rfl (pi_seqE (pe_lst (pa_cons (pe_tup (pa_cons pe_str (pa_cons (pe_slice sl_U (pv 11) po_none (po_some (pe_un un_neg pe_int))) pa_nil))) (pa_cons (pe_tup (pa_cons pe_str (pa_cons (pe_op op_addU (pv 11) (pe_tup (pa_cons pe_int pa_nil))) pa_nil))) (pa_cons (pe_tup (pa_cons pe_str (pa_cons (pv 11) pa_nil))) (pa_cons (pe_tup (pa_cons pe_str (pa_cons (pe_slice sl_U (pv 11) po_none (po_some (pe_un un_neg pe_int))) pa_nil))) (pa_cons (pe_tup (pa_cons pe_str (pa_cons (pe_tup pa_nil) pa_nil))) pa_nil))))))) (pg_name (i := 12) sc_law_once.nd rfl (by first | exact Or.inl rfl | exact Or.inr rfl))
 (pss_one (ps_if (pt_not (pt_truth (pe_call (ok_law_tells X) (hr.mono (by omega)) rfl X.g_law_tells X.f_law_tells.F.kp (b_law_tells X) .nil pass0 (pa_cons (pe_call (ok_chain_holds X) (hr.mono (by omega)) rfl X.g_chain_holds X.f_chain_holds.F.kp (b_chain_holds X) .nil pass0 (pa_cons (pv 2) (pa_cons (pv 7) (pa_cons (pv 8) (pa_cons (pv 12) pa_nil))))) (pa_cons pe_bl pa_nil))) (by intro _; rfl)))
 (pss_one (ps_ret pe_bl))
 pss_nil))))))))
 pss_nil)))))
 (pss_one (ps_ret (pe_call (ok_law_looking X) (hr.mono (by omega)) rfl X.g_law_looking X.f_law_looking.F.kp (b_law_looking X) .nil pass0 (pa_cons (pv 0) (pa_cons (pv 1) (pa_cons (pv 4) (pa_cons (pv 5) (pa_cons (pv 3) pa_nil)))))))))))))),
   body_ok (n := 1) (k := 12) rfl h ((es_seq (es_asg (ee_call (ea_cons (ee_var (i := 0)) ea_nil)) (eg_name (i := 1)))
 (es_seq (es_par (ea_cons (ee_call (ea_cons (ee_var (i := 1)) ea_nil)) (ea_cons (ee_call (ea_cons (ee_var (i := 0)) (ea_cons (ee_frz (eo_lst (ea_cons (ee_c rfl) (ea_cons (ee_c rfl) (ea_cons (ee_c rfl) (ea_cons (ee_if (et_test (ee_op (ee_cb (ea_cons (ee_ixV (i := 1) (ee_c rfl)) ea_nil) rc_len) (ee_c rfl) rd_B0)) (ee_c rfl) (ee_c rfl)) ea_nil)))))) ea_nil))) ea_nil)))
 (es_seq (es_asg (ee_call (ea_cons (ee_var (i := 1)) (ea_cons (ee_var (i := 3)) ea_nil))) (eg_tup (n := 2) (eg_cons (eg_name (i := 4)) (eg_cons (eg_name (i := 5)) eg_nil))))
 (es_seq (es_ifS (et_not (et_tru (ee_call (ea_cons (ee_call (ea_cons (ee_var (i := 2)) (ea_cons (ee_var (i := 3)) ea_nil))) (ea_cons (ee_cb (ea_cons (ee_ixV (i := 4) (ee_var (i := 3))) ea_nil) rc_tuple) ea_nil)))))
 (es_ret (ee_c rfl))
 es_next)
 (es_seq (es_for (ei_rng1 (ea_cons (ee_c rfl) ea_nil)) (eg_name (i := 6))
 (es_seq (es_par (ea_cons (ee_call (ea_cons (ee_var (i := 0)) (ea_cons (ee_cb (ea_cons (ee_ixV (i := 1) (ee_c rfl)) ea_nil) rc_len) ea_nil))) (ea_cons (ee_op (ee_var (i := 3)) (ee_call (ea_cons (ee_var (i := 0)) (ea_cons (ee_call (ea_cons (ee_var (i := 0)) (ea_cons (ee_frz (eo_lst (ea_cons (ee_c rfl) (ea_cons (ee_var (i := 3)) ea_nil)))) ea_nil))) ea_nil))) rd_I0) ea_nil)))
 (es_seq (es_asg (ee_ixU (ee_ixV (i := 4) (ee_var (i := 8))) (ee_var (i := 7))) (eg_name (i := 9)))
 (es_ifS (et_test (ee_op (ee_var (i := 9)) (ee_ixU (ee_ixV (i := 1) (ee_c rfl)) (ee_c rfl)) rd_B0))
 (es_seq (es_ifS (et_not (et_tru (ee_call (ea_cons (ee_call (ea_cons (ee_var (i := 2)) (ea_cons (ee_var (i := 7)) (ea_cons (ee_var (i := 8)) ea_nil)))) (ea_cons (ee_tup (ea_cons (ee_ixU (ee_ixV (i := 5) (ee_var (i := 8))) (ee_var (i := 7))) (ea_cons (ee_c rfl) ea_nil))) ea_nil)))))
 (es_ret (ee_c rfl))
 es_next)
 (es_seq (es_asg (ee_call (ea_cons (ee_var (i := 2)) (ea_cons (ee_var (i := 7)) (ea_cons (ee_var (i := 8)) ea_nil)))) (eg_name (i := 10)))
 (es_seq (es_ifS (et_or (et_not (et_tru (ee_call (ea_cons (ee_var (i := 1)) (ea_cons (ee_var (i := 10)) (ea_cons (ee_var (i := 9)) (ea_cons (ee_var (i := 7)) (ea_cons (ee_var (i := 8)) ea_nil)))))))) (et_not (et_tru (ee_call (ea_cons (ee_call (ea_cons (ee_var (i := 2)) (ea_cons (ee_var (i := 7)) (ea_cons (ee_var (i := 8)) (ea_cons (ee_var (i := 10)) ea_nil))))) (ea_cons (ee_c rfl) ea_nil))))))
 (es_ret (ee_c rfl))
 es_next)
 (es_seq (es_asg (ee_ixV (i := 10) (ee_c rfl)) (eg_name (i := 11)))
 (es_for (ei_seq (ee_frz (eo_lst (ea_cons (ee_tup (ea_cons (ee_c rfl) (ea_cons (ee_sl (ee_var (i := 11)) eo_no (eo_part (ee_un (ee_c rfl) ru_U))) ea_nil))) (ea_cons (ee_tup (ea_cons (ee_c rfl) (ea_cons (ee_op (ee_var (i := 11)) (ee_tup (ea_cons (ee_c rfl) ea_nil)) rd_add) ea_nil))) (ea_cons (ee_tup (ea_cons (ee_c rfl) (ea_cons (ee_var (i := 11)) ea_nil))) (ea_cons (ee_tup (ea_cons (ee_c rfl) (ea_cons (ee_sl (ee_var (i := 11)) eo_no (eo_part (ee_un (ee_c rfl) ru_U))) ea_nil))) (ea_cons (ee_tup (ea_cons (ee_c rfl) (ea_cons (ee_tup ea_nil) ea_nil))) ea_nil)))))))) (eg_name (i := 12))
 (es_ifS (et_not (et_tru (ee_call (ea_cons (ee_call (ea_cons (ee_var (i := 2)) (ea_cons (ee_var (i := 7)) (ea_cons (ee_var (i := 8)) (ea_cons (ee_var (i := 12)) ea_nil))))) (ea_cons (ee_c rfl) ea_nil)))))
 (es_ret (ee_c rfl))
 es_next))))))
 es_next))))
 (es_ret (ee_call (ea_cons (ee_var (i := 0)) (ea_cons (ee_var (i := 1)) (ea_cons (ee_var (i := 4)) (ea_cons (ee_var (i := 5)) (ea_cons (ee_var (i := 3)) ea_nil)))))))))))))⟩
theorem ok_law (X : Fs K mg) : FnOk P w K mg base CX0 13 X.f_law.a X.f_law.d ["script"] (spM ⟨K, w⟩ 1 (m_law X.c)) := by
  refine X.f_law.F.ok (k := 12) (N := N_law) sc_law (fun _ _ _ _ h => spM_len h) fun cdv A outer s H vs Q E hr h => ?_
  have hv := hv_of hr
  exact ⟨_, PSs.nox ((pss_one (ps_ret (pe_call (ok_law_once X) (hr.mono (by omega)) rfl X.g_law_once X.f_law_once.F.kp (b_law_once X) .nil pass0 (pa_cons (pe_call (ok_law_box X) (hr.mono (by omega)) rfl X.g_law_box X.f_law_box.F.kp (b_law_box X) .nil pass0 (pa_cons (pv 0) pa_nil)) pa_nil))))),
   body_ok (n := 1) (k := 0) rfl h ((es_ret (ee_call (ea_cons (ee_call (ea_cons (ee_var (i := 0)) ea_nil)) ea_nil))))⟩
end
end ML
set_option Elab.async false
set_option linter.all false
set_option maxRecDepth 100000
set_option maxHeartbeats 0
namespace ML
open PySem PySem.Spec PyProof.Rows L2
def names0 : List PySem.Str := ["ShipError", "InvalidStores", "InvalidModes", "InvalidStation", "InvalidMode", "InvalidNights", "InvalidSize", "Refused", "is_integer", "is_below", "is_between", "is_sequence", "is_row", "is_paper", "MOST_STORES", "MOST_MODES", "MOST_LETTERS", "MOST_THRESHOLDS", "Station", "stores_wrong", "is_mode", "are_thresholds", "is_move", "told_mode", "need_station", "need_mode", "cell_at", "cell_number", "moves_at", "is_fate"]
def names1 : List PySem.Str := ["need_one_store", "stretch_ends", "ask_of", "asks_of", "first_lines", "MOST_NIGHTS_ever", "sure_step", "sure_lines", "MOST_NIGHTS_props", "line_table", "need_line", "is_held", "held_table", "is_look", "chain_steps", "chain_paper", "chain_end", "chain_holds", "chain_layers", "chain_count", "_law_box", "_law_draw", "_law_pick", "_law_near", "_law_tells", "_law_is_int", "_law_made", "_law_same", "_law_plain", "_law_sums"]
def names2 : List PySem.Str := ["_law_shifts", "_law_is_paper", "_law_with_look", "_law_looking", "_law_once"]
def names : List PySem.Str := names0 ++ names1 ++ names2
def dd_law_box : He.DefD := ⟨("_law_box", none), "_law_box", "_law_box", defArgs s_law_box, defBody s_law_box, defScope s_law_box, [], []⟩
def dd_is_integer : He.DefD := ⟨("is_integer", none), "is_integer", "is_integer", defArgs s_is_integer, defBody s_is_integer, defScope s_is_integer, [], []⟩
def dd_is_between : He.DefD := ⟨("is_between", none), "is_between", "is_between", defArgs s_is_between, defBody s_is_between, defScope s_is_between, [], []⟩
def dd_need_station : He.DefD := ⟨("need_station", none), "need_station", "need_station", defArgs s_need_station, defBody s_need_station, defScope s_need_station, [He.Dv.int (-1)], []⟩
def dd_need_one_store : He.DefD := ⟨("need_one_store", none), "need_one_store", "need_one_store", defArgs s_need_one_store, defBody s_need_one_store, defScope s_need_one_store, [], []⟩
def dd_first_lines : He.DefD := ⟨("first_lines", none), "first_lines", "first_lines", defArgs s_first_lines, defBody s_first_lines, defScope s_first_lines, [], []⟩
def dd_stretch_ends : He.DefD := ⟨("stretch_ends", none), "stretch_ends", "stretch_ends", defArgs s_stretch_ends, defBody s_stretch_ends, defScope s_stretch_ends, [], []⟩
def dd_ask_of : He.DefD := ⟨("ask_of", none), "ask_of", "ask_of", defArgs s_ask_of, defBody s_ask_of, defScope s_ask_of, [], []⟩
def dd_asks_of : He.DefD := ⟨("asks_of", none), "asks_of", "asks_of", defArgs s_asks_of, defBody s_asks_of, defScope s_asks_of, [], []⟩
def dd_sure_step : He.DefD := ⟨("sure_step", none), "sure_step", "sure_step", defArgs s_sure_step, defBody s_sure_step, defScope s_sure_step, [], []⟩
def dd_sure_lines : He.DefD := ⟨("sure_lines", none), "sure_lines", "sure_lines", defArgs s_sure_lines, defBody s_sure_lines, defScope s_sure_lines, [], []⟩
def dd_is_below : He.DefD := ⟨("is_below", none), "is_below", "is_below", defArgs s_is_below, defBody s_is_below, defScope s_is_below, [], []⟩
def dd_need_mode : He.DefD := ⟨("need_mode", none), "need_mode", "need_mode", defArgs s_need_mode, defBody s_need_mode, defScope s_need_mode, [], []⟩
def dd_need_line : He.DefD := ⟨("need_line", none), "need_line", "need_line", defArgs s_need_line, defBody s_need_line, defScope s_need_line, [], []⟩
def dd_line_table : He.DefD := ⟨("line_table", none), "line_table", "line_table", defArgs s_line_table, defBody s_line_table, defScope s_line_table, [], []⟩
def dd_is_held : He.DefD := ⟨("is_held", none), "is_held", "is_held", defArgs s_is_held, defBody s_is_held, defScope s_is_held, [], []⟩
def dd_held_table : He.DefD := ⟨("held_table", none), "held_table", "held_table", defArgs s_held_table, defBody s_held_table, defScope s_held_table, [], []⟩
def dd_cell_at : He.DefD := ⟨("cell_at", none), "cell_at", "cell_at", defArgs s_cell_at, defBody s_cell_at, defScope s_cell_at, [], []⟩
def dd_cell_number : He.DefD := ⟨("cell_number", none), "cell_number", "cell_number", defArgs s_cell_number, defBody s_cell_number, defScope s_cell_number, [], []⟩
def dd_moves_at : He.DefD := ⟨("moves_at", none), "moves_at", "moves_at", defArgs s_moves_at, defBody s_moves_at, defScope s_moves_at, [], []⟩
def dd_is_look : He.DefD := ⟨("is_look", none), "is_look", "is_look", defArgs s_is_look, defBody s_is_look, defScope s_is_look, [], []⟩
def dd_chain_steps : He.DefD := ⟨("chain_steps", none), "chain_steps", "chain_steps", defArgs s_chain_steps, defBody s_chain_steps, defScope s_chain_steps, [], []⟩
def dd_chain_paper : He.DefD := ⟨("chain_paper", none), "chain_paper", "chain_paper", defArgs s_chain_paper, defBody s_chain_paper, defScope s_chain_paper, [], []⟩
def dd_is_paper : He.DefD := ⟨("is_paper", none), "is_paper", "is_paper", defArgs s_is_paper, defBody s_is_paper, defScope s_is_paper, [], []⟩
def dd_is_fate : He.DefD := ⟨("is_fate", none), "is_fate", "is_fate", defArgs s_is_fate, defBody s_is_fate, defScope s_is_fate, [], []⟩
def dd_chain_end : He.DefD := ⟨("chain_end", none), "chain_end", "chain_end", defArgs s_chain_end, defBody s_chain_end, defScope s_chain_end, [], []⟩
def dd_chain_holds : He.DefD := ⟨("chain_holds", none), "chain_holds", "chain_holds", defArgs s_chain_holds, defBody s_chain_holds, defScope s_chain_holds, [], []⟩
def dd_chain_layers : He.DefD := ⟨("chain_layers", none), "chain_layers", "chain_layers", defArgs s_chain_layers, defBody s_chain_layers, defScope s_chain_layers, [], []⟩
def dd_chain_count : He.DefD := ⟨("chain_count", none), "chain_count", "chain_count", defArgs s_chain_count, defBody s_chain_count, defScope s_chain_count, [], []⟩
def dd_law_draw : He.DefD := ⟨("_law_draw", none), "_law_draw", "_law_draw", defArgs s_law_draw, defBody s_law_draw, defScope s_law_draw, [], []⟩
def dd_law_pick : He.DefD := ⟨("_law_pick", none), "_law_pick", "_law_pick", defArgs s_law_pick, defBody s_law_pick, defScope s_law_pick, [], []⟩
def dd_law_tells : He.DefD := ⟨("_law_tells", none), "_law_tells", "_law_tells", defArgs s_law_tells, defBody s_law_tells, defScope s_law_tells, [], []⟩
def dd_is_sequence : He.DefD := ⟨("is_sequence", none), "is_sequence", "is_sequence", defArgs s_is_sequence, defBody s_is_sequence, defScope s_is_sequence, [], []⟩
def dd_stores_wrong : He.DefD := ⟨("stores_wrong", none), "stores_wrong", "stores_wrong", defArgs s_stores_wrong, defBody s_stores_wrong, defScope s_stores_wrong, [], []⟩
def dd_is_row : He.DefD := ⟨("is_row", none), "is_row", "is_row", defArgs s_is_row, defBody s_is_row, defScope s_is_row, [], []⟩
def dd_are_thresholds : He.DefD := ⟨("are_thresholds", none), "are_thresholds", "are_thresholds", defArgs s_are_thresholds, defBody s_are_thresholds, defScope s_are_thresholds, [], []⟩
def dd_is_move : He.DefD := ⟨("is_move", none), "is_move", "is_move", defArgs s_is_move, defBody s_is_move, defScope s_is_move, [], []⟩
def dd_is_mode : He.DefD := ⟨("is_mode", none), "is_mode", "is_mode", defArgs s_is_mode, defBody s_is_mode, defScope s_is_mode, [], []⟩
def dd_told_mode : He.DefD := ⟨("told_mode", none), "told_mode", "told_mode", defArgs s_told_mode, defBody s_told_mode, defScope s_told_mode, [], []⟩
def dd_Station_init : He.DefD := ⟨("Station", some "__init__"), "__init__", "Station.__init__", defArgs s_Station_init, defBody s_Station_init, defScope s_Station_init, [], []⟩
def dd_law_made : He.DefD := ⟨("_law_made", none), "_law_made", "_law_made", defArgs s_law_made, defBody s_law_made, defScope s_law_made, [], []⟩
def dd_law_is_int : He.DefD := ⟨("_law_is_int", none), "_law_is_int", "_law_is_int", defArgs s_law_is_int, defBody s_law_is_int, defScope s_law_is_int, [], []⟩
def dd_law_same : He.DefD := ⟨("_law_same", none), "_law_same", "_law_same", defArgs s_law_same, defBody s_law_same, defScope s_law_same, [], []⟩
def dd_law_near : He.DefD := ⟨("_law_near", none), "_law_near", "_law_near", defArgs s_law_near, defBody s_law_near, defScope s_law_near, [], []⟩
def dd_law_plain : He.DefD := ⟨("_law_plain", none), "_law_plain", "_law_plain", defArgs s_law_plain, defBody s_law_plain, defScope s_law_plain, [], []⟩
def dd_law_sums : He.DefD := ⟨("_law_sums", none), "_law_sums", "_law_sums", defArgs s_law_sums, defBody s_law_sums, defScope s_law_sums, [], []⟩
def dd_law_shifts : He.DefD := ⟨("_law_shifts", none), "_law_shifts", "_law_shifts", defArgs s_law_shifts, defBody s_law_shifts, defScope s_law_shifts, [], []⟩
def dd_law_is_paper : He.DefD := ⟨("_law_is_paper", none), "_law_is_paper", "_law_is_paper", defArgs s_law_is_paper, defBody s_law_is_paper, defScope s_law_is_paper, [], []⟩
def dd_law_with_look : He.DefD := ⟨("_law_with_look", none), "_law_with_look", "_law_with_look", defArgs s_law_with_look, defBody s_law_with_look, defScope s_law_with_look, [], []⟩
def dd_law_looking : He.DefD := ⟨("_law_looking", none), "_law_looking", "_law_looking", defArgs s_law_looking, defBody s_law_looking, defScope s_law_looking, [], []⟩
def dd_law_once : He.DefD := ⟨("_law_once", none), "_law_once", "_law_once", defArgs s_law_once, defBody s_law_once, defScope s_law_once, [], []⟩
def dd_law : He.DefD := ⟨("law", none), "law", "law", defArgs s_law, defBody s_law, defScope s_law, [], []⟩
def fn0 : List He.DefD := [dd_law_box, dd_is_integer, dd_is_between, dd_need_station, dd_need_one_store, dd_first_lines, dd_stretch_ends, dd_ask_of, dd_asks_of, dd_sure_step, dd_sure_lines, dd_is_below, dd_need_mode, dd_need_line, dd_line_table, dd_is_held, dd_held_table, dd_cell_at, dd_cell_number, dd_moves_at, dd_is_look, dd_chain_steps, dd_chain_paper, dd_is_paper, dd_is_fate, dd_chain_end, dd_chain_holds, dd_chain_layers, dd_chain_count, dd_law_draw]
def fn1 : List He.DefD := [dd_law_pick, dd_law_tells, dd_is_sequence, dd_stores_wrong, dd_is_row, dd_are_thresholds, dd_is_move, dd_is_mode, dd_told_mode, dd_Station_init, dd_law_made, dd_law_is_int, dd_law_same, dd_law_near, dd_law_plain, dd_law_sums, dd_law_shifts, dd_law_is_paper, dd_law_with_look, dd_law_looking, dd_law_once, dd_law]
def fn : List He.DefD := fn0 ++ fn1
def fa0 : List He.Fa := [.glo "_law_box", .glo "is_integer", .glo "is_between", .glo "need_station", .glo "need_one_store", .glo "first_lines", .glo "stretch_ends", .glo "ask_of", .glo "asks_of", .glo "sure_step", .glo "sure_lines", .glo "is_below", .glo "need_mode", .glo "need_line", .glo "line_table", .glo "is_held", .glo "held_table", .glo "cell_at", .glo "cell_number", .glo "moves_at", .glo "is_look", .glo "chain_steps", .glo "chain_paper", .glo "is_paper", .glo "is_fate", .glo "chain_end", .glo "chain_holds", .glo "chain_layers", .glo "chain_count", .glo "_law_draw"]
def fa1 : List He.Fa := [.glo "_law_pick", .glo "_law_tells", .glo "is_sequence", .glo "stores_wrong", .glo "is_row", .glo "are_thresholds", .glo "is_move", .glo "is_mode", .glo "told_mode", .glo "_law_made", .glo "_law_is_int", .glo "_law_same", .glo "_law_near", .glo "_law_plain", .glo "_law_sums", .glo "_law_shifts", .glo "_law_is_paper", .glo "_law_with_look", .glo "_law_looking", .glo "_law_once", .glo "law", .glo "Station", .cls "Station", .mkr "Station", .noat "Station" "caps", .noat "Station" "floors", .noat "Station" "letters", .noat "Station" "modes", .int "MOST_STORES" 3, .int "MOST_MODES" 60]
def fa2 : List He.Fa := [.int "MOST_LETTERS" 6, .int "MOST_THRESHOLDS" 6, .int "MOST_NIGHTS_ever" 400, .int "MOST_NIGHTS_props" 400, .free "abs", .free "all", .free "bool", .free "enumerate", .free "int", .free "isinstance", .free "len", .free "list", .free "max", .free "min", .free "range", .free "sorted", .free "str", .free "tuple", .free "zip"]
def fa : List He.Fa := fa0 ++ fa1 ++ fa2
def clsX (x : Str) (K : PySem.W.Frag) : Bool := decide (PySem.W.findIn K (.ref (He.ga K x)) "__class__" = some (some (.builtin "object.__class__"))) && (decide (PySem.W.specialIn K (.builtin "object.__class__") "__get__" = some (some (.builtin "getset_descriptor.__get__"))) && (decide (PySem.W.takesIn K (.builtin "object.__class__") = some true) && decide (PySem.W.mroIn K (He.ga K x) (.type "object") = some true)))
def exX (K : PySem.W.Frag) : Bool := clsX "Station" K
def obsX (g : Addr → Option Obj) : He.AlD × Bool := (He.obsDG 5 fa fn g, exX (He.frG g (He.asD g 5)))
def hkX : PySem.W.Hook where
  α := He.AlD × Bool
  obs := fun s => obsX s.heap.get?
  val := fun _ => (He.valD fn, true)
  says := fun _ h => ∃ K : PySem.W.Frag, K.In h ∧ He.SaysD fa fn K ∧ exX K = true
  of := fun _ _ e => ⟨_, He.frG_in, congrArg (fun z : He.AlD × Bool => z.1) e, congrArg (fun z : He.AlD × Bool => z.2) e⟩
  keeps := fun _ _ _ ⟨K, hK, c⟩ k => ⟨K, PySem.W.Frag.In.keeps hK k, c⟩
abbrev RR : PySem.W.OpenRow := PySem.W.OpenLaw.row PySem.Challenge.rw_tillnextship_k77_whole_chains_of_many_ni
def ob (s : PySem.W.SharedT) : He.AlD × Bool := obsX (HandSHeadRun.getT s)
theorem ob_eq (s : PySem.W.SharedT) : ob s = hkX.obs s.abs := by
  have e : HandSHeadRun.getT s = s.abs.heap.get? := funext (HandSHeadRun.getT_eq s)
  unfold ob
  rw [e]
  rfl
theorem run (w : World) : HandSHeadRun.RunEq RR (PySem.W.view RR.prog [73]) hkX ob 6000 names w := by
  intro os
  kernel_rfl
theorem clsX_ok {K : PySem.W.Frag} {x : Str} (cl : Cls K (He.ga K x)) (h : clsX x K = true) : ClF K (He.ga K x) := by
  unfold clsX at h
  simp only [Bool.and_eq_true, decide_eq_true_eq] at h
  exact ⟨cl, h.1, h.2.1, h.2.2.1, h.2.2.2⟩
theorem facts {K : PySem.W.Frag} {h : Heap} {mg : Str → Option Value} (X : K.In h) (G : h.Ns mainGlobals mg) (c : He.SaysD fa fn K) (e : exX K = true) : ∃ F : Fs K mg, F.f_law.a = He.ga K "law" := by
  obtain ⟨d_law_box, F_law_box⟩ := c.def_ 0 (d := dd_law_box) rfl
  obtain ⟨d_is_integer, F_is_integer⟩ := c.def_ 1 (d := dd_is_integer) rfl
  obtain ⟨d_is_between, F_is_between⟩ := c.def_ 2 (d := dd_is_between) rfl
  obtain ⟨d_need_station, F_need_station⟩ := c.def_ 3 (d := dd_need_station) rfl
  obtain ⟨d_need_one_store, F_need_one_store⟩ := c.def_ 4 (d := dd_need_one_store) rfl
  obtain ⟨d_first_lines, F_first_lines⟩ := c.def_ 5 (d := dd_first_lines) rfl
  obtain ⟨d_stretch_ends, F_stretch_ends⟩ := c.def_ 6 (d := dd_stretch_ends) rfl
  obtain ⟨d_ask_of, F_ask_of⟩ := c.def_ 7 (d := dd_ask_of) rfl
  obtain ⟨d_asks_of, F_asks_of⟩ := c.def_ 8 (d := dd_asks_of) rfl
  obtain ⟨d_sure_step, F_sure_step⟩ := c.def_ 9 (d := dd_sure_step) rfl
  obtain ⟨d_sure_lines, F_sure_lines⟩ := c.def_ 10 (d := dd_sure_lines) rfl
  obtain ⟨d_is_below, F_is_below⟩ := c.def_ 11 (d := dd_is_below) rfl
  obtain ⟨d_need_mode, F_need_mode⟩ := c.def_ 12 (d := dd_need_mode) rfl
  obtain ⟨d_need_line, F_need_line⟩ := c.def_ 13 (d := dd_need_line) rfl
  obtain ⟨d_line_table, F_line_table⟩ := c.def_ 14 (d := dd_line_table) rfl
  obtain ⟨d_is_held, F_is_held⟩ := c.def_ 15 (d := dd_is_held) rfl
  obtain ⟨d_held_table, F_held_table⟩ := c.def_ 16 (d := dd_held_table) rfl
  obtain ⟨d_cell_at, F_cell_at⟩ := c.def_ 17 (d := dd_cell_at) rfl
  obtain ⟨d_cell_number, F_cell_number⟩ := c.def_ 18 (d := dd_cell_number) rfl
  obtain ⟨d_moves_at, F_moves_at⟩ := c.def_ 19 (d := dd_moves_at) rfl
  obtain ⟨d_is_look, F_is_look⟩ := c.def_ 20 (d := dd_is_look) rfl
  obtain ⟨d_chain_steps, F_chain_steps⟩ := c.def_ 21 (d := dd_chain_steps) rfl
  obtain ⟨d_chain_paper, F_chain_paper⟩ := c.def_ 22 (d := dd_chain_paper) rfl
  obtain ⟨d_is_paper, F_is_paper⟩ := c.def_ 23 (d := dd_is_paper) rfl
  obtain ⟨d_is_fate, F_is_fate⟩ := c.def_ 24 (d := dd_is_fate) rfl
  obtain ⟨d_chain_end, F_chain_end⟩ := c.def_ 25 (d := dd_chain_end) rfl
  obtain ⟨d_chain_holds, F_chain_holds⟩ := c.def_ 26 (d := dd_chain_holds) rfl
  obtain ⟨d_chain_layers, F_chain_layers⟩ := c.def_ 27 (d := dd_chain_layers) rfl
  obtain ⟨d_chain_count, F_chain_count⟩ := c.def_ 28 (d := dd_chain_count) rfl
  obtain ⟨d_law_draw, F_law_draw⟩ := c.def_ 29 (d := dd_law_draw) rfl
  obtain ⟨d_law_pick, F_law_pick⟩ := c.def_ 30 (d := dd_law_pick) rfl
  obtain ⟨d_law_tells, F_law_tells⟩ := c.def_ 31 (d := dd_law_tells) rfl
  obtain ⟨d_is_sequence, F_is_sequence⟩ := c.def_ 32 (d := dd_is_sequence) rfl
  obtain ⟨d_stores_wrong, F_stores_wrong⟩ := c.def_ 33 (d := dd_stores_wrong) rfl
  obtain ⟨d_is_row, F_is_row⟩ := c.def_ 34 (d := dd_is_row) rfl
  obtain ⟨d_are_thresholds, F_are_thresholds⟩ := c.def_ 35 (d := dd_are_thresholds) rfl
  obtain ⟨d_is_move, F_is_move⟩ := c.def_ 36 (d := dd_is_move) rfl
  obtain ⟨d_is_mode, F_is_mode⟩ := c.def_ 37 (d := dd_is_mode) rfl
  obtain ⟨d_told_mode, F_told_mode⟩ := c.def_ 38 (d := dd_told_mode) rfl
  obtain ⟨d_Station_init, F_Station_init⟩ := c.def_ 39 (d := dd_Station_init) rfl
  obtain ⟨d_law_made, F_law_made⟩ := c.def_ 40 (d := dd_law_made) rfl
  obtain ⟨d_law_is_int, F_law_is_int⟩ := c.def_ 41 (d := dd_law_is_int) rfl
  obtain ⟨d_law_same, F_law_same⟩ := c.def_ 42 (d := dd_law_same) rfl
  obtain ⟨d_law_near, F_law_near⟩ := c.def_ 43 (d := dd_law_near) rfl
  obtain ⟨d_law_plain, F_law_plain⟩ := c.def_ 44 (d := dd_law_plain) rfl
  obtain ⟨d_law_sums, F_law_sums⟩ := c.def_ 45 (d := dd_law_sums) rfl
  obtain ⟨d_law_shifts, F_law_shifts⟩ := c.def_ 46 (d := dd_law_shifts) rfl
  obtain ⟨d_law_is_paper, F_law_is_paper⟩ := c.def_ 47 (d := dd_law_is_paper) rfl
  obtain ⟨d_law_with_look, F_law_with_look⟩ := c.def_ 48 (d := dd_law_with_look) rfl
  obtain ⟨d_law_looking, F_law_looking⟩ := c.def_ 49 (d := dd_law_looking) rfl
  obtain ⟨d_law_once, F_law_once⟩ := c.def_ 50 (d := dd_law_once) rfl
  obtain ⟨d_law, F_law⟩ := c.def_ 51 (d := dd_law) rfl
  have ex := e
  unfold exX at ex
  exact ⟨{
    c := ⟨He.ga K "Station"⟩,
    f_law_box := ⟨He.ga K "_law_box", d_law_box, F_law_box⟩,
    g_law_box := He.glo_ok X G (c.fact 0 (f := .glo "_law_box") rfl),
    f_is_integer := ⟨He.ga K "is_integer", d_is_integer, F_is_integer⟩,
    g_is_integer := He.glo_ok X G (c.fact 1 (f := .glo "is_integer") rfl),
    f_is_between := ⟨He.ga K "is_between", d_is_between, F_is_between⟩,
    g_is_between := He.glo_ok X G (c.fact 2 (f := .glo "is_between") rfl),
    f_need_station := ⟨He.ga K "need_station", d_need_station, F_need_station⟩,
    g_need_station := He.glo_ok X G (c.fact 3 (f := .glo "need_station") rfl),
    f_need_one_store := ⟨He.ga K "need_one_store", d_need_one_store, F_need_one_store⟩,
    g_need_one_store := He.glo_ok X G (c.fact 4 (f := .glo "need_one_store") rfl),
    f_first_lines := ⟨He.ga K "first_lines", d_first_lines, F_first_lines⟩,
    g_first_lines := He.glo_ok X G (c.fact 5 (f := .glo "first_lines") rfl),
    f_stretch_ends := ⟨He.ga K "stretch_ends", d_stretch_ends, F_stretch_ends⟩,
    g_stretch_ends := He.glo_ok X G (c.fact 6 (f := .glo "stretch_ends") rfl),
    f_ask_of := ⟨He.ga K "ask_of", d_ask_of, F_ask_of⟩,
    g_ask_of := He.glo_ok X G (c.fact 7 (f := .glo "ask_of") rfl),
    f_asks_of := ⟨He.ga K "asks_of", d_asks_of, F_asks_of⟩,
    g_asks_of := He.glo_ok X G (c.fact 8 (f := .glo "asks_of") rfl),
    f_sure_step := ⟨He.ga K "sure_step", d_sure_step, F_sure_step⟩,
    g_sure_step := He.glo_ok X G (c.fact 9 (f := .glo "sure_step") rfl),
    f_sure_lines := ⟨He.ga K "sure_lines", d_sure_lines, F_sure_lines⟩,
    g_sure_lines := He.glo_ok X G (c.fact 10 (f := .glo "sure_lines") rfl),
    f_is_below := ⟨He.ga K "is_below", d_is_below, F_is_below⟩,
    g_is_below := He.glo_ok X G (c.fact 11 (f := .glo "is_below") rfl),
    f_need_mode := ⟨He.ga K "need_mode", d_need_mode, F_need_mode⟩,
    g_need_mode := He.glo_ok X G (c.fact 12 (f := .glo "need_mode") rfl),
    f_need_line := ⟨He.ga K "need_line", d_need_line, F_need_line⟩,
    g_need_line := He.glo_ok X G (c.fact 13 (f := .glo "need_line") rfl),
    f_line_table := ⟨He.ga K "line_table", d_line_table, F_line_table⟩,
    g_line_table := He.glo_ok X G (c.fact 14 (f := .glo "line_table") rfl),
    f_is_held := ⟨He.ga K "is_held", d_is_held, F_is_held⟩,
    g_is_held := He.glo_ok X G (c.fact 15 (f := .glo "is_held") rfl),
    f_held_table := ⟨He.ga K "held_table", d_held_table, F_held_table⟩,
    g_held_table := He.glo_ok X G (c.fact 16 (f := .glo "held_table") rfl),
    f_cell_at := ⟨He.ga K "cell_at", d_cell_at, F_cell_at⟩,
    g_cell_at := He.glo_ok X G (c.fact 17 (f := .glo "cell_at") rfl),
    f_cell_number := ⟨He.ga K "cell_number", d_cell_number, F_cell_number⟩,
    g_cell_number := He.glo_ok X G (c.fact 18 (f := .glo "cell_number") rfl),
    f_moves_at := ⟨He.ga K "moves_at", d_moves_at, F_moves_at⟩,
    g_moves_at := He.glo_ok X G (c.fact 19 (f := .glo "moves_at") rfl),
    f_is_look := ⟨He.ga K "is_look", d_is_look, F_is_look⟩,
    g_is_look := He.glo_ok X G (c.fact 20 (f := .glo "is_look") rfl),
    f_chain_steps := ⟨He.ga K "chain_steps", d_chain_steps, F_chain_steps⟩,
    g_chain_steps := He.glo_ok X G (c.fact 21 (f := .glo "chain_steps") rfl),
    f_chain_paper := ⟨He.ga K "chain_paper", d_chain_paper, F_chain_paper⟩,
    g_chain_paper := He.glo_ok X G (c.fact 22 (f := .glo "chain_paper") rfl),
    f_is_paper := ⟨He.ga K "is_paper", d_is_paper, F_is_paper⟩,
    g_is_paper := He.glo_ok X G (c.fact 23 (f := .glo "is_paper") rfl),
    f_is_fate := ⟨He.ga K "is_fate", d_is_fate, F_is_fate⟩,
    g_is_fate := He.glo_ok X G (c.fact 24 (f := .glo "is_fate") rfl),
    f_chain_end := ⟨He.ga K "chain_end", d_chain_end, F_chain_end⟩,
    g_chain_end := He.glo_ok X G (c.fact 25 (f := .glo "chain_end") rfl),
    f_chain_holds := ⟨He.ga K "chain_holds", d_chain_holds, F_chain_holds⟩,
    g_chain_holds := He.glo_ok X G (c.fact 26 (f := .glo "chain_holds") rfl),
    f_chain_layers := ⟨He.ga K "chain_layers", d_chain_layers, F_chain_layers⟩,
    g_chain_layers := He.glo_ok X G (c.fact 27 (f := .glo "chain_layers") rfl),
    f_chain_count := ⟨He.ga K "chain_count", d_chain_count, F_chain_count⟩,
    g_chain_count := He.glo_ok X G (c.fact 28 (f := .glo "chain_count") rfl),
    f_law_draw := ⟨He.ga K "_law_draw", d_law_draw, F_law_draw⟩,
    g_law_draw := He.glo_ok X G (c.fact 29 (f := .glo "_law_draw") rfl),
    f_law_pick := ⟨He.ga K "_law_pick", d_law_pick, F_law_pick⟩,
    g_law_pick := He.glo_ok X G (c.fact 30 (f := .glo "_law_pick") rfl),
    f_law_tells := ⟨He.ga K "_law_tells", d_law_tells, F_law_tells⟩,
    g_law_tells := He.glo_ok X G (c.fact 31 (f := .glo "_law_tells") rfl),
    f_is_sequence := ⟨He.ga K "is_sequence", d_is_sequence, F_is_sequence⟩,
    g_is_sequence := He.glo_ok X G (c.fact 32 (f := .glo "is_sequence") rfl),
    f_stores_wrong := ⟨He.ga K "stores_wrong", d_stores_wrong, F_stores_wrong⟩,
    g_stores_wrong := He.glo_ok X G (c.fact 33 (f := .glo "stores_wrong") rfl),
    f_is_row := ⟨He.ga K "is_row", d_is_row, F_is_row⟩,
    g_is_row := He.glo_ok X G (c.fact 34 (f := .glo "is_row") rfl),
    f_are_thresholds := ⟨He.ga K "are_thresholds", d_are_thresholds, F_are_thresholds⟩,
    g_are_thresholds := He.glo_ok X G (c.fact 35 (f := .glo "are_thresholds") rfl),
    f_is_move := ⟨He.ga K "is_move", d_is_move, F_is_move⟩,
    g_is_move := He.glo_ok X G (c.fact 36 (f := .glo "is_move") rfl),
    f_is_mode := ⟨He.ga K "is_mode", d_is_mode, F_is_mode⟩,
    g_is_mode := He.glo_ok X G (c.fact 37 (f := .glo "is_mode") rfl),
    f_told_mode := ⟨He.ga K "told_mode", d_told_mode, F_told_mode⟩,
    g_told_mode := He.glo_ok X G (c.fact 38 (f := .glo "told_mode") rfl),
    f_Station_init := ⟨He.ma K (He.ga K "Station") "__init__", d_Station_init, F_Station_init⟩,
    f_law_made := ⟨He.ga K "_law_made", d_law_made, F_law_made⟩,
    g_law_made := He.glo_ok X G (c.fact 39 (f := .glo "_law_made") rfl),
    f_law_is_int := ⟨He.ga K "_law_is_int", d_law_is_int, F_law_is_int⟩,
    g_law_is_int := He.glo_ok X G (c.fact 40 (f := .glo "_law_is_int") rfl),
    f_law_same := ⟨He.ga K "_law_same", d_law_same, F_law_same⟩,
    g_law_same := He.glo_ok X G (c.fact 41 (f := .glo "_law_same") rfl),
    f_law_near := ⟨He.ga K "_law_near", d_law_near, F_law_near⟩,
    g_law_near := He.glo_ok X G (c.fact 42 (f := .glo "_law_near") rfl),
    f_law_plain := ⟨He.ga K "_law_plain", d_law_plain, F_law_plain⟩,
    g_law_plain := He.glo_ok X G (c.fact 43 (f := .glo "_law_plain") rfl),
    f_law_sums := ⟨He.ga K "_law_sums", d_law_sums, F_law_sums⟩,
    g_law_sums := He.glo_ok X G (c.fact 44 (f := .glo "_law_sums") rfl),
    f_law_shifts := ⟨He.ga K "_law_shifts", d_law_shifts, F_law_shifts⟩,
    g_law_shifts := He.glo_ok X G (c.fact 45 (f := .glo "_law_shifts") rfl),
    f_law_is_paper := ⟨He.ga K "_law_is_paper", d_law_is_paper, F_law_is_paper⟩,
    g_law_is_paper := He.glo_ok X G (c.fact 46 (f := .glo "_law_is_paper") rfl),
    f_law_with_look := ⟨He.ga K "_law_with_look", d_law_with_look, F_law_with_look⟩,
    g_law_with_look := He.glo_ok X G (c.fact 47 (f := .glo "_law_with_look") rfl),
    f_law_looking := ⟨He.ga K "_law_looking", d_law_looking, F_law_looking⟩,
    g_law_looking := He.glo_ok X G (c.fact 48 (f := .glo "_law_looking") rfl),
    f_law_once := ⟨He.ga K "_law_once", d_law_once, F_law_once⟩,
    g_law_once := He.glo_ok X G (c.fact 49 (f := .glo "_law_once") rfl),
    f_law := ⟨He.ga K "law", d_law, F_law⟩,
    g_law := He.glo_ok X G (c.fact 50 (f := .glo "law") rfl),
    g_Station := He.glo_ok X G (c.fact 51 (f := .glo "Station") rfl),
    M_Station := He.mkr_ok (c.fact 53 (f := .mkr "Station") rfl),
    C_Station := clsX_ok (He.cls_ok (c.fact 52 (f := .cls "Station") rfl)) ex,
    n_Station_caps := He.noat_ok (c.fact 54 (f := .noat "Station" "caps") rfl),
    n_Station_floors := He.noat_ok (c.fact 55 (f := .noat "Station" "floors") rfl),
    n_Station_letters := He.noat_ok (c.fact 56 (f := .noat "Station" "letters") rfl),
    n_Station_modes := He.noat_ok (c.fact 57 (f := .noat "Station" "modes") rfl),
    k_MOST_STORES := He.int_ok X G (c.fact 58 (f := .int "MOST_STORES" 3) rfl),
    k_MOST_MODES := He.int_ok X G (c.fact 59 (f := .int "MOST_MODES" 60) rfl),
    k_MOST_LETTERS := He.int_ok X G (c.fact 60 (f := .int "MOST_LETTERS" 6) rfl),
    k_MOST_THRESHOLDS := He.int_ok X G (c.fact 61 (f := .int "MOST_THRESHOLDS" 6) rfl),
    k_MOST_NIGHTS_ever := He.int_ok X G (c.fact 62 (f := .int "MOST_NIGHTS_ever" 400) rfl),
    k_MOST_NIGHTS_props := He.int_ok X G (c.fact 63 (f := .int "MOST_NIGHTS_props" 400) rfl),
    z_abs := He.free_ok X G (c.fact 64 (f := .free "abs") rfl),
    z_all := He.free_ok X G (c.fact 65 (f := .free "all") rfl),
    z_bool := He.free_ok X G (c.fact 66 (f := .free "bool") rfl),
    z_enumerate := He.free_ok X G (c.fact 67 (f := .free "enumerate") rfl),
    z_int := He.free_ok X G (c.fact 68 (f := .free "int") rfl),
    z_isinstance := He.free_ok X G (c.fact 69 (f := .free "isinstance") rfl),
    z_len := He.free_ok X G (c.fact 70 (f := .free "len") rfl),
    z_list := He.free_ok X G (c.fact 71 (f := .free "list") rfl),
    z_max := He.free_ok X G (c.fact 72 (f := .free "max") rfl),
    z_min := He.free_ok X G (c.fact 73 (f := .free "min") rfl),
    z_range := He.free_ok X G (c.fact 74 (f := .free "range") rfl),
    z_sorted := He.free_ok X G (c.fact 75 (f := .free "sorted") rfl),
    z_str := He.free_ok X G (c.fact 76 (f := .free "str") rfl),
    z_tuple := He.free_ok X G (c.fact 77 (f := .free "tuple") rfl),
    z_zip := He.free_ok X G (c.fact 78 (f := .free "zip") rfl) }, rfl⟩
theorem holds (PL : ∀ (c : Cs) (ns : List Int), ns.length ≤ 63 → ∃ ws', m_law c [.lst (ns.map D.int)] [] = some (.bl true, ws')) : PySem.Challenge.rw_tillnextship_k77_whole_chains_of_many_ni.Holds := by
  w_on; o_law
  refine HandSHeadRun.head_any (r := PySem.W.OpenLaw.row PySem.Challenge.rw_tillnextship_k77_whole_chains_of_many_ni) (q := PySem.W.view (PySem.W.OpenLaw.row PySem.Challenge.rw_tillnextship_k77_whole_chains_of_many_ni).prog [73]) (H := hkX) (ob := ob) (M := 6000) (loose := names) (d := HandSHeadRun.topDef (PySem.W.OpenLaw.row PySem.Challenge.rw_tillnextship_k77_whole_chains_of_many_ni).prog 73) (kwd := []) ob_eq
    (by kernel_rfl) (fun s => by kernel_rfl) run (by kernel_rfl) (by kernel_rfl) (by kernel_rfl) (by rfl) (by first | assumption | decide +kernel) (by decide +kernel) ⟨rfl, rfl, rfl, rfl, rfl, by decide +kernel⟩ ?hw ?hc
  case hw => w_witness2
  case hc =>
    refine L2.walk_ofE (l := PySem.Challenge.rw_tillnextship_k77_whole_chains_of_many_ni) (n := 63) (k := 13) (x := "script") (CX := L2.CX0) rfl (by decide) (by kernel_rfl) ⟨rfl, by decide, by decide⟩ ?F (fun _ _ _ _ z => z)
    intro w mg fa h Y G hmg0
    obtain ⟨K, KX, c, e⟩ := Y
    have hmg : mg ("law" : PySem.Str) = some (.ref fa) := by
      have e : (HandSHeadRun.topDef (PySem.W.OpenLaw.row PySem.Challenge.rw_tillnextship_k77_whole_chains_of_many_ni).prog 73).name = ("law" : PySem.Str) := by kernel_rfl
      rw [← e]
      exact hmg0
    obtain ⟨F, hF⟩ := facts KX G c e
    have ea : fa = F.f_law.a := by
      have e2 := hmg.symm.trans F.g_law
      cases e2
      rfl
    subst ea
    refine ⟨K, F.f_law.d, spM ⟨K, w⟩ 1 (m_law F.c), KX, fun s v => FunD.bindsA (ps := ["script"]) F.f_law.F (fun _ _ _ _ _ _ us hl => match us, hl with | [_], _ => rfl) s [v] rfl, fun H a ns hl _ hS => ?_, fun base _ _ => ok_law F⟩
    obtain ⟨ws', hw⟩ := PL F.c ns hl
    exact law_in (K := ⟨K, w⟩) hS hw
end ML
set_option Elab.async false
set_option linter.all false
set_option maxRecDepth 100000
set_option maxHeartbeats 2000000
/-! Rules by which simp runs a model, always at the head: Go runs a reading, Gf a def, Is an answer that may lack. -/
namespace ML
open PySem L2
def Go {α : Type} (o : Option (α × Stt)) (Q : α → Env → List OO → Prop) : Prop := match o with
  | some (a, s) => Q a s.env s.ws
  | none => False
def Gf {α : Type} (o : Option (α × List OO)) (Q : α → List OO → Prop) : Prop := match o with
  | some (a, s) => Q a s
  | none => False
def Is {α : Type} (o : Option α) (Q : α → Prop) : Prop := match o with
  | some a => Q a
  | none => False
/-- a slot written, read -/
def Sv (e : Env) (i : Nat) (v : Sl) (K : Env → Prop) : Prop := K (e.set i v)
def Lk {α : Type} (e : List α) (i : Nat) (K : Option α → Prop) : Prop := K e[i]?
def Ln {α : Type} (e : List α) (K : Nat → Prop) : Prop := K e.length
theorem gf_some {α : Type} {o : Option (α × List OO)} {Q : α → List OO → Prop} (h : Gf o Q) : ∃ a s, o = some (a, s) ∧ Q a s := by
  cases o with
  | none => exact h.elim
  | some p => exact ⟨p.1, p.2, rfl, h⟩
theorem gf_of {α : Type} {o : Option (α × List OO)} {Q : α → List OO → Prop} {a : α} {s : List OO} (h : o = some (a, s)) : Gf o Q = Q a s := by subst h; rfl
theorem gf_eq {α : Type} {o : Option (α × List OO)} {a : α} {s : List OO} (h : Gf o fun b t => b = a ∧ t = s) : o = some (a, s) := by
  obtain ⟨b, t, e, rfl, rfl⟩ := gf_some h
  exact e
theorem go_some {α : Type} {o : Option (α × Stt)} {Q : α → Env → List OO → Prop} (h : Go o Q) : ∃ a s, o = some (a, s) ∧ Q a s.env s.ws := by
  cases o with
  | none => exact h.elim
  | some p => exact ⟨p.1, p.2, rfl, h⟩
theorem go_of {α : Type} {o : Option (α × Stt)} {Q : α → Env → List OO → Prop} {a : α} {s : Stt} (h : o = some (a, s)) : Go o Q = Q a s.env s.ws := by subst h; rfl
section
variable {α β γ : Type} {o : Option α} {Q : α → Prop} {e : Env} {K : Env → Prop} {a : α} {i j n : Nat} {v x : Sl} {env : Env} {ws : List OO} {d d1 : D} {ds ds1 : List D} {me ma mb mc m0 : M D} {mt mu : M Bool} {ms : M (List D)} {mo : M OO} {m m1 m2 : M Fl} {g : Tg} {gs : Tgs}
@[simp ↓] theorem is_some (a : α) (Q : α → Prop) : Is (some a) Q = Q a := Eq.trans rfl rfl
@[simp ↓] theorem is_none (Q : α → Prop) : Is none Q = False := Eq.trans rfl rfl
@[simp ↓] theorem is_map (o : Option α) (f : α → β) (Q : β → Prop) : Is (o.map f) Q = Is o fun a => Q (f a) := by cases o <;> rfl
@[simp ↓] theorem is_bind (o : Option α) (f : α → Option β) (Q : β → Prop) : Is (o.bind f) Q = Is o fun a => Is (f a) Q := by cases o <;> rfl
@[simp ↓] theorem is_ite {C : Prop} [Decidable C] (a b : Option α) (Q : α → Prop) : Is (if C then a else b) Q = if C then Is a Q else Is b Q := by by_cases h : C <;> simp [h]
@[simp ↓] theorem sv_0 : Sv (x :: e) 0 v K = K (v :: e) := Eq.trans rfl rfl
@[simp ↓] theorem sv_s : Sv (x :: e) (n + 1) v K = Sv e n v fun e => K (x :: e) := Eq.trans rfl rfl
@[simp ↓] theorem lk_n {K : Option α → Prop} : Lk ([] : List α) n K = K none := Eq.trans rfl rfl
@[simp ↓] theorem lk_0 {x : α} {e : List α} {K : Option α → Prop} : Lk (x :: e) 0 K = K (some x) := Eq.trans rfl rfl
@[simp ↓] theorem lk_s {x : α} {e : List α} {K : Option α → Prop} : Lk (x :: e) (n + 1) K = Lk e n K := Eq.trans rfl rfl
@[simp ↓] theorem ln_0 {K : Nat → Prop} : Ln ([] : List α) K = K 0 := Eq.trans rfl rfl
@[simp ↓] theorem ln_s {x : α} {e : List α} {K : Nat → Prop} : Ln (x :: e) K = Ln e fun n => K (n + 1) := Eq.trans rfl rfl
/-! the parts of a reading -/
@[simp ↓] theorem go_sm (a : α) (Q : α → Env → List OO → Prop) : Go (some (a, ⟨env, ws⟩)) Q = Q a env ws := Eq.trans rfl rfl
@[simp ↓] theorem go_no (Q : α → Env → List OO → Prop) : Go none Q = False := Eq.trans rfl rfl
@[simp ↓] theorem go_ret (a : α) (Q : α → Env → List OO → Prop) : Go (retM a ⟨env, ws⟩) Q = Q a env ws := Eq.trans rfl rfl
@[simp ↓] theorem go_noM (Q : α → Env → List OO → Prop) : Go (noM ⟨env, ws⟩) Q = False := Eq.trans rfl rfl
@[simp ↓] theorem go_ite {C : Prop} [Decidable C] (m n : M α) (Q : α → Env → List OO → Prop) : Go ((if C then m else n) ⟨env, ws⟩) Q = if C then Go (m ⟨env, ws⟩) Q else Go (n ⟨env, ws⟩) Q := by by_cases h : C <;> simp [h]
@[simp ↓] theorem go_bind {m : M α} {f : α → M β} (Q : β → Env → List OO → Prop) : Go (bindM m f ⟨env, ws⟩) Q = Go (m ⟨env, ws⟩) fun a env ws => Go (f a ⟨env, ws⟩) Q := by
  unfold bindM
  cases m ⟨env, ws⟩ <;> rfl
@[simp ↓] theorem go_lift (o : Option α) (Q : α → Env → List OO → Prop) : Go (liftM o ⟨env, ws⟩) Q = Is o fun a => Q a env ws := by cases o <;> rfl
@[simp ↓] theorem go_ask (f : List OO → Option α) (Q : α → Env → List OO → Prop) : Go (askM f ⟨env, ws⟩) Q = Is (f ws) fun a => Q a env ws := by
  unfold askM
  show Go ((f ws).map _) Q = _
  cases f ws <;> rfl
theorem isM {o : Option α} {f : α → β × Stt} {Q : β → Env → List OO → Prop} : Go (o.map f) Q = Is o fun a => Q (f a).1 (f a).2.env (f a).2.ws := by cases o <;> rfl
/-- what an owned object shows -/
def Vl (o : OO) (K : D → Prop) : Prop := K o.val
@[simp ↓] theorem vl_l {K : D → Prop} : Vl (.lst ds) K = K (.lst ds) := Eq.trans rfl rfl
@[simp ↓] theorem vl_d {K : D → Prop} {kvs : List (D × D)} : Vl (.dic kvs) K = K (.dic kvs) := Eq.trans rfl rfl
@[simp ↓] theorem vl_k {K : D → Prop} : Vl (.keys ds) K = K (.keys ds) := Eq.trans rfl rfl
@[simp ↓] theorem vl_s {K : D → Prop} {ns : List Int} : Vl (.set ns) K = K (.set ns) := Eq.trans rfl rfl
@[simp ↓] theorem vl_i {K : D → Prop} {C : Addr} {b : Bool} {fs : List (Str × D)} : Vl (.ins C b fs) K = K (.ins C fs) := Eq.trans rfl rfl
@[simp] theorem unp_l : (OO.lst ds).unp = true := Eq.trans rfl rfl
@[simp] theorem unp_d {kvs : List (D × D)} : (OO.dic kvs).unp = true := Eq.trans rfl rfl
def slK (i : Nat) (Q : D → Env → List OO → Prop) (env : Env) (ws : List OO) : Option Sl → Prop
  | some (.val d) => Q d env ws
  | some (.own o) => Vl o fun d => Sv env i (.val d) fun env => Q d env ws
  | _ => False
@[simp ↓] theorem slK_val {Q : D → Env → List OO → Prop} : slK i Q env ws (some (.val d)) = Q d env ws := Eq.trans rfl rfl
@[simp ↓] theorem slK_own {Q : D → Env → List OO → Prop} {o : OO} : slK i Q env ws (some (.own o)) = Vl o fun d => Sv env i (.val d) fun env => Q d env ws := Eq.trans rfl rfl
@[simp ↓] theorem go_var (Q : D → Env → List OO → Prop) : Go (mVar i ⟨env, ws⟩) Q = Lk env i (slK i Q env ws) := by
  unfold mVar Lk
  show Go (match env[i]? with
    | some (.val d) => some (d, ⟨env, ws⟩)
    | some (.own o) => some (o.val, { env := env.set i (.val o.val), ws := ws })
    | _ => none) Q = _
  cases env[i]? with
  | none => rfl
  | some z => cases z <;> rfl
@[simp ↓] theorem go_op {g2 : G2} (Q : D → Env → List OO → Prop) : Go (mOp g2 ma mb ⟨env, ws⟩) Q = Go (ma ⟨env, ws⟩) fun a env ws => Go (mb ⟨env, ws⟩) fun b env ws => Is (g2 a b ws) fun d => Q d env ws := by
  unfold mOp; simp
@[simp ↓] theorem go_un {g1 : D → Option D} (Q : D → Env → List OO → Prop) : Go (mUn g1 ma ⟨env, ws⟩) Q = Go (ma ⟨env, ws⟩) fun a env ws => Is (g1 a) fun d => Q d env ws := by
  unfold mUn; simp
@[simp ↓] theorem is_gI {f : Int → Int → Int} {i j : Int} (Q : D → Prop) : Is (gI f (.int i) (.int j) ws) Q = Q (.int (f i j)) := Eq.trans rfl rfl
@[simp ↓] theorem is_gB {f : Int → Int → Bool} {i j : Int} (Q : D → Prop) : Is (gB f (.int i) (.int j) ws) Q = Q (.bl (f i j)) := Eq.trans rfl rfl
@[simp ↓] theorem is_gIC {C : Int → Int → Bool} {f : Int → Int → Int} {i j : Int} (Q : D → Prop) : Is (gIC C f (.int i) (.int j) ws) Q = (C i j = true ∧ Q (.int (f i j))) := by
  show Is (if C i j = true then some (D.int (f i j)) else none) Q = _
  rw [is_ite]
  by_cases h : C i j = true <;> simp [h]
@[simp ↓] theorem is_gU {f : Int → Int} {i : Int} (Q : D → Prop) : Is (gU f (.int i)) Q = Q (.int (f i)) := Eq.trans rfl rfl
@[simp ↓] theorem is_bl {b : Bool} (Q : Bool → Prop) : Is (D.bl? (.bl b)) Q = Q b := Eq.trans rfl rfl
@[simp ↓] theorem is_int {b : Int} (Q : Int → Prop) : Is (D.int? (.int b)) Q = Q b := Eq.trans rfl rfl
@[simp ↓] theorem is_items_t (Q : List D → Prop) : Is (D.items (.tup ds)) Q = Q ds := Eq.trans rfl rfl
@[simp ↓] theorem is_items_l (Q : List D → Prop) : Is (D.items (.lst ds)) Q = Q ds := Eq.trans rfl rfl
/-! tests -/
@[simp ↓] theorem go_test (Q : Bool → Env → List OO → Prop) : Go (mTest me ⟨env, ws⟩) Q = Go (me ⟨env, ws⟩) fun d env ws => Is d.bl? fun b => Q b env ws := by unfold mTest; simp
@[simp ↓] theorem go_not (Q : Bool → Env → List OO → Prop) : Go (mNot mt ⟨env, ws⟩) Q = Go (mt ⟨env, ws⟩) fun b env ws => Q (!b) env ws := by unfold mNot; simp
@[simp ↓] theorem go_and (Q : Bool → Env → List OO → Prop) : Go (mAnd mt mu ⟨env, ws⟩) Q = Go (mt ⟨env, ws⟩) fun b env ws => if b = true then Go (mu ⟨env, ws⟩) Q else Q false env ws := by unfold mAnd; simp
@[simp ↓] theorem go_or (Q : Bool → Env → List OO → Prop) : Go (mOr mt mu ⟨env, ws⟩) Q = Go (mt ⟨env, ws⟩) fun b env ws => if b = true then Q true env ws else Go (mu ⟨env, ws⟩) Q := by unfold mOr; simp
@[simp ↓] theorem go_andV (Q : D → Env → List OO → Prop) : Go (mAndV ma mb ⟨env, ws⟩) Q = Go (ma ⟨env, ws⟩) fun d env ws => Is d.bl? fun b => if b = true then Go (mb ⟨env, ws⟩) Q else Q (.bl false) env ws := by unfold mAndV; simp
@[simp ↓] theorem go_orV (Q : D → Env → List OO → Prop) : Go (mOrV ma mb ⟨env, ws⟩) Q = Go (ma ⟨env, ws⟩) fun d env ws => Is d.bl? fun b => if b = true then Q (.bl true) env ws else Go (mb ⟨env, ws⟩) Q := by unfold mOrV; simp
@[simp ↓] theorem go_notV (Q : D → Env → List OO → Prop) : Go (mNotV ma ⟨env, ws⟩) Q = Go (ma ⟨env, ws⟩) fun d env ws => Is d.bl? fun b => Q (.bl (!b)) env ws := by unfold mNotV; simp
@[simp ↓] theorem go_if {m n : M α} (Q : α → Env → List OO → Prop) : Go (mIf mt m n ⟨env, ws⟩) Q = Go (mt ⟨env, ws⟩) fun b env ws => if b = true then Go (m ⟨env, ws⟩) Q else Go (n ⟨env, ws⟩) Q := by unfold mIf; simp
@[simp ↓] theorem go_chain {g2 g3 : G2} (Q : D → Env → List OO → Prop) : Go (mChain g2 g3 ma mb mc ⟨env, ws⟩) Q = Go (ma ⟨env, ws⟩) fun a env ws => Go (mb ⟨env, ws⟩) fun b env ws => Is (g2 a b ws) fun z => Is z.bl? fun k => if k = true then Go (mc ⟨env, ws⟩) fun c env ws => Is (g3 b c ws) fun d => Q d env ws else Q (.bl false) env ws := by unfold mChain; simp
/-! arguments, displays -/
@[simp ↓] theorem go_nil (Q : List D → Env → List OO → Prop) : Go (mNil ⟨env, ws⟩) Q = Q [] env ws := Eq.trans rfl rfl
@[simp ↓] theorem go_cons (Q : List D → Env → List OO → Prop) : Go (mCons me ms ⟨env, ws⟩) Q = Go (me ⟨env, ws⟩) fun d env ws => Go (ms ⟨env, ws⟩) fun ds env ws => Q (d :: ds) env ws := by unfold mCons; simp
@[simp ↓] theorem go_tup (Q : D → Env → List OO → Prop) : Go (mTup ms ⟨env, ws⟩) Q = Go (ms ⟨env, ws⟩) fun ds env ws => Ln ds fun n => n ≤ most ∧ Q (.tup ds) env ws := by
  unfold mTup Ln
  simp only [go_bind]
  congr 1; funext ds env ws
  by_cases h : ds.length ≤ most <;> simp [h]
@[simp ↓] theorem go_lstO (Q : OO → Env → List OO → Prop) : Go (mLstO ms ⟨env, ws⟩) Q = Go (ms ⟨env, ws⟩) fun ds env ws => Ln ds fun n => n ≤ most ∧ Q (.lst ds) env ws := by
  unfold mLstO Ln
  simp only [go_bind]
  congr 1; funext ds env ws
  by_cases h : ds.length ≤ most <;> simp [h]
@[simp ↓] theorem go_frz (Q : D → Env → List OO → Prop) : Go (mFrz mo ⟨env, ws⟩) Q = Go (mo ⟨env, ws⟩) fun o env ws => Vl o fun d => Q d env ws := by unfold mFrz; simp [Vl]
@[simp ↓] theorem go_cB {gc : GC} (Q : D → Env → List OO → Prop) : Go (mCB gc ms ⟨env, ws⟩) Q = Go (ms ⟨env, ws⟩) fun ds env ws => Is (gc ds ws) fun d => Q d env ws := by unfold mCB; simp
@[simp ↓] theorem go_cBO {gc : GO} (Q : OO → Env → List OO → Prop) : Go (mCBO gc ms ⟨env, ws⟩) Q = Go (ms ⟨env, ws⟩) fun ds env ws => Is (gc ds ws) fun d => Q d env ws := by unfold mCBO; simp
/-! statements -/
@[simp ↓] theorem go_next (Q : Fl → Env → List OO → Prop) : Go (mNext ⟨env, ws⟩) Q = Q .nx env ws := Eq.trans rfl rfl
@[simp ↓] theorem go_never (Q : Fl → Env → List OO → Prop) : Go (mNever ⟨env, ws⟩) Q = False := Eq.trans rfl rfl
@[simp ↓] theorem go_break (Q : Fl → Env → List OO → Prop) : Go (mBreak ⟨env, ws⟩) Q = Q .bk env ws := Eq.trans rfl rfl
@[simp ↓] theorem go_cont (Q : Fl → Env → List OO → Prop) : Go (mCont ⟨env, ws⟩) Q = Q .ct env ws := Eq.trans rfl rfl
@[simp ↓] theorem go_retN (Q : Fl → Env → List OO → Prop) : Go (mRetN ⟨env, ws⟩) Q = Q (.rt .non) env ws := Eq.trans rfl rfl
@[simp ↓] theorem go_mret (Q : Fl → Env → List OO → Prop) : Go (mRet me ⟨env, ws⟩) Q = Go (me ⟨env, ws⟩) fun d env ws => Q (.rt d) env ws := by unfold mRet; simp
@[simp ↓] theorem go_drop (Q : Fl → Env → List OO → Prop) : Go (mDrop me ⟨env, ws⟩) Q = Go (me ⟨env, ws⟩) fun d env ws => Q .nx env ws := by unfold mDrop; simp
/-- what follows a statement -/
def Fk (Q : Fl → Env → List OO → Prop) (m : M Fl) (env : Env) (ws : List OO) : Fl → Prop
  | .nx => Go (m ⟨env, ws⟩) Q
  | f => Q f env ws
@[simp ↓] theorem fk_nx {Q : Fl → Env → List OO → Prop} : Fk Q m env ws .nx = Go (m ⟨env, ws⟩) Q := Eq.trans rfl rfl
@[simp ↓] theorem fk_rt {Q : Fl → Env → List OO → Prop} : Fk Q m env ws (.rt d) = Q (.rt d) env ws := Eq.trans rfl rfl
@[simp ↓] theorem fk_bk {Q : Fl → Env → List OO → Prop} : Fk Q m env ws .bk = Q .bk env ws := Eq.trans rfl rfl
@[simp ↓] theorem fk_ct {Q : Fl → Env → List OO → Prop} : Fk Q m env ws .ct = Q .ct env ws := Eq.trans rfl rfl
@[simp ↓] theorem go_seq (Q : Fl → Env → List OO → Prop) : Go (mSeq m1 m2 ⟨env, ws⟩) Q = Go (m1 ⟨env, ws⟩) fun f env ws => Fk Q m2 env ws f := by
  unfold mSeq
  simp only [go_bind]
  congr 1; funext f env ws
  cases f <;> rfl
end
end ML
set_option Elab.async false
set_option linter.all false
set_option maxRecDepth 100000
set_option maxHeartbeats 2000000
namespace ML
open PySem L2
section
variable {α β γ : Type} {o : Option α} {e : Env} {K : Env → Prop} {a : α} {i j l n k : Nat} {v x : Sl} {env : Env} {ws : List OO} {d d1 d2 d3 : D} {ds ds1 : List D} {me ma mb mc m0 : M D} {mt mu : M Bool} {ms : M (List D)} {mo : M OO} {m m1 m2 : M Fl} {g : Tg} {gs : Tgs}
/-- lists put together -/
def Cat (a b : List D) (K : List D → Prop) : Prop := K (a ++ b)
@[simp ↓] theorem cat_0 {K : List D → Prop} : Cat [] ds K = K ds := Eq.trans rfl rfl
@[simp ↓] theorem cat_s {K : List D → Prop} : Cat (d :: ds) ds1 K = Cat ds ds1 fun l => K (d :: l) := Eq.trans rfl rfl
def Zp (a b : List D) (K : List D → Prop) : Prop := K (zipD a b)
@[simp ↓] theorem zp_0 {K : List D → Prop} : Zp [] ds K = K [] := by cases ds <;> rfl
@[simp ↓] theorem zp_1 {K : List D → Prop} : Zp (d :: ds) [] K = K [] := Eq.trans rfl rfl
@[simp ↓] theorem zp_s {K : List D → Prop} : Zp (d :: ds) (d1 :: ds1) K = Zp ds ds1 fun l => K (.tup [d, d1] :: l) := Eq.trans rfl rfl
def En (n : Int) (ds : List D) (K : List D → Prop) : Prop := ∀ k : Nat, n = k → K (enumFrom k ds)
theorem en_ {k : Nat} {K : List D → Prop} : En (k : Int) ds K = K (enumFrom k ds) := propext ⟨fun h => h k rfl, fun h j e => by
  have z : k = j := Int.ofNat.inj e
  subst z
  exact h⟩
@[simp ↓] theorem en_1 {K : List D → Prop} : En 0 [d] K = K [.tup [.int 0, d]] := en_ (k := 0)
@[simp ↓] theorem en_2 {K : List D → Prop} : En 0 [d, d1] K = K [.tup [.int 0, d], .tup [.int 1, d1]] := en_ (k := 0)
@[simp ↓] theorem en_3 {K : List D → Prop} : En 0 [d, d1, d2] K = K [.tup [.int 0, d], .tup [.int 1, d1], .tup [.int 2, d2]] := en_ (k := 0)
@[simp ↓] theorem en_z {K : List D → Prop} : En 0 [] K = K [] := en_ (k := 0)
@[simp] theorem most_ : most = 10000 := Eq.trans rfl rfl
/-! targets -/
@[simp ↓] theorem is_gName : Is (mgName i d env) K = Sv env i (.val d) K := Eq.trans rfl rfl
@[simp ↓] theorem is_gNil : Is (mgNil [] env) K = K env := Eq.trans rfl rfl
@[simp ↓] theorem is_gCons : Is (mgCons g gs (d :: ds) env) K = Is (g d env) fun env => Is (gs ds env) K := by
  show Is ((g d env).bind fun e1 => gs ds e1) K = _
  rw [is_bind]
@[simp ↓] theorem is_gTup : Is (mgTup n gs (.tup ds) env) K = Ln ds fun k => k = n ∧ Is (gs ds env) K := by
  show Is (if ds.length = n then gs ds env else none) K = _
  unfold Ln
  by_cases h : ds.length = n <;> simp [h]
@[simp ↓] theorem is_gTupL : Is (mgTup n gs (.lst ds) env) K = Ln ds fun k => k = n ∧ Is (gs ds env) K := by
  show Is (if ds.length = n then gs ds env else none) K = _
  unfold Ln
  by_cases h : ds.length = n <;> simp [h]
@[simp ↓] theorem go_asg (Q : Fl → Env → List OO → Prop) : Go (mAsg me g ⟨env, ws⟩) Q = Go (me ⟨env, ws⟩) fun d env ws => Is (g d env) fun env => Q .nx env ws := by
  unfold mAsg
  simp only [go_bind]
  congr 1; funext f env ws
  exact isM
@[simp ↓] theorem go_own (Q : Fl → Env → List OO → Prop) : Go (mOwn i mo ⟨env, ws⟩) Q = Go (mo ⟨env, ws⟩) fun o env ws => o.unp = true ∧ Sv env i (.own o) fun env => Q .nx env ws := by
  unfold mOwn Sv
  simp only [go_bind]
  congr 1; funext o env ws
  by_cases h : o.unp = true <;> simp [h]
def Two (ds : List D) (K : D → D → Prop) : Prop := match ds with
  | [a, b] => K a b
  | _ => False
def Three (ds : List D) (K : D → D → D → Prop) : Prop := match ds with
  | [a, b, c] => K a b c
  | _ => False
@[simp ↓] theorem two_ap {K : D → D → Prop} : Two [d, d1] K = K d d1 := Eq.trans rfl rfl
@[simp ↓] theorem three_ap {K : D → D → D → Prop} : Three [d, d1, d2] K = K d d1 d2 := Eq.trans rfl rfl
@[simp ↓] theorem go_par (Q : Fl → Env → List OO → Prop) : Go (mPar i j ms ⟨env, ws⟩) Q = Go (ms ⟨env, ws⟩) fun ds env ws => Two ds fun a b => Sv env i (.val a) fun env => Sv env j (.val b) fun env => Q .nx env ws := by
  unfold mPar
  simp only [go_bind]
  congr 1; funext ds env ws
  match ds with
  | [] => rfl
  | [_] => rfl
  | [_, _] => rfl
  | _ :: _ :: _ :: _ => rfl
@[simp ↓] theorem go_par3 (Q : Fl → Env → List OO → Prop) : Go (mPar3 i j l ms ⟨env, ws⟩) Q = Go (ms ⟨env, ws⟩) fun ds env ws => Three ds fun a b c => Sv env i (.val a) fun env => Sv env j (.val b) fun env => Sv env l (.val c) fun env => Q .nx env ws := by
  unfold mPar3
  simp only [go_bind]
  congr 1; funext ds env ws
  match ds with
  | [] => rfl
  | [_] => rfl
  | [_, _] => rfl
  | [_, _, _] => rfl
  | _ :: _ :: _ :: _ :: _ => rfl
/-! names that may hold an own list -/
def lenK (i : Nat) (Q : D → Env → List OO → Prop) (env : Env) (ws : List OO) : Option Sl → Prop
  | some (.own (.lst ds)) => Q (.int ds.length) env ws
  | _ => Go (mCB gLen (mCons (mVar i) mNil) ⟨env, ws⟩) Q
@[simp ↓] theorem lenK_own {Q : D → Env → List OO → Prop} : lenK i Q env ws (some (.own (.lst ds))) = Ln ds fun n => Q (.int n) env ws := Eq.trans rfl rfl
@[simp ↓] theorem lenK_val {Q : D → Env → List OO → Prop} : lenK i Q env ws (some (.val d)) = Go (mCB gLen (mCons (mVar i) mNil) ⟨env, ws⟩) Q := Eq.trans rfl rfl
@[simp ↓] theorem go_lenV (Q : D → Env → List OO → Prop) : Go (mLenV i ⟨env, ws⟩) Q = Lk env i (lenK i Q env ws) := by
  unfold mLenV Lk
  show Go (match env[i]? with
    | some (.own (.lst ds)) => some (.int ds.length, ⟨env, ws⟩)
    | _ => mCB gLen (mCons (mVar i) mNil) ⟨env, ws⟩) Q = _
  rcases env[i]? with _ | _ | d | o <;> try rfl
  cases o <;> rfl
def ixK2 (mb : D) (Q : D → Env → List OO → Prop) (env : Env) (ws : List OO) : Option Sl → Prop
  | some (.own (.lst ds)) => Is mb.int? fun j => Is (atI ds j) fun d => Q d env ws
  | _ => False
@[simp ↓] theorem ixK2_own {Q : D → Env → List OO → Prop} : ixK2 d Q env ws (some (.own (.lst ds))) = Is d.int? fun j => Is (atI ds j) fun d => Q d env ws := Eq.trans rfl rfl
def ixK (i : Nat) (mb : M D) (Q : D → Env → List OO → Prop) (env : Env) (ws : List OO) : Option Sl → Prop
  | some (.own (.lst ds)) => Go (mb ⟨env, ws⟩) fun b env ws => Lk env i (ixK2 b Q env ws)
  | _ => Go (mOp gIx (mVar i) mb ⟨env, ws⟩) Q
@[simp ↓] theorem ixK_own {Q : D → Env → List OO → Prop} : ixK i mb Q env ws (some (.own (.lst ds))) = Go (mb ⟨env, ws⟩) fun b env ws => Lk env i (ixK2 b Q env ws) := Eq.trans rfl rfl
@[simp ↓] theorem ixK_val {Q : D → Env → List OO → Prop} : ixK i mb Q env ws (some (.val d)) = Go (mOp gIx (mVar i) mb ⟨env, ws⟩) Q := Eq.trans rfl rfl
@[simp ↓] theorem go_ixV (Q : D → Env → List OO → Prop) : Go (mIxV i mb ⟨env, ws⟩) Q = Lk env i (ixK i mb Q env ws) := by
  unfold mIxV Lk
  show Go (match env[i]? with
    | some (.own (.lst _)) => bindM mb (fun b => fun s1 => match s1.env[i]? with
      | some (.own (.lst ds)) => (b.int?.bind fun j => atI ds j).map fun d => (d, s1)
      | _ => none) ⟨env, ws⟩
    | _ => mOp gIx (mVar i) mb ⟨env, ws⟩) Q = _
  have main : Go (bindM mb (fun b => fun s1 => match s1.env[i]? with
      | some (.own (.lst ds)) => (b.int?.bind fun j => atI ds j).map fun d => (d, s1)
      | _ => none) ⟨env, ws⟩) Q = Go (mb ⟨env, ws⟩) fun b env ws => Lk env i (ixK2 b Q env ws) := by
    rw [go_bind]
    congr 1; funext b env ws
    unfold Lk
    show Go (match env[i]? with
      | some (.own (.lst ds)) => (b.int?.bind fun j => atI ds j).map fun d => (d, (⟨env, ws⟩ : Stt))
      | _ => none) Q = _
    rcases env[i]? with _ | _ | d | o <;> try rfl
    cases o <;> try rfl
    show Go ((b.int?.bind fun j => atI _ j).map fun d => (d, (⟨env, ws⟩ : Stt))) Q = _
    rw [isM, is_bind]; rfl
  rcases env[i]? with _ | _ | d | o <;> try rfl
  cases o <;> first | exact main | rfl
def apK2 (i : Nat) (d : D) (Q : D → Env → List OO → Prop) (env : Env) (ws : List OO) : Option Sl → Prop
  | some (.own (.lst ds)) => ds.length < most ∧ Sv env i (.own (.lst (ds ++ [d]))) fun env => Q .non env ws
  | _ => False
@[simp ↓] theorem apK2_own {Q : D → Env → List OO → Prop} : apK2 i d Q env ws (some (.own (.lst ds))) = (ds.length < most ∧ Cat ds [d] fun l => Sv env i (.own (.lst l)) fun env => Q .non env ws) := Eq.trans rfl rfl
def apK (i : Nat) (me : M D) (Q : D → Env → List OO → Prop) (env : Env) (ws : List OO) : Option Sl → Prop
  | some (.own (.lst ds)) => Go (me ⟨env, ws⟩) fun d env ws => Lk env i (apK2 i d Q env ws)
  | _ => False
@[simp ↓] theorem apK_own {Q : D → Env → List OO → Prop} : apK i me Q env ws (some (.own (.lst ds))) = Go (me ⟨env, ws⟩) fun d env ws => Lk env i (apK2 i d Q env ws) := Eq.trans rfl rfl
@[simp ↓] theorem go_appV (Q : D → Env → List OO → Prop) : Go (mAppV i me ⟨env, ws⟩) Q = Lk env i (apK i me Q env ws) := by
  unfold mAppV Lk
  show Go (match env[i]? with
    | some (.own (.lst _)) => bindM me (fun d => fun s1 => match s1.env[i]? with
      | some (.own (.lst ds)) => if ds.length < most then some (D.non, { s1 with env := s1.env.set i (.own (.lst (ds ++ [d]))) }) else none
      | _ => none) ⟨env, ws⟩
    | _ => none) Q = _
  have main : Go (bindM me (fun d => fun s1 => match s1.env[i]? with
      | some (.own (.lst ds)) => if ds.length < most then some (D.non, { s1 with env := s1.env.set i (.own (.lst (ds ++ [d]))) }) else none
      | _ => none) ⟨env, ws⟩) Q = Go (me ⟨env, ws⟩) fun d env ws => Lk env i (apK2 i d Q env ws) := by
    rw [go_bind]
    congr 1; funext d env ws
    unfold Lk
    show Go (match env[i]? with
      | some (.own (.lst ds)) => if ds.length < most then some (D.non, (⟨env.set i (.own (.lst (ds ++ [d]))), ws⟩ : Stt)) else none
      | _ => none) Q = _
    rcases env[i]? with _ | _ | z | o <;> try rfl
    cases o <;> try rfl
    rename_i ds
    show Go (if ds.length < most then some (D.non, (⟨env.set i (.own (.lst (ds ++ [d]))), ws⟩ : Stt)) else none) Q = (ds.length < most ∧ _)
    by_cases hl : ds.length < most
    · rw [if_pos hl]; simp only [hl, true_and]; rfl
    · rw [if_neg hl]; simp only [hl, false_and]; rfl
  rcases env[i]? with _ | _ | d | o <;> try rfl
  cases o <;> first | exact main | rfl
/-! loops -/
def Lp (Q : Fl → Env → List OO → Prop) (m : M Fl) (env : Env) (ws : List OO) : Fl → Prop
  | .nx => Go (m ⟨env, ws⟩) Q
  | .ct => Go (m ⟨env, ws⟩) Q
  | .bk => Q .nx env ws
  | .rt d => Q (.rt d) env ws
@[simp ↓] theorem lp_nx {Q : Fl → Env → List OO → Prop} : Lp Q m env ws .nx = Go (m ⟨env, ws⟩) Q := Eq.trans rfl rfl
@[simp ↓] theorem lp_rt {Q : Fl → Env → List OO → Prop} : Lp Q m env ws (.rt d) = Q (.rt d) env ws := Eq.trans rfl rfl
@[simp ↓] theorem lp_bk {Q : Fl → Env → List OO → Prop} : Lp Q m env ws .bk = Q .nx env ws := Eq.trans rfl rfl
@[simp ↓] theorem lp_ct {Q : Fl → Env → List OO → Prop} : Lp Q m env ws .ct = Go (m ⟨env, ws⟩) Q := Eq.trans rfl rfl
@[simp ↓] theorem go_loop0 (Q : Fl → Env → List OO → Prop) : Go (loopM g m [] ⟨env, ws⟩) Q = Q .nx env ws := Eq.trans rfl rfl
@[simp ↓] theorem go_loop1 (Q : Fl → Env → List OO → Prop) : Go (loopM g m (d :: ds) ⟨env, ws⟩) Q = Is (g d env) fun env => Go (m ⟨env, ws⟩) fun f env ws => Lp Q (loopM g m ds) env ws f := by
  show Go (match g d env with
    | none => none
    | some e => match m { env := e, ws := ws } with
      | none => none
      | some (f, s1) => match f with
        | .nx => loopM g m ds s1
        | .ct => loopM g m ds s1
        | .bk => some (.nx, s1)
        | .rt d => some (.rt d, s1)) Q = _
  cases g d env with
  | none => rfl
  | some e =>
    simp only [is_some]
    cases m ⟨e, ws⟩ with
    | none => rfl
    | some p => obtain ⟨f, s1⟩ := p; cases f <;> rfl
@[simp ↓] theorem go_for {mi : M (List D)} (Q : Fl → Env → List OO → Prop) : Go (mFor mi g m ⟨env, ws⟩) Q = Go (mi ⟨env, ws⟩) fun ds env ws => Go (loopM g m ds ⟨env, ws⟩) Q := by unfold mFor; simp
/-! comprehensions -/
def Wp (e : Env) (vs : List Nat) (K : Env → Prop) : Prop := K (wipeM e vs)
@[simp ↓] theorem wp_0 : Wp e [] K = K e := Eq.trans rfl rfl
@[simp ↓] theorem wp_s {v : Nat} {vs : List Nat} : Wp e (v :: vs) K = Wp e vs fun e => Sv e v .no K := Eq.trans rfl rfl
def Rt (e0 e1 : Env) (vs : List Nat) (K : Env → Prop) : Prop := K (rstM e0 e1 vs)
def getK (e1 : Env) (v : Nat) (K : Env → Prop) : Option Sl → Prop
  | some s => Sv e1 v s K
  | none => Sv e1 v .no K
@[simp ↓] theorem getK_some {e1 : Env} {v : Nat} {s : Sl} : getK e1 v K (some s) = Sv e1 v s K := Eq.trans rfl rfl
@[simp ↓] theorem rt_0 {e0 e1 : Env} : Rt e0 e1 [] K = K e1 := Eq.trans rfl rfl
@[simp ↓] theorem rt_s {e0 e1 : Env} {v : Nat} {vs : List Nat} : Rt e0 e1 (v :: vs) K = Rt e0 e1 vs fun e1 => Lk e0 v (getK e1 v K) := by
  unfold Rt Lk getK Sv
  show K ((rstM e0 e1 vs).set v (e0.getD v .no)) = _
  rw [List.getD_eq_getElem?_getD]
  cases e0[v]? <;> rfl
def Fr (e : Env) (vs : List Nat) (K : Prop) : Prop := vs.all (fun j => (e.getD j .no).free) = true ∧ K
def frK (K : Prop) : Option Sl → Prop
  | some (.own _) => False
  | _ => K
@[simp ↓] theorem frK_no {K : Prop} : frK K (some .no) = K := Eq.trans rfl rfl
@[simp ↓] theorem frK_val {K : Prop} : frK K (some (.val d)) = K := Eq.trans rfl rfl
@[simp ↓] theorem fr_0 {K : Prop} : Fr e [] K = K := by unfold Fr; simp
@[simp ↓] theorem fr_s {K : Prop} {v : Nat} {vs : List Nat} : Fr e (v :: vs) K = Lk e v (frK (Fr e vs K)) := by
  unfold Fr Lk frK
  rw [List.all_cons, List.getD_eq_getElem?_getD]
  cases e[v]? with
  | none => simp [Sl.free]
  | some z => cases z <;> simp [Sl.free]
/-- a run that makes a list -/
def Gl {σ : Type} (o : Option (σ × Stt)) (Q : σ → Env → List OO → Prop) : Prop := Go o Q
@[simp ↓] theorem go_lc {mi : M (List D)} {vs : List Nat} (Q : OO → Env → List OO → Prop) : Go (mLc mi g mt me vs ⟨env, ws⟩) Q = Go (mi ⟨env, ws⟩) fun ds env ws => Fr env vs (Wp env vs fun e => Go (loopC g mt me vs ds [] ⟨e, ws⟩) fun acc e1 ws => Rt env e1 vs fun env => Q (.lst acc) env ws) := by
  unfold mLc
  simp only [go_bind]
  congr 1; funext ds env ws
  unfold compM Fr Wp Rt
  show Go (if _ = true then _ else none) Q = _
  by_cases h : (vs.all fun j => (env.getD j .no).free) = true
  · rw [if_pos h]
    simp only [h, true_and]
    show Go (match (loopC g mt me vs ds [] ⟨wipeM env vs, ws⟩).map (fun p => (OO.lst p.1, p.2)) with
      | some (o, s1) => some (o, ({ s1 with env := rstM env s1.env vs } : Stt))
      | none => none) Q = _
    cases loopC g mt me vs ds [] ⟨wipeM env vs, ws⟩ <;> rfl
  · rw [if_neg h]; exact (eq_false fun z => h z.1).symm
theorem go_tt {s1 : Stt} {A B : Env → List OO → Prop} : Go (some (true, s1)) (fun b env ws => if b = true then A env ws else B env ws) = A s1.env s1.ws := by simp [Go]
def Cb (Kt Kf : Prop) : Bool → Prop
  | true => Kt
  | false => Kf
@[simp ↓] theorem loopC_0 {vs : List Nat} {acc : List D} (Q : List D → Env → List OO → Prop) : Go (loopC g mt me vs [] acc ⟨env, ws⟩) Q = Q acc env ws := Eq.trans rfl rfl
@[simp ↓] theorem loopC_1 {vs : List Nat} {acc : List D} (Q : List D → Env → List OO → Prop) : Go (loopC g mt me vs (d :: ds) acc ⟨env, ws⟩) Q = Is (g d env) fun env => Go (mt ⟨env, ws⟩) fun b env ws => if b = true then Go (me ⟨env, ws⟩) fun y env ws => (acc.length < most ∧ Cat acc [y] fun acc => Wp env vs fun env => Go (loopC g mt me vs ds acc ⟨env, ws⟩) Q) else Wp env vs fun env => Go (loopC g mt me vs ds acc ⟨env, ws⟩) Q := by
  show Go (match g d env with
    | none => none
    | some e => match mt { env := e, ws := ws } with
      | none => none
      | some (true, s1) => (match me s1 with
        | none => none
        | some (y, s2) => if acc.length < most then loopC g mt me vs ds (acc ++ [y]) { s2 with env := wipeM s2.env vs } else none)
      | some (false, s1) => loopC g mt me vs ds acc { s1 with env := wipeM s1.env vs }) Q = _
  cases g d env with
  | none => rfl
  | some e =>
    simp only [is_some]
    cases mt ⟨e, ws⟩ with
    | none => rfl
    | some p =>
      obtain ⟨b, s1⟩ := p
      cases b with
      | false => rfl
      | true =>
        rw [go_tt]
        show Go (match me s1 with
          | none => none
          | some (y, s2) => if acc.length < most then loopC g mt me vs ds (acc ++ [y]) { s2 with env := wipeM s2.env vs } else none) Q = Go (me s1) _
        cases me s1 with
        | none => rfl
        | some q =>
          obtain ⟨y, s2⟩ := q
          show Go (if acc.length < most then loopC g mt me vs ds (acc ++ [y]) { s2 with env := wipeM s2.env vs } else none) Q = (acc.length < most ∧ _)
          by_cases h : acc.length < most
          · rw [if_pos h]; simp only [h, true_and]; rfl
          · rw [if_neg h]; simp only [h, false_and]; rfl
@[simp ↓] theorem go_yes (Q : Bool → Env → List OO → Prop) : Go (mYes ⟨env, ws⟩) Q = Q true env ws := Eq.trans rfl rfl
/-! iterators -/
@[simp ↓] theorem go_items (Q : List D → Env → List OO → Prop) : Go (mItems me ⟨env, ws⟩) Q = Go (me ⟨env, ws⟩) fun d env ws => Is d.items fun ds => Q ds env ws := by unfold mItems; simp
def One (ds : List D) (K : D → Prop) : Prop := match ds with
  | [a] => K a
  | _ => False
@[simp ↓] theorem one_ap {K : D → Prop} : One [d] K = K d := Eq.trans rfl rfl
@[simp ↓] theorem go_enum (Q : List D → Env → List OO → Prop) : Go (mEnum ms ⟨env, ws⟩) Q = Go (ms ⟨env, ws⟩) fun ds env ws => One ds fun d => Is d.items fun ds => En 0 ds fun ds => Q ds env ws := by
  unfold mEnum
  simp only [go_bind]
  congr 1; funext ds env ws
  match ds with
  | [] => rfl
  | [d] => simp only [one_ap, go_lift, is_map]; congr 1; funext ds; exact (en_ (k := 0) (K := fun ds => Q ds env ws)).symm
  | _ :: _ :: _ => rfl
@[simp ↓] theorem go_zip (Q : List D → Env → List OO → Prop) : Go (mZip ms ⟨env, ws⟩) Q = Go (ms ⟨env, ws⟩) fun ds env ws => Two ds fun d e => Is d.items fun xs => Is e.items fun ys => Zp xs ys fun l => Q l env ws := by
  unfold mZip
  simp only [go_bind]
  congr 1; funext ds env ws
  match ds with
  | [] => rfl
  | [_] => rfl
  | [_, _] => simp [Zp]
  | _ :: _ :: _ :: _ => rfl
@[simp ↓] theorem go_listZip (Q : D → Env → List OO → Prop) : Go (mListZip ms ⟨env, ws⟩) Q = Go (mZip ms ⟨env, ws⟩) fun ds env ws => Q (.lst ds) env ws := by
  unfold mListZip; rw [go_bind]; rfl
def rngK (Q : List D → Prop) : D → Prop
  | .int n => n.natAbs < 2 ^ 62 ∧ Q (rngD 0 1 n.toNat)
  | _ => False
@[simp ↓] theorem rngK_int {n : Int} {Q : List D → Prop} : rngK Q (.int n) = (n.natAbs < 2 ^ 62 ∧ Q (rngD 0 1 n.toNat)) := Eq.trans rfl rfl
@[simp ↓] theorem go_rng1 (Q : List D → Env → List OO → Prop) : Go (mRng1 ms ⟨env, ws⟩) Q = Go (ms ⟨env, ws⟩) fun ds env ws => One ds (rngK fun ds => Q ds env ws) := by
  unfold mRng1
  simp only [go_bind]
  congr 1; funext ds env ws
  match ds with
  | [] => rfl
  | [.int n] => by_cases h : n.natAbs < 2 ^ 62 <;> simp [h]
  | [.non] => rfl
  | [.bl _] => rfl
  | [.str _] => rfl
  | [.ty _] => rfl
  | [.obj _] => rfl
  | [.tup _] => rfl
  | [.lst _] => rfl
  | [.dic _] => rfl
  | [.set _] => rfl
  | [.ins _ _] => rfl
  | [.loc _] => rfl
  | [.keys _] => rfl
  | a :: _ :: _ => cases a <;> rfl
end
end ML
set_option Elab.async false
set_option linter.all false
set_option maxRecDepth 100000
set_option maxHeartbeats 2000000
namespace ML
open PySem L2
section
variable {α β γ : Type} {e : Env} {K : Env → Prop} {i j l n k : Nat} {v x : Sl} {env : Env} {ws : List OO} {d d1 d2 d3 d4 d5 d6 d7 : D} {ds ds1 : List D} {me ma mb mc m0 : M D} {mt mu : M Bool} {ms : M (List D)} {mo : M OO} {m m1 m2 : M Fl} {g : Tg} {gs : Tgs}
/-! lengths as ints -/
def LnI {α : Type} (e : List α) (K : Int → Prop) : Prop := K (e.length : Int)
section
variable {a b c p q r s t : α} {K : Int → Prop}
@[simp ↓] theorem lni0 : LnI ([] : List α) K = K 0 := Eq.trans rfl rfl
@[simp ↓] theorem lni1 : LnI [a] K = K 1 := Eq.trans rfl rfl
@[simp ↓] theorem lni2 : LnI [a, b] K = K 2 := Eq.trans rfl rfl
@[simp ↓] theorem lni3 : LnI [a, b, c] K = K 3 := Eq.trans rfl rfl
@[simp ↓] theorem lni4 : LnI [a, b, c, p] K = K 4 := Eq.trans rfl rfl
@[simp ↓] theorem lni5 : LnI [a, b, c, p, q] K = K 5 := Eq.trans rfl rfl
@[simp ↓] theorem lni6 : LnI [a, b, c, p, q, r] K = K 6 := Eq.trans rfl rfl
@[simp ↓] theorem lni7 : LnI [a, b, c, p, q, r, s] K = K 7 := Eq.trans rfl rfl
end
@[simp ↓] theorem is_len_t (Q : D → Prop) : Is (gLen [.tup ds] ws) Q = LnI ds fun n => Q (.int n) := Eq.trans rfl rfl
@[simp ↓] theorem is_len_l (Q : D → Prop) : Is (gLen [.lst ds] ws) Q = LnI ds fun n => Q (.int n) := Eq.trans rfl rfl
@[simp ↓] theorem is_tuple_t (Q : D → Prop) : Is (gTuple [.tup ds] ws) Q = Q (.tup ds) := Eq.trans rfl rfl
@[simp ↓] theorem is_tuple_l (Q : D → Prop) : Is (gTuple [.lst ds] ws) Q = Q (.tup ds) := Eq.trans rfl rfl
@[simp ↓] theorem is_gint {i : Int} (Q : D → Prop) : Is (gInt [.int i] ws) Q = Q (.int i) := Eq.trans rfl rfl
@[simp ↓] theorem is_max2 {i j : Int} (Q : D → Prop) : Is (gMax2 [.int i, .int j] ws) Q = Q (.int (max i j)) := by
  show Q (.int (if j > i then j else i)) = _
  congr 2
  split <;> omega
@[simp ↓] theorem is_min2 {i j : Int} (Q : D → Prop) : Is (gMin2 [.int i, .int j] ws) Q = Q (.int (min i j)) := by
  show Q (.int (if j < i then j else i)) = _
  congr 2
  split <;> omega
@[simp ↓] theorem is_maxL1 {i : Int} (Q : D → Prop) : Is (gMaxL [.lst [.int i]] ws) Q = Q (.int i) := Eq.trans rfl rfl
@[simp ↓] theorem is_maxL2 {i j : Int} (Q : D → Prop) : Is (gMaxL [.lst [.int i, .int j]] ws) Q = Q (.int (max i j)) := Eq.trans rfl rfl
/-- all(..) -/
def Al (ds : List D) (b : Bool) (Q : Bool → Prop) : Prop := match bls? ds with
  | some bs => Q (b && bs.all id)
  | none => False
@[simp ↓] theorem al_0 {b : Bool} {Q : Bool → Prop} : Al [] b Q = Q b := by unfold Al; simp [bls?]
@[simp ↓] theorem al_s {a b : Bool} {Q : Bool → Prop} : Al (.bl a :: ds) b Q = Al ds (b && a) Q := by
  unfold Al
  have h : bls? (.bl a :: ds) = match bls? ds with
    | some is => some (a :: is)
    | none => none := by
    rw [bls?]; simp only [D.bl?]; cases bls? ds <;> rfl
  rw [h]
  cases bls? ds with
  | none => rfl
  | some bs => show Q (b && (a :: bs).all id) = Q (b && a && bs.all id); rw [List.all_cons, Bool.and_assoc]; rfl
@[simp ↓] theorem is_all (Q : D → Prop) : Is (gAll [.lst ds] ws) Q = Al ds true fun b => Q (.bl b) := by
  show Is ((bls? ds).map _) Q = _
  unfold Al
  cases bls? ds <;> simp
/-! items -/
@[simp ↓] theorem is_ix_t {i : Int} (Q : D → Prop) : Is (gIx (.tup ds) (.int i) ws) Q = Is (atI ds i) Q := Eq.trans rfl rfl
@[simp ↓] theorem is_ix_l {i : Int} (Q : D → Prop) : Is (gIx (.lst ds) (.int i) ws) Q = Is (atI ds i) Q := Eq.trans rfl rfl
theorem atI_nat {n : Nat} : atI ds (n : Int) = ds[n]? := by
  unfold atI ixN
  by_cases h : n < ds.length
  · simp [h]
  · simp [h, List.getElem?_eq_none (Nat.le_of_not_lt h)]
@[simp ↓] theorem is_at0 (Q : D → Prop) : Is (atI (d :: ds) 0) Q = Q d := by rw [show (0 : Int) = ((0 : Nat) : Int) from rfl, atI_nat]; rfl
@[simp ↓] theorem is_at1 (Q : D → Prop) : Is (atI (d :: d1 :: ds) 1) Q = Q d1 := by rw [show (1 : Int) = ((1 : Nat) : Int) from rfl, atI_nat]; rfl
@[simp ↓] theorem is_at2 (Q : D → Prop) : Is (atI (d :: d1 :: d2 :: ds) 2) Q = Q d2 := by rw [show (2 : Int) = ((2 : Nat) : Int) from rfl, atI_nat]; rfl
@[simp ↓] theorem is_at3 (Q : D → Prop) : Is (atI (d :: d1 :: d2 :: d3 :: ds) 3) Q = Q d3 := by rw [show (3 : Int) = ((3 : Nat) : Int) from rfl, atI_nat]; rfl
@[simp ↓] theorem is_atN {n : Nat} (Q : D → Prop) : Is (atI ds (n : Int)) Q = Lk ds n fun o => Is o Q := by rw [atI_nat]; rfl
/-! == and is -/
@[simp ↓] theorem is_eqI {i j : Int} (Q : D → Prop) : Is (gEq (.int i) (.int j) ws) Q = Q (.bl (decide (i = j))) := by
  show Q (.bl (i == j)) = _
  congr 2
@[simp ↓] theorem is_neI {i j : Int} (Q : D → Prop) : Is (gNe (.int i) (.int j) ws) Q = Q (.bl (!decide (i = j))) := by
  show Q (.bl (!(i == j))) = _
  congr 2
@[simp ↓] theorem is_eqNI {j : Int} (Q : D → Prop) : Is (gEq .non (.int j) ws) Q = Q (.bl false) := Eq.trans rfl rfl
@[simp ↓] theorem is_eqNN (Q : D → Prop) : Is (gEq .non .non ws) Q = Q (.bl true) := Eq.trans rfl rfl
@[simp ↓] theorem is_eqIN {j : Int} (Q : D → Prop) : Is (gEq (.int j) .non ws) Q = Q (.bl false) := Eq.trans rfl rfl
@[simp ↓] theorem is_isN (Q : D → Prop) : Is (gIs .non .non ws) Q = Q (.bl true) := Eq.trans rfl rfl
@[simp ↓] theorem is_isI {i : Int} (Q : D → Prop) : Is (gIs (.int i) .non ws) Q = Q (.bl false) := Eq.trans rfl rfl
@[simp ↓] theorem is_isT (Q : D → Prop) : Is (gIs (.tup ds) .non ws) Q = Q (.bl false) := Eq.trans rfl rfl
@[simp ↓] theorem is_isL (Q : D → Prop) : Is (gIs (.lst ds) .non ws) Q = Q (.bl false) := Eq.trans rfl rfl
@[simp ↓] theorem is_isB {a b : Bool} (Q : D → Prop) : Is (gIs (.bl a) (.bl b) ws) Q = Q (.bl (decide (a = b))) := Eq.trans rfl rfl
@[simp ↓] theorem is_isnN (Q : D → Prop) : Is (gIsNot .non .non ws) Q = Q (.bl false) := Eq.trans rfl rfl
@[simp ↓] theorem is_isnI {i : Int} (Q : D → Prop) : Is (gIsNot (.int i) .non ws) Q = Q (.bl true) := Eq.trans rfl rfl
@[simp ↓] theorem is_isnT (Q : D → Prop) : Is (gIsNot (.tup ds) .non ws) Q = Q (.bl true) := Eq.trans rfl rfl
@[simp ↓] theorem is_addT (Q : D → Prop) : Is (gAdd (.tup ds) (.tup ds1) ws) Q = (ds.length + ds1.length ≤ most ∧ Cat ds ds1 fun l => Q (.tup l)) := by
  show Is (if ds.length + ds1.length ≤ most then some (D.tup (ds ++ ds1)) else none) Q = _
  by_cases h : ds.length + ds1.length ≤ 10000 <;> simp [h, Cat]
@[simp ↓] theorem is_addL (Q : D → Prop) : Is (gAdd (.lst ds) (.lst ds1) ws) Q = (ds.length + ds1.length ≤ most ∧ Cat ds ds1 fun l => Q (.lst l)) := by
  show Is (if ds.length + ds1.length ≤ most then some (D.lst (ds ++ ds1)) else none) Q = _
  by_cases h : ds.length + ds1.length ≤ 10000 <;> simp [h, Cat]
@[simp ↓] theorem is_addI {i j : Int} (Q : D → Prop) : Is (gAdd (.int i) (.int j) ws) Q = Q (.int (i + j)) := Eq.trans rfl rfl
/-! truth -/
@[simp ↓] theorem is_truB {b : Bool} (Q : Bool → Prop) : Is (truD ws (.bl b)) Q = Q b := Eq.trans rfl rfl
@[simp ↓] theorem is_truN (Q : Bool → Prop) : Is (truD ws .non) Q = Q false := Eq.trans rfl rfl
@[simp ↓] theorem is_truI {i : Int} (Q : Bool → Prop) : Is (truD ws (.int i)) Q = Q (i != 0) := Eq.trans rfl rfl
@[simp ↓] theorem is_truT (Q : Bool → Prop) : Is (truD ws (.tup ds)) Q = Q (!ds.isEmpty) := Eq.trans rfl rfl
@[simp ↓] theorem is_truL (Q : Bool → Prop) : Is (truD ws (.lst ds)) Q = Q (!ds.isEmpty) := Eq.trans rfl rfl
@[simp ↓] theorem go_tru (Q : Bool → Env → List OO → Prop) : Go (mTru me ⟨env, ws⟩) Q = Go (me ⟨env, ws⟩) fun d env ws => Is (truD ws d) fun b => Q b env ws := by unfold mTru; simp
def trK (i : Nat) (Q : Bool → Env → List OO → Prop) (env : Env) (ws : List OO) : Option Sl → Prop
  | some (.own (.lst ds)) => Q (!ds.isEmpty) env ws
  | _ => Go (mTru (mVar i) ⟨env, ws⟩) Q
@[simp ↓] theorem trK_own {Q : Bool → Env → List OO → Prop} : trK i Q env ws (some (.own (.lst ds))) = Q (!ds.isEmpty) env ws := Eq.trans rfl rfl
@[simp ↓] theorem trK_val {Q : Bool → Env → List OO → Prop} : trK i Q env ws (some (.val d)) = Go (mTru (mVar i) ⟨env, ws⟩) Q := Eq.trans rfl rfl
@[simp ↓] theorem go_truV (Q : Bool → Env → List OO → Prop) : Go (mTruV i ⟨env, ws⟩) Q = Lk env i (trK i Q env ws) := by
  unfold mTruV Lk
  show Go (match env[i]? with
    | some (.own (.lst ds)) => some (!ds.isEmpty, ⟨env, ws⟩)
    | _ => mTru (mVar i) ⟨env, ws⟩) Q = _
  rcases env[i]? with _ | _ | d | o <;> try rfl
  cases o <;> rfl
/-! kinds -/
@[simp ↓] theorem go_isi {cs : List String} (Q : D → Env → List OO → Prop) : Go (mIsi cs me ⟨env, ws⟩) Q = Go (me ⟨env, ws⟩) fun d env ws => Is (d.tyn ws) fun n => Q (.bl (cs.any (isTy n))) env ws := by unfold mIsi; simp
@[simp ↓] theorem is_tyI {i : Int} (Q : String → Prop) : Is (D.tyn ws (.int i)) Q = Q "int" := Eq.trans rfl rfl
@[simp ↓] theorem is_tyT (Q : String → Prop) : Is (D.tyn ws (.tup ds)) Q = Q "tuple" := Eq.trans rfl rfl
@[simp ↓] theorem is_tyL (Q : String → Prop) : Is (D.tyn ws (.lst ds)) Q = Q "list" := Eq.trans rfl rfl
@[simp ↓] theorem is_tyN (Q : String → Prop) : Is (D.tyn ws .non) Q = Q "NoneType" := Eq.trans rfl rfl
@[simp ↓] theorem is_tyB {b : Bool} (Q : String → Prop) : Is (D.tyn ws (.bl b)) Q = Q "bool" := Eq.trans rfl rfl
@[simp] theorem isTy_ {a b : String} : isTy a b = (a == b || (a == "bool" && b == "int")) := Eq.trans rfl rfl
def isiC (C0 : Addr) (ws : List OO) (a : D) : Option D := match insD ws a with
  | some (C, _) => if C = C0 then some (.bl true) else none
  | none => none
@[simp ↓] theorem is_isiC {C : Addr} {fs : List (Str × D)} (Q : D → Prop) : Is (isiC C ws (.ins C fs)) Q = Q (.bl true) := by
  unfold isiC
  simp only [insD, if_pos]
  rfl
@[simp ↓] theorem go_isiC {C : Addr} (Q : D → Env → List OO → Prop) : Go (mIsiC C me ⟨env, ws⟩) Q = Go (me ⟨env, ws⟩) fun d env ws => Is (isiC C ws d) fun b => Q b env ws := by
  show Go (bindM me (fun a => askM fun ws => isiC C ws a) ⟨env, ws⟩) Q = _
  simp only [go_bind, go_ask]
/-! fields -/
def Fd (fs : List (Str × D)) (f : Str) (Q : D → Prop) : Prop := Is (fs.lookup f) Q
theorem fd_s {fs : List (Str × D)} {f h : Str} (Q : D → Prop) : Fd ((h, d) :: fs) f Q = if f = h then Q d else Fd fs f Q := by
  unfold Fd
  rw [List.lookup_cons]
  by_cases e : f = h
  · subst e; simp
  · have : (f == h) = false := by simpa using e
    rw [this, if_neg e]
@[simp ↓] theorem go_fld {C : Addr} {f : Str} (Q : D → Env → List OO → Prop) : Go (mFld C f me ⟨env, ws⟩) Q = Go (me ⟨env, ws⟩) fun d env ws => Is (gFld C f ws d) fun b => Q b env ws := by unfold mFld; simp
theorem is_fld {C : Addr} {f : Str} {fs : List (Str × D)} (Q : D → Prop) : Is (gFld C f ws (.ins C fs)) Q = Fd fs f Q := by
  unfold gFld Fd
  simp only [insD, if_pos]
/-! calls and bodies -/
@[simp ↓] theorem gf_sm {α : Type} (a : α) (Q : α → List OO → Prop) : Gf (some (a, ws)) Q = Q a ws := Eq.trans rfl rfl
@[simp ↓] theorem go_call {f : Fn} (Q : D → Env → List OO → Prop) : Go (mCall n f ms ⟨env, ws⟩) Q = Go (ms ⟨env, ws⟩) fun ds env ws => Ln ds fun k => k = n ∧ Gf (f ds ws) fun d ws => Q d env ws := by
  unfold mCall
  rw [go_bind]
  congr 1; funext ds env ws
  unfold Ln
  show Go (if ds.length = n then (f ds ws).map fun p => (p.1, (⟨env, p.2⟩ : Stt)) else none) Q = _
  by_cases h : ds.length = n
  · rw [if_pos h]; simp only [h, true_and]; cases f ds ws <;> rfl
  · rw [if_neg h]; exact (eq_false fun z => h z.1).symm
@[simp ↓] theorem go_callD {f : Fn} {dv : List D} (Q : D → Env → List OO → Prop) : Go (mCallD n f dv ms ⟨env, ws⟩) Q = Go (ms ⟨env, ws⟩) fun ds env ws => Cat ds dv fun ds => Ln ds fun k => k = n ∧ Gf (f ds ws) fun d ws => Q d env ws := by
  unfold mCallD
  rw [go_call, go_bind]
  rfl
def Ini (ds : List D) (k : Nat) (K : Env → Prop) : Prop := K (iniM ds k)
@[simp ↓] theorem ini_s : Ini (d :: ds) k K = Ini ds k fun e => K (.val d :: e) := Eq.trans rfl rfl
@[simp ↓] theorem ini_n : Ini [] (k + 1) K = Ini [] k fun e => K (.no :: e) := Eq.trans rfl rfl
@[simp ↓] theorem ini_0 : Ini [] 0 K = K [] := Eq.trans rfl rfl
def Bd (Q : D → List OO → Prop) (ws : List OO) : Fl → Prop
  | .rt d => Q d ws
  | .nx => Q .non ws
  | _ => False
@[simp ↓] theorem bd_rt {Q : D → List OO → Prop} : Bd Q ws (.rt d) = Q d ws := Eq.trans rfl rfl
@[simp ↓] theorem bd_nx {Q : D → List OO → Prop} : Bd Q ws .nx = Q .non ws := Eq.trans rfl rfl
@[simp ↓] theorem gf_body {Q : D → List OO → Prop} : Gf (mBody n k m ds ws) Q = Ln ds fun l => l = n ∧ Ini ds k fun env => Go (m ⟨env, ws⟩) fun f _ ws => Bd Q ws f := by
  unfold mBody Ln Ini
  by_cases h : ds.length = n
  · rw [if_pos h]
    simp only [h, true_and]
    cases m ⟨iniM ds k, ws⟩ with
    | none => rfl
    | some p => obtain ⟨f, s⟩ := p; cases f <;> rfl
  · rw [if_neg h]; exact (eq_false fun z => h z.1).symm
/-! ranges of known length -/
section
variable {Q : Fl → Env → List OO → Prop}
@[simp ↓] theorem lp_r1 : Go (loopM g m (rngD 0 1 (Int.toNat 1)) ⟨env, ws⟩) Q = Go (loopM g m [.int 0] ⟨env, ws⟩) Q := Eq.trans rfl rfl
@[simp ↓] theorem lp_r2 : Go (loopM g m (rngD 0 1 (Int.toNat 2)) ⟨env, ws⟩) Q = Go (loopM g m [.int 0, .int 1] ⟨env, ws⟩) Q := Eq.trans rfl rfl
@[simp ↓] theorem lp_r3 : Go (loopM g m (rngD 0 1 (Int.toNat 3)) ⟨env, ws⟩) Q = Go (loopM g m [.int 0, .int 1, .int 2] ⟨env, ws⟩) Q := Eq.trans rfl rfl
end
section
variable {Q : List D → Env → List OO → Prop} {vs : List Nat} {acc : List D}
@[simp ↓] theorem lc_r1 : Go (loopC g mt me vs (rngD 0 1 (Int.toNat 1)) acc ⟨env, ws⟩) Q = Go (loopC g mt me vs [.int 0] acc ⟨env, ws⟩) Q := Eq.trans rfl rfl
@[simp ↓] theorem lc_r2 : Go (loopC g mt me vs (rngD 0 1 (Int.toNat 2)) acc ⟨env, ws⟩) Q = Go (loopC g mt me vs [.int 0, .int 1] acc ⟨env, ws⟩) Q := Eq.trans rfl rfl
end
/-! slices from a place on -/
@[simp ↓] theorem go_sl {ml mh : M (Option Int)} (Q : D → Env → List OO → Prop) : Go (mSl me ml mh ⟨env, ws⟩) Q = Go (me ⟨env, ws⟩) fun d env ws => Go (ml ⟨env, ws⟩) fun l env ws => Go (mh ⟨env, ws⟩) fun h env ws => Is (gSl d l h ws) fun d => Q d env ws := by unfold mSl; simp
@[simp ↓] theorem go_part (Q : Option Int → Env → List OO → Prop) : Go (mPart me ⟨env, ws⟩) Q = Go (me ⟨env, ws⟩) fun d env ws => Is d.int? fun i => Q (some i) env ws := by unfold mPart; simp
@[simp ↓] theorem go_noPart (Q : Option Int → Env → List OO → Prop) : Go (mNoPart ⟨env, ws⟩) Q = Q none env ws := Eq.trans rfl rfl
theorem cut1 : cutD (d :: ds) (some 1) none = ds := by
  unfold cutD HT.sIx
  simp
@[simp ↓] theorem is_sl1t (Q : D → Prop) : Is (gSl (.tup (d :: ds)) (some 1) none ws) Q = Q (.tup ds) := by show Q (.tup (cutD _ _ _)) = _; rw [cut1]
@[simp ↓] theorem is_sl1l (Q : D → Prop) : Is (gSl (.lst (d :: ds)) (some 1) none ws) Q = Q (.lst ds) := by show Q (.lst (cutD _ _ _)) = _; rw [cut1]
@[simp ↓] theorem is_sl1t0 (Q : D → Prop) : Is (gSl (.tup []) (some 1) none ws) Q = Q (.tup []) := by show Q (.tup (cutD _ _ _)) = _; rfl
@[simp ↓] theorem is_sl1l0 (Q : D → Prop) : Is (gSl (.lst []) (some 1) none ws) Q = Q (.lst []) := by show Q (.lst (cutD _ _ _)) = _; rfl
end
end ML
set_option Elab.async false
set_option linter.all false
set_option maxRecDepth 100000
set_option maxHeartbeats 4000000
namespace ML
open PySem L2
section
variable {α : Type} {e : Env} {i j l n k : Nat} {a b : Int} {v x : Sl} {env : Env} {ws : List OO} {d d1 d2 y z : D} {ds ds1 : List D} {me ma mb mk m0 : M D} {mt mu mt1 : M Bool} {ms mi mi1 : M (List D)} {m : M Fl} {g g1 : Tg} {vs vs1 : List Nat} {kvs : List (D × D)}
/-! dicts with int keys -/
@[simp ↓] theorem is_keyI (Q : Key → Prop) : Is (D.key (.int a)) Q = Q (.inl a) := Eq.trans rfl rfl
def Pd (acc : List (D × D)) (k : Key) (z : D) (K : List (D × D) → Prop) : Prop := K (putD acc k z)
@[simp ↓] theorem pd_0 {K : List (D × D) → Prop} : Pd [] (.inl a) z K = K [(.int a, z)] := Eq.trans rfl rfl
@[simp ↓] theorem pd_12 {K : List (D × D) → Prop} : Pd [(.int 1, y)] (.inl 2) z K = K [(.int 1, y), (.int 2, z)] := Eq.trans rfl rfl
@[simp ↓] theorem loopD_0 {acc : List (D × D)} (Q : List (D × D) → Env → List OO → Prop) : Go (loopD g mt mk me vs [] acc ⟨env, ws⟩) Q = Q acc env ws := Eq.trans rfl rfl
@[simp ↓] theorem loopD_1 {acc : List (D × D)} (Q : List (D × D) → Env → List OO → Prop) : Go (loopD g mt mk me vs (d :: ds) acc ⟨env, ws⟩) Q = Is (g d env) fun env => Go (mt ⟨env, ws⟩) fun b env ws => if b = true then Go (mk ⟨env, ws⟩) fun y env ws => Go (me ⟨env, ws⟩) fun z env ws => Is y.key fun k => (acc.length < most ∧ Pd acc k z fun acc => Wp env vs fun env => Go (loopD g mt mk me vs ds acc ⟨env, ws⟩) Q) else Wp env vs fun env => Go (loopD g mt mk me vs ds acc ⟨env, ws⟩) Q := by
  show Go (match g d env with
    | none => none
    | some e => match mt { env := e, ws := ws } with
      | none => none
      | some (true, s1) => (match mk s1 with
        | none => none
        | some (y, s2) => match me s2 with
          | none => none
          | some (z, s3) => match y.key with
            | none => none
            | some k => if acc.length < most then loopD g mt mk me vs ds (putD acc k z) { s3 with env := wipeM s3.env vs } else none)
      | some (false, s1) => loopD g mt mk me vs ds acc { s1 with env := wipeM s1.env vs }) Q = _
  cases g d env with
  | none => rfl
  | some e =>
    simp only [is_some]
    cases mt ⟨e, ws⟩ with
    | none => rfl
    | some p =>
      obtain ⟨b, s1⟩ := p
      cases b with
      | false => rfl
      | true =>
        rw [go_tt]
        show Go (match mk s1 with
          | none => none
          | some (y, s2) => match me s2 with
            | none => none
            | some (z, s3) => match y.key with
              | none => none
              | some k => if acc.length < most then loopD g mt mk me vs ds (putD acc k z) { s3 with env := wipeM s3.env vs } else none) Q = Go (mk s1) _
        cases mk s1 with
        | none => rfl
        | some q =>
          obtain ⟨y, e2, w2⟩ := q
          refine Eq.trans ?_ (go_sm _ _).symm
          show Go (match me ⟨e2, w2⟩ with
            | none => none
            | some (z, s3) => match y.key with
              | none => none
              | some k => if acc.length < most then loopD g mt mk me vs ds (putD acc k z) { s3 with env := wipeM s3.env vs } else none) Q = Go (me ⟨e2, w2⟩) _
          cases me ⟨e2, w2⟩ with
          | none => rfl
          | some r =>
            obtain ⟨z, e3, w3⟩ := r
            refine Eq.trans ?_ (go_sm _ _).symm
            show Go (match y.key with
              | none => none
              | some k => if acc.length < most then loopD g mt mk me vs ds (putD acc k z) { env := wipeM e3 vs, ws := w3 } else none) Q = Is y.key _
            cases y.key with
            | none => rfl
            | some k =>
              show Go (if acc.length < most then loopD g mt mk me vs ds (putD acc k z) { env := wipeM e3 vs, ws := w3 } else none) Q = (acc.length < most ∧ _)
              by_cases h : acc.length < most
              · rw [if_pos h]; simp only [h, true_and]; rfl
              · rw [if_neg h]; simp only [h, false_and]; rfl
@[simp ↓] theorem go_dc (Q : OO → Env → List OO → Prop) : Go (mDc mi g mt mk me vs ⟨env, ws⟩) Q = Go (mi ⟨env, ws⟩) fun ds env ws => Fr env vs (Wp env vs fun e => Go (loopD g mt mk me vs ds [] ⟨e, ws⟩) fun acc e1 ws => Rt env e1 vs fun env => Q (.dic acc) env ws) := by
  unfold mDc
  simp only [go_bind]
  congr 1; funext ds env ws
  unfold compM Fr Wp Rt
  show Go (if _ = true then _ else none) Q = _
  by_cases h : (vs.all fun j => (env.getD j .no).free) = true
  · rw [if_pos h]
    simp only [h, true_and]
    show Go (match (loopD g mt mk me vs ds [] ⟨wipeM env vs, ws⟩).map (fun p => (OO.dic p.1, p.2)) with
      | some (o, s1) => some (o, ({ s1 with env := rstM env s1.env vs } : Stt))
      | none => none) Q = _
    cases loopD g mt mk me vs ds [] ⟨wipeM env vs, ws⟩ <;> rfl
  · rw [if_neg h]; exact (eq_false fun z => h z.1).symm
/-! the sorted set of two clauses -/
def Ad (acc : List Int) (k : Int) (K : List Int → Prop) : Prop := K (addI acc k)
@[simp ↓] theorem ad_0 {K : List Int → Prop} : Ad [] a K = K [a] := Eq.trans rfl rfl
@[simp ↓] theorem ad_11 {K : List Int → Prop} : Ad [1] 1 K = K [1] := Eq.trans rfl rfl
@[simp ↓] theorem ad_22 {K : List Int → Prop} : Ad [2] 2 K = K [2] := Eq.trans rfl rfl
@[simp ↓] theorem ad_12 {K : List Int → Prop} : Ad [1] 2 K = K [1, 2] := Eq.trans rfl rfl
@[simp ↓] theorem ad_122 {K : List Int → Prop} : Ad [1, 2] 2 K = K [1, 2] := Eq.trans rfl rfl
def So (acc : List Int) (K : List D → Prop) : Prop := K ((sortI acc).map D.int)
@[simp ↓] theorem so_0 {K : List D → Prop} : So [] K = K [] := Eq.trans rfl rfl
@[simp ↓] theorem so_1 {K : List D → Prop} : So [a] K = K [.int a] := Eq.trans rfl rfl
@[simp ↓] theorem so_12 {K : List D → Prop} : So [1, 2] K = K [.int 1, .int 2] := Eq.trans rfl rfl
@[simp ↓] theorem loopS1_0 {acc : List Int} (Q : List Int → Env → List OO → Prop) : Go (loopS1 g1 mt1 me vs1 [] acc ⟨env, ws⟩) Q = Q acc env ws := Eq.trans rfl rfl
@[simp ↓] theorem loopS1_1 {acc : List Int} (Q : List Int → Env → List OO → Prop) : Go (loopS1 g1 mt1 me vs1 (d :: ds) acc ⟨env, ws⟩) Q = Is (g1 d env) fun env => Go (mt1 ⟨env, ws⟩) fun b env ws => if b = true then Go (me ⟨env, ws⟩) fun y env ws => Is y.int? fun k => (acc.length < 1000 ∧ Ad acc k fun acc => Wp env vs1 fun env => Go (loopS1 g1 mt1 me vs1 ds acc ⟨env, ws⟩) Q) else Wp env vs1 fun env => Go (loopS1 g1 mt1 me vs1 ds acc ⟨env, ws⟩) Q := by
  show Go (match g1 d env with
    | none => none
    | some e => match mt1 { env := e, ws := ws } with
      | none => none
      | some (true, s1) => (match me s1 with
        | none => none
        | some (y, s2) => match y.int? with
          | none => none
          | some k => if acc.length < 1000 then loopS1 g1 mt1 me vs1 ds (addI acc k) { s2 with env := wipeM s2.env vs1 } else none)
      | some (false, s1) => loopS1 g1 mt1 me vs1 ds acc { s1 with env := wipeM s1.env vs1 }) Q = _
  cases g1 d env with
  | none => rfl
  | some e =>
    simp only [is_some]
    cases mt1 ⟨e, ws⟩ with
    | none => rfl
    | some p =>
      obtain ⟨b, s1⟩ := p
      cases b with
      | false => rfl
      | true =>
        rw [go_tt]
        show Go (match me s1 with
          | none => none
          | some (y, s2) => match y.int? with
            | none => none
            | some k => if acc.length < 1000 then loopS1 g1 mt1 me vs1 ds (addI acc k) { s2 with env := wipeM s2.env vs1 } else none) Q = Go (me s1) _
        cases me s1 with
        | none => rfl
        | some q =>
          obtain ⟨y, s2⟩ := q
          show Go (match y.int? with
            | none => none
            | some k => if acc.length < 1000 then loopS1 g1 mt1 me vs1 ds (addI acc k) { s2 with env := wipeM s2.env vs1 } else none) Q = Is y.int? _
          cases y.int? with
          | none => rfl
          | some k =>
            show Go (if acc.length < 1000 then loopS1 g1 mt1 me vs1 ds (addI acc k) { s2 with env := wipeM s2.env vs1 } else none) Q = (acc.length < 1000 ∧ _)
            by_cases h : acc.length < 1000
            · rw [if_pos h]; simp only [h, true_and]; rfl
            · rw [if_neg h]; simp only [h, false_and]; rfl
@[simp ↓] theorem loopS_0 {acc : List Int} (Q : List Int → Env → List OO → Prop) : Go (loopS g mt mi1 g1 mt1 me vs vs1 [] acc ⟨env, ws⟩) Q = Q acc env ws := Eq.trans rfl rfl
@[simp ↓] theorem loopS_1 {acc : List Int} (Q : List Int → Env → List OO → Prop) : Go (loopS g mt mi1 g1 mt1 me vs vs1 (d :: ds) acc ⟨env, ws⟩) Q = Is (g d env) fun env => Go (mt ⟨env, ws⟩) fun b env ws => if b = true then Go (mi1 ⟨env, ws⟩) fun ds1 env ws => Wp env vs1 fun env => Go (loopS1 g1 mt1 me vs1 ds1 acc ⟨env, ws⟩) fun acc env ws => Wp env vs fun env => Go (loopS g mt mi1 g1 mt1 me vs vs1 ds acc ⟨env, ws⟩) Q else Wp env vs fun env => Go (loopS g mt mi1 g1 mt1 me vs vs1 ds acc ⟨env, ws⟩) Q := by
  show Go (match g d env with
    | none => none
    | some e => match mt { env := e, ws := ws } with
      | none => none
      | some (true, s1) => (match mi1 s1 with
        | none => none
        | some (ds1, s2) => match loopS1 g1 mt1 me vs1 ds1 acc { s2 with env := wipeM s2.env vs1 } with
          | none => none
          | some (acc', s3) => loopS g mt mi1 g1 mt1 me vs vs1 ds acc' { s3 with env := wipeM s3.env vs })
      | some (false, s1) => loopS g mt mi1 g1 mt1 me vs vs1 ds acc { s1 with env := wipeM s1.env vs }) Q = _
  cases g d env with
  | none => rfl
  | some e =>
    simp only [is_some]
    cases mt ⟨e, ws⟩ with
    | none => rfl
    | some p =>
      obtain ⟨b, s1⟩ := p
      cases b with
      | false => rfl
      | true =>
        rw [go_tt]
        show Go (match mi1 s1 with
          | none => none
          | some (ds1, s2) => match loopS1 g1 mt1 me vs1 ds1 acc { s2 with env := wipeM s2.env vs1 } with
            | none => none
            | some (acc', s3) => loopS g mt mi1 g1 mt1 me vs vs1 ds acc' { s3 with env := wipeM s3.env vs }) Q = Go (mi1 s1) _
        cases mi1 s1 with
        | none => rfl
        | some q =>
          obtain ⟨ds1, e2, w2⟩ := q
          refine Eq.trans ?_ (go_sm _ _).symm
          unfold Wp
          show Go (match loopS1 g1 mt1 me vs1 ds1 acc { env := wipeM e2 vs1, ws := w2 } with
            | none => none
            | some (acc', s3) => loopS g mt mi1 g1 mt1 me vs vs1 ds acc' { s3 with env := wipeM s3.env vs }) Q = Go (loopS1 g1 mt1 me vs1 ds1 acc { env := wipeM e2 vs1, ws := w2 }) _
          cases loopS1 g1 mt1 me vs1 ds1 acc { env := wipeM e2 vs1, ws := w2 } <;> rfl
def DcK (F : List (D × D) → Prop) : D → Prop
  | .dic kvs => F kvs
  | _ => False
@[simp ↓] theorem dcK_ {F : List (D × D) → Prop} : DcK F (.dic kvs) = F kvs := Eq.trans rfl rfl
def Pr (kvs : List (D × D)) (K : List D → Prop) : Prop := K (pairsD kvs)
@[simp ↓] theorem pr_0 {K : List D → Prop} : Pr [] K = K [] := Eq.trans rfl rfl
@[simp ↓] theorem pr_s {K : List D → Prop} : Pr ((d, d1) :: kvs) K = Pr kvs fun l => K (.tup [d, d1] :: l) := Eq.trans rfl rfl
@[simp ↓] theorem go_sc2 (Q : OO → Env → List OO → Prop) : Go (mSortSc2 i g mt mi1 g1 mt1 me vs vs1 ⟨env, ws⟩) Q = Go (mVar i ⟨env, ws⟩) fun d env ws => DcK (fun kvs => Fr env vs (Wp env vs fun e => Pr kvs fun ds => Go (loopS g mt mi1 g1 mt1 me vs vs1 ds [] ⟨e, ws⟩) fun acc e1 ws => (acc.length < 64 ∧ So acc fun l => Rt env e1 vs fun env => Q (.lst l) env ws))) d := by
  unfold mSortSc2
  rw [go_bind]
  congr 1; funext d env ws
  cases d <;> try rfl
  rename_i kvs
  simp only [dcK_]
  unfold compM Fr Wp Rt Pr So
  show Go (if _ = true then _ else none) Q = _
  by_cases h : (vs.all fun j => (env.getD j .no).free) = true
  · rw [if_pos h]
    simp only [h, true_and]
    show Go (match ((loopS g mt mi1 g1 mt1 me vs vs1 (pairsD kvs) [] ⟨wipeM env vs, ws⟩).bind fun p => if p.1.length < 64 then some (OO.lst ((sortI p.1).map D.int), p.2) else none) with
      | some (o, s1) => some (o, ({ s1 with env := rstM env s1.env vs } : Stt))
      | none => none) Q = _
    cases loopS g mt mi1 g1 mt1 me vs vs1 (pairsD kvs) [] ⟨wipeM env vs, ws⟩ with
    | none => rfl
    | some p =>
      obtain ⟨acc, s1⟩ := p
      show Go (match (if acc.length < 64 then some (OO.lst ((sortI acc).map D.int), s1) else none) with
        | some (o, s1) => some (o, ({ s1 with env := rstM env s1.env vs } : Stt))
        | none => none) Q = (acc.length < 64 ∧ _)
      by_cases h2 : acc.length < 64
      · rw [if_pos h2]; simp only [h2, true_and]; rfl
      · rw [if_neg h2]; simp only [h2, false_and]; rfl
  · rw [if_neg h]; exact (eq_false fun z => h z.1).symm
@[simp ↓] theorem go_forIt (Q : Fl → Env → List OO → Prop) : Go (mForIt i g m ⟨env, ws⟩) Q = Go (mVar i ⟨env, ws⟩) fun d env ws => DcK (fun kvs => Pr kvs fun ds => Go (loopM g m ds ⟨env, ws⟩) Q) d := by
  unfold mForIt
  rw [go_bind]
  congr 1; funext d env ws
  cases d <;> rfl
@[simp ↓] theorem go_dicO (Q : OO → Env → List OO → Prop) : Go (mDicO ⟨env, ws⟩) Q = Q (.dic []) env ws := Eq.trans rfl rfl
def dpK2 (i : Nat) (d : D) (k : Key) (Q : Fl → Env → List OO → Prop) (env : Env) (ws : List OO) : Option Sl → Prop
  | some (.own (.dic kvs)) => kvs.length < most ∧ Pd kvs k d fun kvs => Sv env i (.own (.dic kvs)) fun env => Q .nx env ws
  | _ => False
@[simp ↓] theorem dpK2_own {k : Key} {Q : Fl → Env → List OO → Prop} : dpK2 i d k Q env ws (some (.own (.dic kvs))) = (kvs.length < most ∧ Pd kvs k d fun kvs => Sv env i (.own (.dic kvs)) fun env => Q .nx env ws) := Eq.trans rfl rfl
def dpK (i : Nat) (m2 : M D) (d : D) (Q : Fl → Env → List OO → Prop) (env : Env) (ws : List OO) : Option Sl → Prop
  | some (.own (.dic _)) => Go (m2 ⟨env, ws⟩) fun b env ws => Is b.key fun k => Lk env i (dpK2 i d k Q env ws)
  | _ => False
@[simp ↓] theorem dpK_own {Q : Fl → Env → List OO → Prop} : dpK i me d Q env ws (some (.own (.dic kvs))) = Go (me ⟨env, ws⟩) fun b env ws => Is b.key fun k => Lk env i (dpK2 i d k Q env ws) := Eq.trans rfl rfl
@[simp ↓] theorem go_dputV (Q : Fl → Env → List OO → Prop) : Go (mDPutV i me mb ⟨env, ws⟩) Q = Go (me ⟨env, ws⟩) fun d env ws => Lk env i (dpK i mb d Q env ws) := by
  unfold mDPutV
  rw [go_bind]
  congr 1; funext d env ws
  unfold Lk
  show Go (match env[i]? with
    | some (.own (.dic _)) => bindM mb (fun b => fun s => match b.key, s.env[i]? with
      | some k, some (.own (.dic kvs)) => if kvs.length < most then some (Fl.nx, { s with env := s.env.set i (.own (.dic (putD kvs k d))) }) else none
      | _, _ => none) ⟨env, ws⟩
    | _ => none) Q = _
  have main : Go (bindM mb (fun b => fun s => match b.key, s.env[i]? with
      | some k, some (.own (.dic kvs)) => if kvs.length < most then some (Fl.nx, { s with env := s.env.set i (.own (.dic (putD kvs k d))) }) else none
      | _, _ => none) ⟨env, ws⟩) Q = Go (mb ⟨env, ws⟩) fun b env ws => Is b.key fun k => Lk env i (dpK2 i d k Q env ws) := by
    rw [go_bind]
    congr 1; funext b env ws
    unfold Lk
    show Go (match b.key, env[i]? with
      | some k, some (.own (.dic kvs)) => if kvs.length < most then some (Fl.nx, (⟨env.set i (.own (.dic (putD kvs k d))), ws⟩ : Stt)) else none
      | _, _ => none) Q = _
    cases b.key with
    | none => rfl
    | some k =>
      show _ = dpK2 i d k Q env ws env[i]?
      rcases env[i]? with _ | _ | z | o <;> try rfl
      cases o <;> try rfl
      rename_i kvs
      show Go (if kvs.length < most then some (Fl.nx, (⟨env.set i (.own (.dic (putD kvs k d))), ws⟩ : Stt)) else none) Q = (kvs.length < most ∧ _)
      by_cases hl : kvs.length < most
      · rw [if_pos hl]; simp only [hl, true_and]; rfl
      · rw [if_neg hl]; simp only [hl, false_and]; rfl
  rcases env[i]? with _ | _ | d | o <;> try rfl
  cases o <;> first | exact main | rfl
@[simp ↓] theorem is_rev (Q : D → Prop) : Is (gRev (.lst ds)) Q = Q (.lst ds.reverse) := Eq.trans rfl rfl
@[simp ↓] theorem is_ix_d (Q : D → Prop) : Is (gIx (.dic kvs) (.int a) ws) Q = Is (getD kvs (.inl a)) Q := Eq.trans rfl rfl
theorem gd_1 (Q : D → Prop) : Is (getD ((.int a, d) :: kvs) (.inl a)) Q = Q d := by
  unfold getD
  rw [List.find?_cons]
  simp [D.key]
@[simp ↓] theorem gd_11 (Q : D → Prop) : Is (getD ((.int 1, d) :: kvs) (.inl 1)) Q = Q d := gd_1 Q
@[simp ↓] theorem gd_00 (Q : D → Prop) : Is (getD ((.int 0, d) :: kvs) (.inl 0)) Q = Q d := gd_1 Q
@[simp ↓] theorem gd_12 (Q : D → Prop) : Is (getD ((.int 1, d) :: (.int 2, d1) :: kvs) (.inl 2)) Q = Q d1 := Eq.trans rfl rfl
@[simp ↓] theorem gd_22 (Q : D → Prop) : Is (getD ((.int 2, d) :: kvs) (.inl 2)) Q = Q d := gd_1 Q
/-! ranges down to 0 -/
def RgK (F : Int → Int → Int → Prop) : List D → Prop
  | [.int a, .int b, .int c] => F a b c
  | _ => False
@[simp ↓] theorem rgK_ {F : Int → Int → Int → Prop} {c : Int} : RgK F [.int a, .int b, .int c] = F a b c := Eq.trans rfl rfl
@[simp ↓] theorem go_rngD (Q : List D → Env → List OO → Prop) : Go (mRngD ms ⟨env, ws⟩) Q = Go (ms ⟨env, ws⟩) fun ds env ws => RgK (fun a b c => (c = -1 ∧ b ≤ a ∧ a.natAbs < 2 ^ 60 ∧ b.natAbs < 2 ^ 60) ∧ Q (rngD a c (a - b).toNat) env ws) ds := by
  unfold mRngD
  rw [go_bind]
  congr 1; funext ds env ws
  unfold RgK
  split
  · rename_i a b c
    by_cases h : c = -1 ∧ b ≤ a ∧ a.natAbs < 2 ^ 60 ∧ b.natAbs < 2 ^ 60
    · rw [if_pos h]; simp only [h, true_and]; simp
    · rw [if_neg h]; exact (eq_false fun z => h z.1).symm
  · rename_i h
    first
    | rfl
    | (split
       · rename_i a b c
         exact absurd rfl (h a b c)
       · rfl)
def dn : Nat → List D
  | 0 => [.int 0]
  | k + 1 => .int ((k + 1 : Nat) : Int) :: dn k
theorem rng_dn : ∀ k : Nat, rngD (k : Int) (-1) (k + 1) = dn k
  | 0 => rfl
  | k + 1 => by
    have h := rng_dn k
    unfold dn
    rw [← h]
    unfold rngD
    rw [List.range_succ_eq_map]
    simp only [List.map_cons, List.map_map]
    rw [List.cons.injEq]
    refine ⟨?_, ?_⟩
    · congr 1
    · apply List.map_congr_left
      intro i _
      simp only [Function.comp]
      congr 1
      omega
theorem dn_len : ∀ k : Nat, (dn k).length = k + 1
  | 0 => rfl
  | k + 1 => by unfold dn; rw [List.length_cons, dn_len k]
end
end ML
set_option Elab.async false
set_option linter.all false
set_option maxRecDepth 100000
set_option maxHeartbeats 800000
namespace ML
open PySem L2
@[simp] theorem fits1 : fits 1 = true := fits_of (by decide)
@[simp] theorem fits2 : fits 2 = true := fits_of (by decide)
@[simp] theorem fits0 : fits 0 = true := fits_of (by decide)
@[simp] theorem fits_a : fits 16807 = true := fits_of (by decide)
@[simp] theorem fits_b : fits 2147483647 = true := fits_of (by decide)
@[simp] theorem fits_c : fits 101 = true := fits_of (by decide)
/-- the box: great cells, the blend -/
def bx (cs : List Int) (b : Int) : List OO := [.lst (cs.map D.int), .lst [.loc 0, .int b]]
structure BxOk (cs : List Int) (b : Int) : Prop where
  pos : ∀ x ∈ cs, 0 ≤ x
  len : cs.length ≤ 63
  b0 : 0 ≤ b
  b1 : b < 2147483647
section
variable {c : Cs} {ws : List OO} {cs : List Int} {b x y a : Int} {env : Env} {me m0 m1 m2 : M D} {ms : M (List D)} {d : D}
@[simp ↓] theorem bx_10 {Q : D → Prop} : Is (gIx (.loc 1) (.int 0) (bx cs b)) Q = Q (.loc 0) := Eq.trans rfl rfl
@[simp ↓] theorem bx_11 {Q : D → Prop} : Is (gIx (.loc 1) (.int 1) (bx cs b)) Q = Q (.int b) := Eq.trans rfl rfl
@[simp ↓] theorem bx_00 {Q : D → Prop} : Is (gIx (.loc 0) (.int 0) (bx (x :: cs) b)) Q = Q (.int x) := by
  show Is (atI (D.int x :: cs.map D.int) 0) Q = _
  rw [is_at0]
theorem lay_ints : ∀ cs : List Int, pys (cs.map D.int) = some (cs.map PyData.int) ∧ PyData.canLayAll0 (cs.map PyData.int) = true ∧ PyData.depthAll (cs.map PyData.int) = 0
  | [] => ⟨rfl, rfl, rfl⟩
  | x :: cs => by
    obtain ⟨h1, h2, h3⟩ := lay_ints cs
    refine ⟨?_, ?_, ?_⟩
    · simp only [List.map_cons, pys, D.py, h1]
    · simp only [List.map_cons, PyData.canLayAll0, PyData.canLay0, h2, Bool.and_self]
    · simp only [List.map_cons, PyData.depthAll, PyData.depth, h3]; rfl
@[simp ↓] theorem bx_ne0 {Q : D → Prop} : Is (gNe (.loc 0) (.lst []) (bx [] b)) Q = Q (.bl false) := Eq.trans rfl rfl
@[simp ↓] theorem bx_ne1 {Q : D → Prop} : Is (gNe (.loc 0) (.lst []) (bx (x :: cs) b)) Q = Q (.bl true) := by
  show Is (Option.map (fun c => D.bl !c) (pyEq (.lst ((x :: cs).map D.int)) (.lst []))) Q = _
  obtain ⟨h1, h2, h3⟩ := lay_ints (x :: cs)
  have e : pyEq (.lst ((x :: cs).map D.int)) (.lst []) = some false := by
    unfold pyEq
    have e1 : D.py (.lst ((x :: cs).map D.int)) = some (.list ((x :: cs).map PyData.int)) := by simp only [D.py, h1, Option.map_some]
    have e2 : D.py (.lst []) = some (.list []) := rfl
    rw [e1, e2]
    have s1 : SeqAt.shaped (.list ((x :: cs).map PyData.int)) = true := by
      unfold SeqAt.shaped
      simp only [PyData.canLay0, h2, PyData.depth, h3]; rfl
    have s2 : SeqAt.shaped (.list []) = true := rfl
    simp only [s1, s2, Bool.and_self, if_true]
    rfl
  rw [e]; rfl
def PoK (me : M D) (Q : D → Env → List OO → Prop) (env : Env) (ws : List OO) (a : D) : Prop := Go ((match a with
  | .loc k => match ws[k]? with
    | some (.lst _) => (bindM me fun b => fun s => match b, s.ws[k]? with
      | .int i, some (.lst ds) => if -(2 ^ 63) ≤ i ∧ i < 2 ^ 63 then (match seqIndex? i ds.length with
        | some j => (match ds[j]? with
          | some d => some (d, { s with ws := s.ws.set k (.lst (ds.eraseIdx j)) })
          | none => none)
        | none => none) else none
      | _, _ => none) ⟨env, ws⟩
    | _ => none
  | _ => none)) Q
@[simp ↓] theorem go_popO (Q : D → Env → List OO → Prop) : Go (mPopO m0 me ⟨env, ws⟩) Q = Go (m0 ⟨env, ws⟩) fun a env ws => PoK me Q env ws a := by
  unfold mPopO
  rw [go_bind]
  rfl
@[simp ↓] theorem poK_ {Q : D → Env → List OO → Prop} : PoK (retM (.int 0)) Q env (bx (x :: cs) b) (.loc 0) = Q (.int x) env (bx cs b) := by
  unfold PoK bx
  simp only [List.map_cons]
  show Go (if -(2 ^ 63) ≤ (0 : Int) ∧ (0 : Int) < 2 ^ 63 then (match seqIndex? 0 (D.int x :: List.map D.int cs).length with
        | some j => (match (D.int x :: List.map D.int cs)[j]? with
          | some d => some (d, (⟨env, [OO.lst (D.int x :: List.map D.int cs), .lst [.loc 0, .int b]].set 0 (.lst ((D.int x :: List.map D.int cs).eraseIdx j))⟩ : Stt))
          | none => none)
        | none => none) else none) Q = _
  rw [if_pos (by decide)]
  have e : seqIndex? 0 (D.int x :: List.map D.int cs).length = some 0 := by
    unfold seqIndex?
    simp
  rw [e]
  rfl
def InK2 (cs : List Int) (b : Int) (Q : D → Env → List OO → Prop) (env : Env) : List D → Prop
  | [.int _, .int x] => Q .non env (bx (x :: cs) b)
  | _ => False
def InK (ms : M (List D)) (Q : D → Env → List OO → Prop) (env : Env) (ws : List OO) (a : D) : Prop := Go ((match a with
  | .loc k => match ws[k]? with
    | some (.lst _) => (bindM ms fun bs => fun s => match bs, s.ws[k]? with
      | [.int i, d], some (.lst ds) => if ds.length < most ∧ 0 ≤ i ∧ i < 2 ^ 63 then some (.non, { s with ws := s.ws.set k (.lst (ds.take i.toNat ++ [d] ++ ds.drop i.toNat)) }) else none
      | _, _ => none) ⟨env, ws⟩
    | _ => none
  | _ => none)) Q
@[simp ↓] theorem go_insO (Q : D → Env → List OO → Prop) : Go (mInsO m0 ms ⟨env, ws⟩) Q = Go (m0 ⟨env, ws⟩) fun a env ws => InK ms Q env ws a := by
  unfold mInsO
  rw [go_bind]
  rfl
def IpK (Q : D → Env → List OO → Prop) (bs : List D) (env : Env) (ws : List OO) : Prop := Go (match bs, ws[(0 : Nat)]? with
      | [.int i, d], some (.lst ds) => if ds.length < most ∧ 0 ≤ i ∧ i < 2 ^ 63 then some (.non, (⟨env, ws.set 0 (.lst (ds.take i.toNat ++ [d] ++ ds.drop i.toNat))⟩ : Stt)) else none
      | _, _ => none) Q
@[simp ↓] theorem inK_ {Q : D → Env → List OO → Prop} : InK ms Q env (bx cs b) (.loc 0) = Go (ms ⟨env, bx cs b⟩) fun bs env ws => IpK Q bs env ws := by
  show Go (bindM ms (fun bs => fun s => match bs, s.ws[(0 : Nat)]? with
      | [.int i, d], some (.lst ds) => if ds.length < most ∧ 0 ≤ i ∧ i < 2 ^ 63 then some (.non, { s with ws := s.ws.set 0 (.lst (ds.take i.toNat ++ [d] ++ ds.drop i.toNat)) }) else none
      | _, _ => none) ⟨env, bx cs b⟩) Q = _
  rw [go_bind]
  rfl
@[simp ↓] theorem ipK_ {Q : D → Env → List OO → Prop} : IpK Q [.int 0, .int x] env (bx cs b) = (cs.length < most ∧ Q .non env (bx (x :: cs) b)) := by
  show Go (if (cs.map D.int).length < most ∧ 0 ≤ (0 : Int) ∧ (0 : Int) < 2 ^ 63 then some (.non, (⟨env, (bx cs b).set 0 (.lst ((cs.map D.int).take (0 : Int).toNat ++ [.int x] ++ (cs.map D.int).drop (0 : Int).toNat))⟩ : Stt)) else none) Q = _
  rw [List.length_map]
  by_cases h : cs.length < most
  · rw [if_pos ⟨h, by decide, by decide⟩]; simp only [h, true_and]; rfl
  · rw [if_neg fun z => h z.1]; simp only [h, false_and]; rfl
def StK (Q : Fl → Env → List OO → Prop) (d a b : D) (env : Env) (ws : List OO) : Prop := Go (match a, b with
  | .loc k, .int i => match ws[k]? with
    | some (.lst ds) => (ixN ds.length i).map fun j => (Fl.nx, (⟨env, ws.set k (.lst (ds.set j d))⟩ : Stt))
    | _ => none
  | _, _ => none) Q
@[simp ↓] theorem go_setO (Q : Fl → Env → List OO → Prop) : Go (mSetO me m1 m2 ⟨env, ws⟩) Q = Go (me ⟨env, ws⟩) fun d env ws => Go (m1 ⟨env, ws⟩) fun a env ws => Go (m2 ⟨env, ws⟩) fun b env ws => StK Q d a b env ws := by
  unfold mSetO
  rw [go_bind]
  congr 1; funext d env ws
  rw [go_bind]
  congr 1; funext a env ws
  rw [go_bind]
  rfl
@[simp ↓] theorem stK_ {Q : Fl → Env → List OO → Prop} : StK Q (.int x) (.loc 1) (.int 1) env (bx cs b) = Q .nx env (bx cs x) := Eq.trans rfl rfl
theorem fits_lt (h0 : 0 ≤ x) (h1 : x < 2 ^ 200) : fits x = true := fits_of (by
  have h2 : x.natAbs < 2 ^ 200 := by omega
  exact Nat.lt_trans h2 (Nat.pow_lt_pow_right (by decide) (by decide)))
abbrev BD : M Fl :=
 (mIf (mAnd (mTest (mOp gNe (mIxV 0 (retM (.int 0))) (mFrz (mLstO mNil)))) (mTest (mOp gEq (mOp gIx (mIxV 0 (retM (.int 0))) (retM (.int 0))) (retM (.int 0)))))
 (mDrop (mPopO (mIxV 0 (retM (.int 0))) (retM (.int 0))))
 mNext)
theorem draw_loop {e1 x3 x4 : Sl} {Q : Fl → Env → List OO → Prop} (q : ∀ cs x2, BxOk cs b → Q .nx [.val (.loc 1), e1, x2, x3, x4] (bx cs b)) : ∀ (ds : List D) (cs : List Int) (x2 : Sl), BxOk cs b → Go (loopM (mgName 2) BD ds ⟨[.val (.loc 1), e1, x2, x3, x4], bx cs b⟩) Q
  | [], cs, x2, h => by simp; exact q _ _ h
  | d :: ds, [], x2, h => by
    simp
    exact draw_loop q ds [] _ h
  | d :: ds, x :: cs, x2, h => by
    by_cases z : x = 0
    · subst z
      simp
      exact draw_loop q ds cs _ ⟨fun y hy => h.pos y (List.mem_cons_of_mem _ hy), by have := h.len; simp at this; omega, h.b0, h.b1⟩
    · simp [z]
      exact draw_loop q ds (x :: cs) _ h
abbrev DrQ (many : Int) (Q : D → List OO → Prop) : Prop := ∀ r cs b, BxOk cs b → 0 ≤ r → r < many → Q (.int r) (bx cs b)
theorem r_draw {many : Int} (h : BxOk cs b) (hm : 1 ≤ many) (hf : fits many = true) {Q : D → List OO → Prop} (q : DrQ many Q) : Gf (m_law_draw c [.loc 1, .int many] (bx cs b)) Q := by
  unfold m_law_draw
  simp
  refine draw_loop (fun cs x2 h => ?_) _ _ _ h
  have hp : 0 < many := by omega
  cases cs with
  | cons x cs =>
    have hl : cs.length < 10000 := by have := h.len; simp at this; omega
    simp [hf, hp, hl]
    refine q _ _ _ ⟨fun y hy => ?_, by have := h.len; simpa using this, h.b0, h.b1⟩ (Int.emod_nonneg _ (by omega)) (Int.emod_lt_of_pos _ hp)
    rcases List.mem_cons.mp hy with e | e
    · rw [e]; exact Int.ediv_nonneg (h.pos x (List.mem_cons_self ..)) (by omega)
    · exact h.pos y (List.mem_cons_of_mem _ e)
  | nil =>
    have hb : fits b = true := fits_lt h.b0 (by have := h.b1; omega)
    have h1 : ∀ z : Int, 0 ≤ z % 2147483647 := fun z => Int.emod_nonneg _ (by decide)
    have h2 : ∀ z : Int, z % 2147483647 < 2147483647 := fun z => Int.emod_lt_of_pos _ (by decide)
    have hz : ∀ z : Int, fits (z % 2147483647) = true := fun z => fits_lt (h1 z) (by have := h2 z; omega)
    have hz2 : ∀ z y : Int, fits (z % 2147483647 * 2147483647 + y % 2147483647) = true := fun z y => fits_lt (by have := h1 z; have := h1 y; omega) (by have := h2 z; have := h2 y; omega)
    by_cases z : 100000000 < many
    · simp [hb, hz, hz2, hp, z]
      exact q _ _ _ ⟨h.pos, h.len, h1 _, h2 _⟩ (Int.emod_nonneg _ (by omega)) (Int.emod_lt_of_pos _ hp)
    · simp [hb, hz, hp, z]
      exact q _ _ _ ⟨h.pos, h.len, h1 _, h2 _⟩ (Int.emod_nonneg _ (by omega)) (Int.emod_lt_of_pos _ hp)
theorem r_pick {some : List Int} (h : BxOk cs b) (hn : some ≠ []) (hl : some.length ≤ 100) {Q : D → List OO → Prop} (q : ∀ r cs b, BxOk cs b → r ∈ some → Q (.int r) (bx cs b)) : Gf (m_law_pick c [.loc 1, .lst (some.map D.int)] (bx cs b)) Q := by
  have hp : 0 < some.length := List.length_pos_iff.mpr hn
  unfold m_law_pick
  simp
  unfold LnI
  rw [List.length_map]
  refine r_draw h (by omega) (fits_lt (by omega) (by omega)) fun r cs b hb h0 h1 => ?_
  obtain ⟨k, rfl⟩ := Int.eq_ofNat_of_zero_le h0
  have hk : k < some.length := by omega
  rw [is_ix_l, atI_nat, List.getElem?_map, List.getElem?_eq_getElem hk]
  exact q _ _ _ hb (List.getElem_mem hk)
theorem r_near {size : Int} (h : BxOk cs b) (h0 : 0 ≤ size) (h1 : size < 2 ^ 100) {Q : D → List OO → Prop} (q : ∀ r cs b, BxOk cs b → -size ≤ r → r ≤ size → Q (.int r) (bx cs b)) : Gf (m_law_near c [.loc 1, .int size] (bx cs b)) Q := by
  unfold m_law_near
  have hf : fits size = true := fits_lt h0 (by omega)
  simp [hf]
  refine r_draw h (by omega) (fits_lt (by omega) (by omega)) fun r cs b hb h0 h1 => ?_
  simp
  exact q _ _ _ hb (by omega) (by omega)
end
section
variable {c : Cs} {ws : List OO} {cs : List Int} {b : Int} {env : Env} {ds : List D} {i v w : Int} {mo : M OO} {o : OO} {x : Sl} {l h : Option Int} {n : Nat}
/-! ### the box -/
def ab (i : Int) : Int := if i < 0 then -i else i
theorem ab_pos : 0 ≤ ab i := by unfold ab; split <;> omega
@[simp ↓] theorem is_gabs {Q : D → Prop} : Is (gAbs [.int i] ws) Q = Q (.int (ab i)) := Eq.trans rfl rfl
@[simp ↓] theorem is_slL {Q : D → Prop} : Is (gSl (.lst ds) l h ws) Q = Q (.lst (cutD ds l h)) := Eq.trans rfl rfl
def Ap (ws : List OO) (o : OO) (K : List OO → Prop) : Prop := K (ws ++ [o])
@[simp ↓] theorem ap_0 {K : List OO → Prop} : Ap [] o K = K [o] := Eq.trans rfl rfl
@[simp ↓] theorem ap_1 {o1 : OO} {K : List OO → Prop} : Ap [o1] o K = K [o1, o] := Eq.trans rfl rfl
@[simp ↓] theorem go_out {Q : D → Env → List OO → Prop} : Go (mOut mo ⟨env, ws⟩) Q = Go (mo ⟨env, ws⟩) fun o env ws => Ln ws fun n => Ap ws o fun ws => Q (.loc n) env ws := by
  unfold mOut
  rw [go_bind]
  rfl
theorem frK_of {K : Prop} (h : x.free = true) : frK K (some x) = K := by
  cases x with
  | no => rfl
  | val d => rfl
  | own o => cases h
theorem cells_loop {s0 : Sl} {Q : List D → Env → List OO → Prop} : ∀ (l acc : List Int), acc.length + l.length < 9000 → (∀ x ∈ acc, 0 ≤ x) → (∀ r : List Int, (∀ x ∈ r, 0 ≤ x) → r.length = acc.length + l.length → Q (r.map D.int) [s0, .no, .no, .no] ws) →
    Go (loopC (mgName 3) mYes (mCB gAbs (mCons (mCB gInt (mCons (mVar 3) mNil)) mNil)) [3] (l.map D.int) (acc.map D.int) ⟨[s0, .no, .no, .no], ws⟩) Q
  | [], acc, h1, h2, q => by simp; exact q acc h2 (by simp)
  | x :: l, acc, h1, h2, q => by
    rw [List.length_cons] at h1
    have hl : acc.length < 10000 := by omega
    simp [hl]
    unfold Cat
    rw [show List.map D.int acc ++ [D.int (ab x)] = (acc ++ [ab x]).map D.int by simp]
    refine cells_loop l _ (by simp; omega) (fun y hy => ?_) fun r h3 h4 => q r h3 (by rw [h4]; simp; omega)
    rcases List.mem_append.mp hy with e | e
    · exact h2 y e
    · rw [List.mem_singleton.mp e]; exact ab_pos
theorem blend_loop {s0 s1 : Sl} {Q : Fl → Env → List OO → Prop} (q : ∀ b x3, 0 ≤ b → b < 2147483647 → x3.free = true → Q .nx [s0, s1, .val (.int b), x3] ws) : ∀ (l : List Int) (b : Int) (x3 : Sl), 0 ≤ b → b < 2147483647 → x3.free = true →
    Go (loopM (mgName 3) (mAsg (mOp gMod (mCB gInt (mCons (mOp gAdd (mOp gAdd (mOp gMul (mVar 2) (retM (.int 16807))) (mOp gMod (mCB gInt (mCons (mVar 3) mNil)) (retM (.int 2147483563)))) (retM (.int 59))) mNil)) (retM (.int 2147483647))) (mgName 2)) (l.map D.int) ⟨[s0, s1, .val (.int b), x3], ws⟩) Q
  | [], b, x3, h0, h1, h2 => by simp; exact q _ _ h0 h1 h2
  | x :: l, b, x3, h0, h1, h2 => by
    have hb : fits b = true := fits_lt h0 (by omega)
    simp [hb]
    exact blend_loop q l _ _ (Int.emod_nonneg _ (by decide)) (Int.emod_lt_of_pos _ (by decide)) rfl
theorem great_loop {s0 s1 s2 : Sl} {Q : List D → Env → List OO → Prop} : ∀ (l acc : List Int), acc.length + l.length < 9000 → (∀ x ∈ acc, 0 ≤ x) → (∀ x ∈ l, 0 ≤ x) → (∀ r : List Int, (∀ x ∈ r, 0 ≤ x) → r.length ≤ acc.length + l.length → Q (r.map D.int) [s0, s1, s2, .no] ws) →
    Go (loopC (mgName 3) (mTest (mOp gGe (mVar 3) (mOp gPow (retM (.int 10)) (retM (.int 18))))) (mVar 3) [3] (l.map D.int) (acc.map D.int) ⟨[s0, s1, s2, .no], ws⟩) Q
  | [], acc, h1, h2, h3, q => by simp; exact q acc h2 (by simp)
  | x :: l, acc, h1, h2, h3, q => by
    rw [List.length_cons] at h1
    have hl : acc.length < 10000 := by omega
    by_cases z : 1000000000000000000 ≤ x
    · simp [hl, z]
      unfold Cat
      rw [show List.map D.int acc ++ [D.int x] = (acc ++ [x]).map D.int by simp]
      refine great_loop l _ (by simp; omega) (fun y hy => ?_) (fun y hy => h3 y (List.mem_cons_of_mem _ hy)) fun r h3 h4 => q r h3 (by simp at h4; simp; omega)
      rcases List.mem_append.mp hy with e | e
      · exact h2 y e
      · rw [List.mem_singleton.mp e]; exact h3 x (List.mem_cons_self ..)
    · simp [hl, z]
      exact great_loop l _ (by omega) h2 (fun y hy => h3 y (List.mem_cons_of_mem _ hy)) fun r h3 h4 => q r h3 (by rw [List.length_cons]; omega)
theorem cut_map {f : Int → D} {ns : List Int} : ∃ l : List Int, cutD (ns.map f) none (some 60) = l.map f ∧ l.length ≤ ns.length := by
  unfold cutD
  rw [← List.map_drop, ← List.map_take]
  refine ⟨_, rfl, ?_⟩
  rw [List.length_take, List.length_drop]
  omega
theorem r_box {ns : List Int} (hn : ns.length ≤ 63) {Q : D → List OO → Prop} (q : ∀ cs b, BxOk cs b → Q (.loc 1) (bx cs b)) : Gf (m_law_box c [.lst (ns.map D.int)] []) Q := by
  obtain ⟨l, hl, hl2⟩ := cut_map (f := D.int) (ns := ns)
  unfold m_law_box
  simp [hl]
  rw [show ([] : List D) = ([] : List Int).map D.int from rfl]
  refine cells_loop l [] (by simp; omega) (by simp) fun r h1 h2 => ?_
  simp
  refine blend_loop (fun b x3 hb0 hb1 hx => ?_) r _ _ (by decide) (by decide) rfl
  simp [frK_of hx]
  rw [show ([] : List D) = ([] : List Int).map D.int from rfl]
  refine great_loop r [] (by simp at h2; simp; omega) (by simp) h1 fun g h3 h4 => ?_
  simp
  exact q g b ⟨h3, by simp at h2 h4; omega, hb0, hb1⟩
@[simp ↓] theorem is_eqL0 {Q : D → Prop} : Is (gEq (.lst []) (.lst []) ws) Q = Q (.bl true) := Eq.trans rfl rfl
theorem r_is_int : m_law_is_int c [.int v] ws = some (.bl true, ws) := by
  apply gf_eq; unfold m_law_is_int; simp
theorem same_int : m_law_same c (n + 1) [.int v, .int v] ws = some (.bl true, ws) := by
  have h : ∀ v ws Q, Gf (m_law_is_int c [.int v] ws) Q = Q (.bl true) ws := fun v ws Q => gf_of r_is_int
  apply gf_eq; unfold m_law_same; simp [↓h]
theorem same_non : m_law_same c (n + 1) [.non, .non] ws = some (.bl true, ws) := by
  apply gf_eq; unfold m_law_same; simp
theorem same_two : m_law_same c (n + 2) [.tup [.int v, .int w], .tup [.int v, .int w]] ws = some (.bl true, ws) := by
  have h : ∀ v ws Q, Gf (m_law_same c (n + 1) [.int v, .int v] ws) Q = Q (.bl true) ws := fun v ws Q => gf_of same_int
  apply gf_eq; unfold m_law_same; simp [↓h]
end
end ML
set_option Elab.async false
set_option linter.all false
set_option maxRecDepth 100000
set_option maxHeartbeats 800000
namespace ML
open PySem L2
/-! ### loops and comprehensions of any length -/
section
variable {g : Tg} {m : M Fl} {mt : M Bool} {me : M D} {vs : List Nat} {E : Env} {ws : List OO}
theorem loop_inv : ∀ (ds : List D) {Iv : Nat → Env → List OO → Prop} (h : ∀ k d env ws, ds[k]? = some d → Iv k env ws → ∀ Q : Fl → Env → List OO → Prop, (∀ env ws, Iv (k + 1) env ws → Q .nx env ws) → Is (g d env) fun env => Go (m ⟨env, ws⟩) Q)
    {env : Env} {ws : List OO} (h0 : Iv 0 env ws) {Q : Fl → Env → List OO → Prop} (q : ∀ env ws, Iv ds.length env ws → Q .nx env ws), Go (loopM g m ds ⟨env, ws⟩) Q
  | [], Iv, h, env, ws, h0, Q, q => q env ws h0
  | d :: ds, Iv, h, env, ws, h0, Q, q => by
    rw [go_loop1]
    exact h 0 d env ws rfl h0 _ fun env ws hi => loop_inv ds (Iv := fun k => Iv (k + 1)) (fun k d env ws hk => h (k + 1) d env ws (by simpa using hk)) hi q
theorem lc_gen {α : Type} {f : α → D} {y : α → D} {p : α → Bool} : ∀ (l : List α) (acc : List D), acc.length + l.length ≤ most →
    (∀ a ∈ l, ∀ (Q1 : D → Env → List OO → Prop) (Q2 : Env → List OO → Prop), Is (g (f a) E) (fun env => Go (mt ⟨env, ws⟩) fun b env ws => if b = true then Go (me ⟨env, ws⟩) fun z env ws => Wp env vs fun env => Q1 z env ws else Wp env vs fun env => Q2 env ws) = if p a = true then Q1 (y a) E ws else Q2 E ws) →
    ∀ Q : List D → Env → List OO → Prop, Go (loopC g mt me vs (l.map f) acc ⟨E, ws⟩) Q = Q (acc ++ (l.filter p).map y) E ws
  | [], acc, _, _, Q => by simp
  | a :: l, acc, hl, h, Q => by
    rw [List.length_cons] at hl
    rw [List.map_cons, loopC_1]
    have ha := h a (List.mem_cons_self ..) (fun z env ws => acc.length < most ∧ Go (loopC g mt me vs (l.map f) (acc ++ [z]) ⟨env, ws⟩) Q) (fun env ws => Go (loopC g mt me vs (l.map f) acc ⟨env, ws⟩) Q)
    refine Eq.trans ha ?_
    by_cases hp : p a = true
    · rw [if_pos hp]
      have hlt : acc.length < most := by omega
      rw [lc_gen l (acc ++ [y a]) (by rw [List.length_append, List.length_singleton]; omega) (fun a ha => h a (List.mem_cons_of_mem _ ha)) Q]
      rw [List.filter_cons_of_pos hp]
      rw [List.map_cons, List.append_assoc]
      exact propext ⟨fun z => z.2, fun z => ⟨hlt, z⟩⟩
    · rw [if_neg hp]
      rw [lc_gen l acc (by omega) (fun a ha => h a (List.mem_cons_of_mem _ ha)) Q]
      rw [List.filter_cons_of_neg hp]
theorem filt_true {α : Type} {l : List α} : l.filter (fun _ => true) = l := by simp
/-- without a test -/
theorem lc_map {α : Type} {f : α → D} {y : α → D} (l : List α) (hl : l.length ≤ most)
    (h : ∀ a ∈ l, ∀ (Q1 : D → Env → List OO → Prop), Is (g (f a) E) (fun env => Go (me ⟨env, ws⟩) fun z env ws => Wp env vs fun env => Q1 z env ws) = Q1 (y a) E ws) (Q : List D → Env → List OO → Prop) :
    Go (loopC g mYes me vs (l.map f) [] ⟨E, ws⟩) Q = Q (l.map y) E ws := by
  rw [lc_gen (p := fun _ => true) l [] (by simpa using hl) (fun a ha Q1 Q2 => ?_) Q, filt_true]
  · rfl
  · rw [if_pos rfl]
    exact h a ha Q1
theorem rng_map {n : Nat} : rngD 0 1 n = (List.range n).map fun (i : Nat) => D.int (i : Int) := by
  unfold rngD
  apply List.map_congr_left
  intro i _
  simp
theorem zip_map {α β : Type} {f : α → D} {h : β → D} : ∀ (xs : List α) (ys : List β), zipD (xs.map f) (ys.map h) = (xs.zip ys).map fun p => .tup [f p.1, h p.2]
  | [], _ => by simp [zipD]
  | _ :: _, [] => by simp [zipD]
  | x :: xs, y :: ys => by simp only [List.map_cons, zipD, List.zip_cons_cons, zip_map xs ys]
theorem enum_map {α : Type} {f : α → D} : ∀ (xs : List α) (k : Nat), enumFrom k (xs.map f) = (xs.zipIdx k).map fun p => .tup [.int (p.2 : Int), f p.1]
  | [], _ => rfl
  | x :: xs, k => by simp only [List.map_cons, enumFrom, List.zipIdx_cons, enum_map xs (k + 1)]
theorem en0 {K : List D → Prop} {ds : List D} : En 0 ds K = K (enumFrom 0 ds) := en_ (k := 0)
theorem at_map {α : Type} {f : α → D} {l : List α} {i : Int} {x : α} {Q : D → Prop} (h0 : 0 ≤ i) (h : l[i.toNat]? = some x) : Is (atI (l.map f) i) Q = Q (f x) := by
  obtain ⟨n, rfl⟩ := Int.eq_ofNat_of_zero_le h0
  rw [atI_nat, List.getElem?_map]
  have e : (n : Int).toNat = n := rfl
  rw [e] at h
  rw [h]; rfl
end
/-! ### stations of one store -/
structure Mv where
  lead : Int
  sh : Int
  fi : Int
structure Md where
  th : List Int
  ce : List (List Mv)
structure Sn where
  fl : Int
  ca : Int
  le : Nat
  mo : List Md
def Mv.d (v : Mv) : D := .tup [.int v.lead, .tup [.tup [.int v.sh, .int v.fi]]]
def cellD (ms : List Mv) : D := .tup (ms.map Mv.d)
abbrev intsD (l : List Int) : D := .tup (l.map D.int)
def Md.d (m : Md) : D := .tup [.tup [intsD m.th], .tup (m.ce.map cellD)]
abbrev stD (c : Cs) (fl ca le : Int) (mo : List D) : D := .ins c.Station [("floors", .tup [.int fl]), ("caps", .tup [.int ca]), ("letters", .int le), ("modes", .tup mo)]
abbrev Sn.d (S : Sn) (c : Cs) : D := stD c S.fl S.ca S.le (S.mo.map Md.d)
structure Sn.Wf (S : Sn) : Prop where
  fc : S.fl ≤ S.ca
  lets : 1 ≤ S.le ∧ S.le ≤ 6
  many : 1 ≤ S.mo.length ∧ S.mo.length ≤ 60
  ths : ∀ M ∈ S.mo, M.th.length ≤ 6
  thf : ∀ M ∈ S.mo, ∀ t ∈ M.th, S.fl < t ∧ t ≤ S.ca
  asc : ∀ M ∈ S.mo, ∀ p ∈ M.th.zip M.th.tail, p.1 < p.2
  ces : ∀ M ∈ S.mo, M.ce.length = M.th.length + 1
  mvs : ∀ M ∈ S.mo, ∀ ms ∈ M.ce, ms.length = S.le
  leads : ∀ M ∈ S.mo, ∀ ms ∈ M.ce, ∀ v ∈ ms, 0 ≤ v.lead ∧ v.lead < S.mo.length
  fills : ∀ M ∈ S.mo, ∀ ms ∈ M.ce, ∀ v ∈ ms, S.fl ≤ v.fi ∧ v.fi ≤ S.ca
def oD : Option Int → D
  | none => .non
  | some x => .int x
@[simp] theorem oD_n : oD none = .non := rfl
@[simp] theorem oD_s {x : Int} : oD (some x) = .int x := rfl
def gi (l : List Int) (i : Int) : Int := l.getD i.toNat 0
def ask (S : Sn) (ls : List Int) (v : Mv) : Option Int :=
  if S.ca < gi ls v.lead then none else if gi ls v.lead ≤ v.fi then some (S.fl - v.sh) else some (gi ls v.lead - v.sh)
/-- the greatest ask, none where one lacks -/
def mostO (os : List (Option Int)) : Option Int := if none ∈ os then none else (os.filterMap id).max?
def marks (S : Sn) (M : Md) : List Int := S.fl :: (M.th ++ [S.ca + 1])
def asks (S : Sn) (ls : List Int) (M : Md) : List (Int × Int × Option Int) := (((marks S M).zip (marks S M).tail).zip M.ce).map fun p => (p.1.1, p.1.2, mostO (p.2.map (ask S ls)))
def lineStep (fl : Int) (l : List (Int × Int × Option Int)) : Int := l.foldl (fun line p => match p.2.2 with
  | none => p.2.1
  | some a => if p.1 < a then min p.2.1 a else line) fl
def stepS (S : Sn) (ls : List Int) : List Int := S.mo.map fun M => lineStep S.fl (asks S ls M)
def lineN (S : Sn) : Nat → List Int
  | 0 => S.mo.map fun _ => S.fl
  | n + 1 => stepS S (lineN S n)
theorem lineN_len (S : Sn) : ∀ n, (lineN S n).length = S.mo.length
  | 0 => by simp [lineN]
  | n + 1 => by simp [lineN, stepS]
section
variable {c : Cs} {ws : List OO} {Q : D → List OO → Prop} {S : Sn} {M : Md} {v : Mv} {ls : List Int} {i : Int}
section
variable {C : Addr} {a b d e : D} {Q : D → Prop}
@[simp ↓] theorem fd_floors : Is (gFld C "floors" ws (.ins C [("floors", a), ("caps", b), ("letters", d), ("modes", e)])) Q = Q a := by rw [is_fld]; simp [fd_s]
@[simp ↓] theorem fd_caps : Is (gFld C "caps" ws (.ins C [("floors", a), ("caps", b), ("letters", d), ("modes", e)])) Q = Q b := by rw [is_fld, fd_s, if_neg (by decide), fd_s, if_pos rfl]
@[simp ↓] theorem fd_letters : Is (gFld C "letters" ws (.ins C [("floors", a), ("caps", b), ("letters", d), ("modes", e)])) Q = Q d := by rw [is_fld, fd_s, if_neg (by decide), fd_s, if_neg (by decide), fd_s, if_pos rfl]
@[simp ↓] theorem fd_modes : Is (gFld C "modes" ws (.ins C [("floors", a), ("caps", b), ("letters", d), ("modes", e)])) Q = Q e := by rw [is_fld, fd_s, if_neg (by decide), fd_s, if_neg (by decide), fd_s, if_neg (by decide), fd_s, if_pos rfl]
end
@[simp ↓] theorem r_is_integer {v : Int} : Gf (m_is_integer c [.int v] ws) Q = Q (.bl true) ws := by
  unfold m_is_integer; simp
@[simp ↓] theorem r_is_between {v a b : Int} : Gf (m_is_between c [.int v, .int a, .int b] ws) Q = Q (.bl (decide (a ≤ v) && decide (v ≤ b))) ws := by
  unfold m_is_between; simp
  by_cases h : a ≤ v <;> simp [h]
@[simp ↓] theorem r_is_below {v b : Int} : Gf (m_is_below c [.int v, .int b] ws) Q = Q (.bl (decide (0 ≤ v) && decide (v < b))) ws := by
  unfold m_is_below; simp
  by_cases h : 0 ≤ v <;> simp [h]
@[simp ↓] theorem r_need_station {fs : List (Str × D)} {d : D} : Gf (m_need_station c [.ins c.Station fs, d] ws) Q = Q .non ws := by
  unfold m_need_station; simp
@[simp ↓] theorem r_need_one_store {fl ca le : Int} {mo : List D} : Gf (m_need_one_store c [stD c fl ca le mo] ws) Q = Q .non ws := by
  unfold m_need_one_store; simp
theorem gd_of {l : List Int} {i : Int} (h0 : 0 ≤ i) (h : i < l.length) : l[i.toNat]? = some (gi l i) := by
  unfold gi
  rw [List.getD_eq_getElem?_getD, List.getElem?_eq_getElem (by omega)]
  rfl
theorem r_ask (h0 : 0 ≤ v.lead) (h1 : v.lead < ls.length) : Gf (m_ask_of c [S.d c, intsD ls, v.d] ws) Q = Q (oD (ask S ls v)) ws := by
  have h : ∀ Q : D → Prop, Is (atI (ls.map D.int) v.lead) Q = Q (.int (gi ls v.lead)) := fun Q => at_map h0 (gd_of h0 h1)
  unfold m_ask_of ask Mv.d
  simp [↓h]
  generalize gi ls v.lead = x
  by_cases a : S.ca < x
  · simp [a]
  · by_cases b : x ≤ v.fi <;> simp [a, b]
end
end ML
set_option Elab.async false
set_option linter.all false
set_option maxRecDepth 100000
set_option maxHeartbeats 800000
namespace ML
open PySem L2
theorem take_one {α : Type} {L : List α} {k : Nat} {p : α} (h : L[k]? = some p) : L.take (k + 1) = L.take k ++ [p] := by
  rw [List.take_add_one, h]; rfl
theorem map_at {α β : Type} {L : List α} {F : α → β} {k : Nat} {d : β} (h : (L.map F)[k]? = some d) : ∃ p, L[k]? = some p ∧ d = F p := by
  rw [List.getElem?_map] at h
  cases e : L[k]? with
  | none => rw [e] at h; cases h
  | some p => rw [e] at h; cases h; exact ⟨p, rfl, rfl⟩
section
variable {c : Cs} {ws : List OO} {Q : D → List OO → Prop} {S : Sn} {U : Md} {v : Mv} {ls : List Int} {i : Int} {os : List (Option Int)} {ms : List Mv} {d : D} {ds : List D}
/-! ### none where one lacks, else the greatest -/
@[simp ↓] theorem go_inV {ma mb : M D} {env : Env} {Q : D → Env → List OO → Prop} : Go (mInV ma mb ⟨env, ws⟩) Q = Go (ma ⟨env, ws⟩) fun a env ws => Go (mb ⟨env, ws⟩) fun b env ws => Is ((gInV a b ws).map .bl) fun d => Q d env ws := by unfold mInV; exact go_op Q
def mxD (a : D) (ws : List OO) : Option D := (gInV .non a ws).bind fun b => if b = true then some .non else gMaxL [a] ws
def mxK (i : Nat) (Q : D → Env → List OO → Prop) (env : Env) (ws : List OO) : Option Sl → Prop
  | some (.val d) => Is (mxD d ws) fun d => Q d env ws
  | _ => Go (mIf (mTest (mInV (retM .non) (mVar i))) (retM .non) (mCB gMaxL (mCons (mVar i) mNil)) ⟨env, ws⟩) Q
section
variable {env : Env} {i : Nat} {Q : D → Env → List OO → Prop}
@[simp ↓] theorem mxK_v {d : D} : mxK i Q env ws (some (.val d)) = Is (mxD d ws) fun d => Q d env ws := rfl
@[simp ↓ high] theorem go_mx : Go (mIf (mTest (mInV (retM .non) (mVar i))) (retM .non) (mCB gMaxL (mCons (mVar i) mNil)) ⟨env, ws⟩) Q = Lk env i (mxK i Q env ws) := by
  unfold Lk
  rcases h : env[i]? with _ | _ | d | o <;> try rfl
  show _ = Is (mxD d ws) fun d => Q d env ws
  rw [go_if, go_test, go_inV, go_ret, go_var]
  unfold Lk mxD
  rw [h]
  simp only [slK_val, is_map, is_bind, is_bl, go_ret]
  cases gInV .non d ws with
  | none => rfl
  | some b =>
    simp only [is_some]
    cases b with
    | true => simp
    | false =>
      simp only [Bool.false_eq_true, if_false]
      rw [go_cB, go_cons, go_var]
      unfold Lk
      rw [h]
      simp
end
def oV : Option Int → V
  | none => .non
  | some x => .int x
theorem fvs_o : ∀ os : List (Option Int), fvs (os.map oD) = some (os.map oV)
  | [] => rfl
  | none :: os => by simp only [List.map_cons, oD_n, fvs, D.fv, fvs_o os]; rfl
  | some x :: os => by simp only [List.map_cons, oD_s, fvs, D.fv, fvs_o os]; rfl
theorem inV_o : ∀ os : List (Option Int), L2.inV .non (os.map oV) = decide (none ∈ os)
  | [] => rfl
  | none :: os => by
    unfold L2.inV
    simp [oV]
    left; rfl
  | some x :: os => by
    have h := inV_o os
    unfold L2.inV at h ⊢
    rw [List.map_cons, List.any_cons, h]
    have e : eqV (oV (some x)) .non = false := rfl
    rw [e]
    simp
theorem ints_o : ∀ os : List (Option Int), none ∉ os → ints? (os.map oD) = some (os.filterMap id)
  | [], _ => rfl
  | none :: os, h => by simp at h
  | some x :: os, h => by
    have h2 : none ∉ os := fun z => h (List.mem_cons_of_mem _ z)
    simp only [List.map_cons, oD_s, ints?, D.int?, ints_o os h2]
    simp
theorem mx_o (h : os ≠ []) {Q : D → Prop} : Is (mxD (.lst (os.map oD)) ws) Q = Q (oD (mostO os)) := by
  have e : gInV .non (.lst (os.map oD)) ws = some (decide (none ∈ os)) := by
    show (inD .non (os.map oD)).or _ = _
    unfold inD
    rw [fvs_o]
    simp only [D.fv]
    rw [inV_o]
    rfl
  unfold mxD mostO
  rw [e]
  by_cases z : none ∈ os
  · simp [z]
  · simp only [z, decide_false, if_false]
    show Is (if false = true then some D.non else gMaxL [.lst (os.map oD)] ws) Q = _
    rw [if_neg (by decide)]
    show Is ((ints? (os.map oD)).bind fun ns => ns.max?.map .int) Q = _
    rw [ints_o os z]
    simp only [Option.bind_some]
    have hne : os.filterMap id ≠ [] := by
      cases os with
      | nil => exact absurd rfl h
      | cons o os =>
        cases o with
        | none => simp at z
        | some x => simp
    cases hm : (os.filterMap id).max? with
    | none => exact absurd (List.max?_eq_none_iff.mp hm) hne
    | some x => rfl
/-! ### stretches and asks -/
def mkD (S : Sn) (U : Md) : List D := (marks S U).map D.int
def mkT (S : Sn) (U : Md) : List D := (marks S U).tail.map D.int
def ends (S : Sn) (U : Md) : List (Int × Int) := (marks S U).zip (marks S U).tail
def endsD (S : Sn) (U : Md) : List D := (ends S U).map fun p => .tup [.int p.1, .int p.2]
def acts (S : Sn) (U : Md) : List ((Int × Int) × List Mv) := (ends S U).zip U.ce
def actD (p : (Int × Int) × List Mv) : D := .tup [.tup [.int p.1.1, .int p.1.2], cellD p.2]
def askD (p : Int × Int × Option Int) : D := .tup [.int p.1, .int p.2.1, oD p.2.2]
@[simp ↓ high] theorem cat_mk {K : List D → Prop} : Cat (.int S.fl :: U.th.map D.int) [.int (S.ca + 1)] K = K (mkD S U) := by
  unfold Cat mkD marks
  simp
@[simp ↓ high] theorem sl_mk {Q : D → Prop} : Is (gSl (.tup (mkD S U)) (some 1) none ws) Q = Q (.tup (mkT S U)) := by
  show Q (.tup (cutD (mkD S U) (some 1) none)) = _
  unfold mkD mkT marks
  rw [List.map_cons, cut1]; rfl
@[simp ↓ high] theorem zp_mk {K : List D → Prop} : Zp (mkD S U) (mkT S U) K = K (endsD S U) := by
  unfold Zp mkD mkT endsD ends
  rw [zip_map]
@[simp ↓ high] theorem zp_ac {K : List D → Prop} : Zp (endsD S U) (U.ce.map cellD) K = K ((acts S U).map actD) := by
  unfold Zp endsD acts
  rw [zip_map]; rfl
@[simp ↓] theorem is_cell {Q : List D → Prop} : Is (D.items (cellD ms)) Q = Q (ms.map Mv.d) := rfl
theorem at_mode (h0 : 0 ≤ i) (h : S.mo[i.toNat]? = some U) {Q : D → Prop} : Is (atI (S.mo.map Md.d) i) Q = Q U.d := at_map h0 h
theorem r_ends (h0 : 0 ≤ i) (h : S.mo[i.toNat]? = some U) (hl : U.th.length ≤ 6) : Gf (m_stretch_ends c [S.d c, .int i] ws) Q = Q (.lst (endsD S U)) ws := by
  have hm : ∀ Q : D → Prop, Is (atI (S.mo.map Md.d) i) Q = Q U.d := fun Q => at_mode h0 h
  have l1 : 1 + U.th.length ≤ 10000 := by omega
  have l2 : U.th.length ≤ 9998 := by omega
  unfold m_stretch_ends
  simp [↓hm, Md.d, l1, l2]
end
end ML
set_option Elab.async false
set_option linter.all false
set_option maxRecDepth 100000
set_option maxHeartbeats 800000
namespace ML
open PySem L2
theorem mem_of_get {α : Type} {L : List α} {k : Nat} {p : α} (h : L[k]? = some p) : p ∈ L := List.mem_of_getElem? h
section
variable {c : Cs} {ws : List OO} {Q : D → List OO → Prop} {S : Sn} {U : Md} {v : Mv} {ls : List Int} {i : Int} {os : List (Option Int)} {ms : List Mv} {d : D} {ds : List D}
theorem Sn.Wf.mode (w : S.Wf) (h : S.mo[i.toNat]? = some U) : U ∈ S.mo := mem_of_get h
theorem acts_mem {p : (Int × Int) × List Mv} (h : p ∈ acts S U) : p.2 ∈ U.ce := by
  unfold acts at h
  exact (List.of_mem_zip h).2
/-- asks of one stretch -/
def actAsk (S : Sn) (ls : List Int) (p : (Int × Int) × List Mv) : Int × Int × Option Int := (p.1.1, p.1.2, mostO (p.2.map (ask S ls)))
theorem asks_acts : asks S ls U = (acts S U).map (actAsk S ls) := rfl
theorem r_asks (w : S.Wf) (hl : ls.length = S.mo.length) (h0 : 0 ≤ i) (h : S.mo[i.toNat]? = some U) : Gf (m_asks_of c [S.d c, intsD ls, .int i] ws) Q = Q (.lst ((asks S ls U).map askD)) ws := by
  have hU := w.mode h
  have he : ∀ ws Q, Gf (m_stretch_ends c [S.d c, .int i] ws) Q = Q (.lst (endsD S U)) ws := fun ws Q => r_ends h0 h (w.ths U hU)
  have hm : ∀ Q : D → Prop, Is (atI (S.mo.map Md.d) i) Q = Q U.d := fun Q => at_mode h0 h
  refine gf_of (gf_eq ?_)
  unfold m_asks_of
  simp [↓he, ↓hm, Md.d]
  refine loop_inv _ (Iv := fun k env ws' => ws = ws' ∧ ∃ x4 x5 x6 x7, env = [.val (S.d c), .val (intsD ls), .val (.int i), .own (.lst (((acts S U).map fun p => askD (actAsk S ls p)).take k)), x4, x5, x6, x7, .no]) (fun k d env ws' hd hi Q q => ?_) ⟨rfl, _, _, _, _, rfl⟩ fun env ws' hi => ?_
  · obtain ⟨rfl, x4, x5, x6, x7, rfl⟩ := hi
    obtain ⟨p, hp, rfl⟩ := map_at hd
    have hc := acts_mem (mem_of_get hp)
    have hne : p.2.map (ask S ls) ≠ [] := by
      have h1 := w.mvs U hU p.2 hc
      have h2 := w.lets.1
      intro e
      have h3 := congrArg List.length e
      rw [List.length_map, List.length_nil] at h3
      omega
    have hlen : p.2.length ≤ most := by have := w.mvs U hU p.2 hc; have := w.lets.2; simp; omega
    simp [actD]
    rw [lc_map (f := Mv.d) (y := fun v => oD (ask S ls v)) p.2 hlen (fun v hv Q1 => by
      have hv2 := w.leads U hU p.2 hc v hv
      have ha : ∀ ws Q, Gf (m_ask_of c [S.d c, intsD ls, v.d] ws) Q = Q (oD (ask S ls v)) ws := fun ws Q => r_ask hv2.1 (by rw [hl]; exact hv2.2)
      simp [↓ha])]
    have hmx : ∀ ws (Q : D → Prop), Is (mxD (.lst (p.2.map fun v => oD (ask S ls v))) ws) Q = Q (oD (mostO (p.2.map (ask S ls)))) := fun ws Q => by
      have := mx_o (ws := ws) hne (Q := Q)
      rw [List.map_map] at this
      exact this
    have hk : k < 10000 := by
      have h1 := (List.getElem?_eq_some_iff.mp hp).1
      have h2 : (acts S U).length ≤ U.ce.length := by unfold acts; rw [List.length_zip]; omega
      have h3 := w.ces U hU
      have h4 := w.ths U hU
      omega
    simp [↓hmx]
    refine ⟨by omega, ?_⟩
    unfold Cat
    rw [show List.take k (List.map (fun p => askD (actAsk S ls p)) (acts S U)) ++ [D.tup [.int p.1.1, .int p.1.2, oD (mostO (p.2.map (ask S ls)))]] = List.take (k + 1) (List.map (fun p => askD (actAsk S ls p)) (acts S U)) from (take_one (by rw [List.getElem?_map, hp]; rfl)).symm]
    exact q _ _ ⟨rfl, _, _, _, _, rfl⟩
  · obtain ⟨rfl, x4, x5, x6, x7, rfl⟩ := hi
    simp
    rw [asks_acts, List.map_map]
    simp [List.take_of_length_le]
def lineF (line : Int) (p : Int × Int × Option Int) : Int := match p.2.2 with
  | none => p.2.1
  | some a => if p.1 < a then min p.2.1 a else line
theorem lineStep_eq {fl : Int} {l : List (Int × Int × Option Int)} : lineStep fl l = l.foldl lineF fl := rfl
theorem r_step (w : S.Wf) (hl : ls.length = S.mo.length) : m_sure_step c [S.d c, intsD ls] ws = some (intsD (stepS S ls), ws) := by
  apply gf_eq
  unfold m_sure_step
  have hm := w.many
  simp [LnI]
  refine ⟨by omega, ?_⟩
  rw [rng_map]
  refine loop_inv _ (Iv := fun k env ws' => ws = ws' ∧ ∃ x3 x4 x5 x6 x7, env = [.val (S.d c), .val (intsD ls), .own (.lst ((S.mo.map fun U => D.int (lineStep S.fl (asks S ls U))).take k)), x3, x4, x5, x6, x7]) (fun k d env ws' hd hi Q q => ?_) ⟨rfl, _, _, _, _, _, rfl⟩ fun env ws' hi => ?_
  · obtain ⟨rfl, x3, x4, x5, x6, x7, rfl⟩ := hi
    obtain ⟨p, hp, rfl⟩ := map_at hd
    have hp2 := (List.getElem?_eq_some_iff.mp hp)
    obtain ⟨hp3, hp4⟩ := hp2
    have hk : k < S.mo.length := by simpa using hp3
    have ek : p = k := by simpa using hp4.symm
    subst ek
    obtain ⟨U, hU⟩ : ∃ U, S.mo[p]? = some U := ⟨S.mo[p], List.getElem?_eq_getElem hk⟩
    have ha : ∀ ws Q, Gf (m_asks_of c [S.d c, intsD ls, .int (p : Int)] ws) Q = Q (.lst ((asks S ls U).map askD)) ws := fun ws Q => r_asks w hl (by omega) hU
    simp [↓ha]
    refine loop_inv _ (Iv := fun k env ws' => ws = ws' ∧ ∃ x5 x6 x7, env = [.val (S.d c), .val (intsD ls), .own (.lst ((S.mo.map fun U => D.int (lineStep S.fl (asks S ls U))).take p)), .val (.int p), .val (.int (((asks S ls U).take k).foldl lineF S.fl)), x5, x6, x7]) (fun k d env ws' hd hi Q q => ?_) ⟨rfl, _, _, _, rfl⟩ fun env ws' hi => ?_
    · obtain ⟨rfl, x5, x6, x7, rfl⟩ := hi
      obtain ⟨r, hr, rfl⟩ := map_at hd
      obtain ⟨a, b, o⟩ := r
      have e : ((asks S ls U).take (k + 1)).foldl lineF S.fl = lineF (((asks S ls U).take k).foldl lineF S.fl) (a, b, o) := by
        rw [take_one hr, List.foldl_append]; rfl
      generalize ((asks S ls U).take k).foldl lineF S.fl = X at *
      cases o with
      | none =>
        simp [askD]
        rw [e, show lineF X (a, b, none) = b from rfl] at q
        exact q _ _ ⟨rfl, _, _, _, rfl⟩
      | some y =>
        by_cases z : a < y
        · simp [askD, z]
          rw [e, show lineF X (a, b, some y) = min b y by simp [lineF, z]] at q
          exact q _ _ ⟨rfl, _, _, _, rfl⟩
        · simp [askD, z]
          rw [e, show lineF X (a, b, some y) = X by simp [lineF, z]] at q
          exact q _ _ ⟨rfl, _, _, _, rfl⟩
    · obtain ⟨rfl, x5, x6, x7, rfl⟩ := hi
      rw [List.length_map, List.take_of_length_le (Nat.le_refl _)]
      simp
      refine ⟨by omega, ?_⟩
      unfold Cat
      rw [show List.take p (List.map (fun U => D.int (lineStep S.fl (asks S ls U))) S.mo) ++ [D.int (List.foldl lineF S.fl (asks S ls U))] = List.take (p + 1) (List.map (fun U => D.int (lineStep S.fl (asks S ls U))) S.mo) from (take_one (by rw [List.getElem?_map, hU]; rfl)).symm]
      exact q _ _ ⟨rfl, _, _, _, _, _, rfl⟩
  · obtain ⟨rfl, x3, x4, x5, x6, x7, rfl⟩ := hi
    simp [stepS]
    rw [List.take_of_length_le (by simp)]
    rfl
end
end ML
set_option Elab.async false
set_option linter.all false
set_option maxRecDepth 100000
set_option maxHeartbeats 800000
namespace ML
open PySem L2
/-- the lines of all nights up to one -/
def tabS (S : Sn) (n : Nat) : List D := (List.range (n + 1)).map fun k => intsD (lineN S k)
def cnt (th : List Int) (l : Int) : Nat := (th.filter fun t => decide (t ≤ l)).length
def cellOf (U : Md) (l : Int) : List Mv := U.ce.getD (cnt U.th l) []
def stepF (S : Sn) (l : Int) (prev : List Int) (p : Mv × Nat) : Option (Int × Option Int) :=
  if l + p.1.sh = S.fl then some (p.2, none) else if l + p.1.sh = gi prev p.1.lead ∧ S.fl < l + p.1.sh ∧ p.1.fi < l + p.1.sh then some (p.2, some p.1.lead) else none
def stepsS (S : Sn) (U : Md) (l : Int) (prev : List Int) : List (Int × Option Int) :=
  if l ∈ U.th then [] else (cellOf U l).zipIdx.filterMap (stepF S l prev)
def stepD (p : Int × Option Int) : D := .tup [.int p.1, oD p.2]
def stsD (l : List (Int × Option Int)) : D := .lst (l.map stepD)
section
variable {c : Cs} {ws : List OO} {Q : D → List OO → Prop} {S : Sn} {U : Md} {v : Mv} {ls cur prev : List Int} {i l nn : Int} {n k : Nat} {ms : List Mv} {d : D} {ds tab : List D}
theorem r_first (w : S.Wf) : m_first_lines c [S.d c] ws = some (intsD (lineN S 0), ws) := by
  have hm := w.many
  apply gf_eq; unfold m_first_lines; simp
  rw [lc_map (f := Md.d) (y := fun _ => D.int S.fl) S.mo (by simp; omega) (fun a ha Q1 => by simp)]
  simp [lineN, Function.comp_def]
theorem r_sure (w : S.Wf) (hn : n ≤ 400) : m_sure_lines c [S.d c, .int n] ws = some (intsD (lineN S n), ws) := by
  have e : (n : Int) ≤ 400 := by omega
  have h1 : ∀ ws Q, Gf (m_first_lines c [S.d c] ws) Q = Q (intsD (lineN S 0)) ws := fun ws Q => gf_of (r_first w)
  have h2 : ∀ k ws Q, Gf (m_sure_step c [S.d c, intsD (lineN S k)] ws) Q = Q (intsD (lineN S (k + 1))) ws := fun k ws Q => gf_of (r_step w (lineN_len S k))
  apply gf_eq; unfold m_sure_lines; simp [↓h1, e]
  refine ⟨by omega, ?_⟩
  refine loop_inv _ (Iv := fun k env ws' => ws = ws' ∧ ∃ x3, env = [.val (S.d c), .val (.int n), .val (intsD (lineN S k)), x3]) (fun k d env ws' hd hi Q q => ?_) ⟨rfl, _, rfl⟩ fun env ws' hi => ?_
  · obtain ⟨rfl, x3, rfl⟩ := hi
    simp [↓h2]
    exact q _ _ ⟨rfl, _, rfl⟩
  · obtain ⟨rfl, x3, rfl⟩ := hi
    simp [rngD_len]
theorem tabS_len : (tabS S n).length = n + 1 := by simp [tabS]
theorem tabS_at {Q : D → Prop} (h : k ≤ n) : Is (atI (tabS S n) (k : Int)) Q = Q (intsD (lineN S k)) := by
  rw [atI_nat]
  unfold tabS
  rw [List.getElem?_map, List.getElem?_range (by omega)]
  rfl
@[simp ↓] theorem tabS_last {Q : D → Prop} : Is (atI (tabS S n) (-1)) Q = Q (intsD (lineN S n)) := by
  unfold atI ixN
  rw [tabS_len]
  simp only [show ¬ (0 : Int) ≤ -1 by omega, if_false, show -((n + 1 : Nat) : Int) ≤ -1 by omega, if_true]
  rw [show (-1 + ((n + 1 : Nat) : Int)).toNat = n by omega]
  unfold tabS
  simp
@[simp ↓] theorem tabS_cat {K : List D → Prop} : Cat (tabS S n) [intsD (lineN S (n + 1))] K = K (tabS S (n + 1)) := by
  unfold Cat tabS
  rw [List.range_succ (n := n + 1), List.map_append]
  rfl
theorem r_tab (w : S.Wf) (hn : n ≤ 400) : m_line_table c [S.d c, .int n] ws = some (.lst (tabS S n), ws) := by
  have h1 : ∀ ws Q, Gf (m_first_lines c [S.d c] ws) Q = Q (intsD (lineN S 0)) ws := fun ws Q => gf_of (r_first w)
  have h2 : ∀ k ws Q, Gf (m_sure_step c [S.d c, intsD (lineN S k)] ws) Q = Q (intsD (lineN S (k + 1))) ws := fun k ws Q => gf_of (r_step w (lineN_len S k))
  apply gf_eq; unfold m_line_table; simp [↓h1]
  refine ⟨by omega, ?_⟩
  rw [show [intsD (lineN S 0)] = tabS S 0 from rfl]
  refine loop_inv _ (Iv := fun k env ws' => ws = ws' ∧ ∃ x3, env = [.val (S.d c), .val (.int n), .own (.lst (tabS S k)), x3]) (fun k d env ws' hd hi Q q => ?_) ⟨rfl, _, rfl⟩ fun env ws' hi => ?_
  · obtain ⟨rfl, x3, rfl⟩ := hi
    have hk : k < n := by have := (List.getElem?_eq_some_iff.mp hd).1; simpa [rngD_len] using this
    simp [↓h2, tabS_len]
    exact ⟨by omega, q _ _ ⟨rfl, _, rfl⟩⟩
  · obtain ⟨rfl, x3, rfl⟩ := hi
    simp [rngD_len]
@[simp ↓] theorem lni_map {α : Type} {f : α → D} {l : List α} {K : Int → Prop} : LnI (l.map f) K = K (l.length : Int) := by unfold LnI; simp
theorem r_needl (h0 : 0 ≤ i) (h : i < S.mo.length) (hn : n ≤ 400) : m_need_line c [S.d c, .int i, .int n] ws = some (.non, ws) := by
  have e : (n : Int) ≤ 400 := by omega
  apply gf_eq; unfold m_need_line m_need_mode; simp [e, h0, h]
theorem r_heldt (w : S.Wf) (h0 : 0 ≤ i) (h : i < S.mo.length) (hn : n ≤ 400) (h1 : S.fl < gi (lineN S n) i) (h2 : gi (lineN S n) i ≤ S.ca) : m_held_table c [S.d c, .int i, .int n] ws = some (.lst (tabS S n), ws) := by
  have ht : ∀ ws Q, Gf (m_line_table c [S.d c, .int n] ws) Q = Q (.lst (tabS S n)) ws := fun ws Q => gf_of (r_tab w hn)
  have ha : ∀ Q : D → Prop, Is (atI (tabS S n) (n : Int)) Q = Q (intsD (lineN S n)) := fun Q => tabS_at (Nat.le_refl n)
  have hb : ∀ Q : D → Prop, Is (atI ((lineN S n).map D.int) i) Q = Q (.int (gi (lineN S n) i)) := fun Q => at_map h0 (gd_of h0 (by rw [lineN_len]; exact h))
  apply gf_eq; unfold m_held_table m_is_held; simp [↓ht, ↓ha, ↓hb, h1, h2]
theorem fvs_i : ∀ l : List Int, fvs (l.map D.int) = some (l.map V.int)
  | [] => rfl
  | x :: l => by simp only [List.map_cons, fvs, D.fv, fvs_i l]
theorem inV_i {x : Int} : ∀ l : List Int, L2.inV (.int x) (l.map V.int) = decide (x ∈ l)
  | [] => rfl
  | y :: l => by
    have h := inV_i (x := x) l
    unfold L2.inV at h ⊢
    rw [List.map_cons, List.any_cons, h]
    have e : eqV (.int y) (.int x) = decide (y = x) := rfl
    rw [e]
    by_cases z : y = x
    · subst z; simp
    · have z2 : ¬ x = y := fun q => z q.symm
      simp [z, z2]
theorem r_look (h0 : 0 ≤ i) (h : S.mo[i.toNat]? = some U) : m_is_look c [S.d c, .int i, .int l] ws = some (.bl (decide (l ∈ U.th)), ws) := by
  have hm : ∀ Q : D → Prop, Is (atI (S.mo.map Md.d) i) Q = Q U.d := fun Q => at_mode h0 h
  have hi : ∀ Q : Bool → Prop, Is (gInV (.int l) (intsD U.th) ws) Q = Q (decide (l ∈ U.th)) := fun Q => by
    show Is ((inD (.int l) (U.th.map D.int)).or _) Q = _
    unfold inD
    rw [fvs_i]
    simp only [D.fv]
    rw [inV_i]
    rfl
  apply gf_eq; unfold m_is_look; simp [↓hm, Md.d, ↓hi]
theorem r_cell (w : S.Wf) (h0 : 0 ≤ i) (h : S.mo[i.toNat]? = some U) : m_cell_at c [S.d c, .int i, .tup [.int l]] ws = some (.tup [.int (cnt U.th l)], ws) := by
  have hm : ∀ Q : D → Prop, Is (atI (S.mo.map Md.d) i) Q = Q U.d := fun Q => at_mode h0 h
  have hl := w.ths U (w.mode h)
  apply gf_eq; unfold m_cell_at; simp [↓hm, Md.d]
  rw [lc_gen (f := D.int) (y := D.int) (p := fun t => decide (t ≤ l)) U.th [] (by simp; omega) (fun a ha Q1 Q2 => by simp)]
  simp [cnt]
theorem r_cellnum (w : S.Wf) (h0 : 0 ≤ i) (h : S.mo[i.toNat]? = some U) {k : Int} : m_cell_number c [S.d c, .int i, .tup [.int k]] ws = some (.int k, ws) := by
  have hm : ∀ Q : D → Prop, Is (atI (S.mo.map Md.d) i) Q = Q U.d := fun Q => at_mode h0 h
  have hl := w.ths U (w.mode h)
  have hf : fits ((U.th.length : Int) + 1) = true := fits_lt (by omega) (by omega)
  apply gf_eq; unfold m_cell_number; simp [↓hm, Md.d, hf]
theorem cnt_le {th : List Int} : cnt th l ≤ th.length := by unfold cnt; exact List.length_filter_le _ _
theorem cellOf_mem (w : S.Wf) (h : S.mo[i.toNat]? = some U) : cellOf U l ∈ U.ce := by
  unfold cellOf
  have h1 := w.ces U (w.mode h)
  have h2 := cnt_le (l := l) (th := U.th)
  rw [List.getD_eq_getElem?_getD, List.getElem?_eq_getElem (by omega)]
  exact List.getElem_mem _
theorem r_moves (w : S.Wf) (h0 : 0 ≤ i) (h : S.mo[i.toNat]? = some U) : m_moves_at c [S.d c, .int i, .tup [.int l]] ws = some (cellD (cellOf U l), ws) := by
  have hm : ∀ Q : D → Prop, Is (atI (S.mo.map Md.d) i) Q = Q U.d := fun Q => at_mode h0 h
  have h1 : ∀ ws Q, Gf (m_cell_at c [S.d c, .int i, .tup [.int l]] ws) Q = Q (.tup [.int (cnt U.th l)]) ws := fun ws Q => gf_of (r_cell w h0 h)
  have h2 : ∀ ws Q, Gf (m_cell_number c [S.d c, .int i, .tup [.int (cnt U.th l)]] ws) Q = Q (.int (cnt U.th l)) ws := fun ws Q => gf_of (r_cellnum w h0 h)
  have h3 : ∀ Q : D → Prop, Is (atI (U.ce.map cellD) ((cnt U.th l : Nat) : Int)) Q = Q (cellD (cellOf U l)) := fun Q => by
    have h1 := w.ces U (w.mode h)
    have h2 := cnt_le (l := l) (th := U.th)
    refine at_map (by omega) ?_
    unfold cellOf
    rw [List.getD_eq_getElem?_getD, show ((cnt U.th l : Nat) : Int).toNat = cnt U.th l from rfl, List.getElem?_eq_getElem (by omega)]
    rfl
  apply gf_eq; unfold m_moves_at; simp [↓hm, ↓h1, ↓h2, ↓h3, Md.d]
end
end ML
set_option Elab.async false
set_option linter.all false
set_option maxRecDepth 100000
set_option maxHeartbeats 800000
namespace ML
open PySem L2
/-- steps found in the first moves -/
def accS (S : Sn) (l : Int) (prev : List Int) (L : List (Mv × Nat)) (k : Nat) : List D := ((L.take k).filterMap (stepF S l prev)).map stepD
section
variable {c : Cs} {ws : List OO} {Q : D → List OO → Prop} {S : Sn} {U : Md} {v : Mv} {ls cur prev : List Int} {i l nn : Int} {n k : Nat} {ms : List Mv} {d : D} {ds tab : List D} {L : List (Mv × Nat)} {p : Mv × Nat}
theorem accS_no (h : L[k]? = some p) (e : stepF S l prev p = none) : accS S l prev L (k + 1) = accS S l prev L k := by
  unfold accS
  rw [take_one h, List.filterMap_append]
  simp [e]
theorem accS_yes {s : Int × Option Int} (h : L[k]? = some p) (e : stepF S l prev p = some s) : accS S l prev L (k + 1) = accS S l prev L k ++ [stepD s] := by
  unfold accS
  rw [take_one h, List.filterMap_append]
  simp [e]
theorem accS_len : (accS S l prev L k).length ≤ k := by
  unfold accS
  rw [List.length_map]
  refine Nat.le_trans (List.length_filterMap_le _ _) ?_
  rw [List.length_take]; omega
theorem r_steps (w : S.Wf) (h0 : 0 ≤ i) (h : S.mo[i.toNat]? = some U) (hc : ∀ Q : D → Prop, Is (atI tab nn) Q = Q (intsD cur)) (hp : ∀ Q : D → Prop, Is (atI tab (nn - 1)) Q = Q (intsD prev)) (hcl : cur.length = S.mo.length) (hpl : prev.length = S.mo.length) :
    m_chain_steps c [S.d c, .lst tab, .int i, .int nn] ws = some (stsD (stepsS S U (gi cur i) prev), ws) := by
  have hil : i < S.mo.length := by have := (List.getElem?_eq_some_iff.mp h).1; omega
  have hb : ∀ Q : D → Prop, Is (atI (cur.map D.int) i) Q = Q (.int (gi cur i)) := fun Q => at_map h0 (gd_of h0 (by rw [hcl]; exact hil))
  have hl : ∀ l ws Q, Gf (m_is_look c [S.d c, .int i, .int l] ws) Q = Q (.bl (decide (l ∈ U.th))) ws := fun l ws Q => gf_of (r_look h0 h)
  have hm : ∀ l ws Q, Gf (m_moves_at c [S.d c, .int i, .tup [.int l]] ws) Q = Q (cellD (cellOf U l)) ws := fun l ws Q => gf_of (r_moves w h0 h)
  have hcm := cellOf_mem (l := gi cur i) w h
  have hml := w.mvs U (w.mode h) _ hcm
  have hle := w.lets
  apply gf_eq; unfold m_chain_steps; simp [↓hc, ↓hb, ↓hl]
  unfold stepsS
  by_cases z : gi cur i ∈ U.th
  · simp [z, stsD]
  · simp [z, ↓hm]
    rw [en0, enum_map]
    refine loop_inv _ (Iv := fun k env ws' => ws = ws' ∧ ∃ x7 x8 x9 x10 x11 x12, env = [.val (S.d c), .val (.lst tab), .val (.int i), .val (.int nn), .val (.int (gi cur i)), .own (.lst (accS S (gi cur i) prev (cellOf U (gi cur i)).zipIdx k)), .val (.int S.fl), x7, x8, x9, x10, x11, x12]) (fun k d env ws' hd hi Q q => ?_) ⟨rfl, _, _, _, _, _, _, rfl⟩ fun env ws' hi => ?_
    · obtain ⟨rfl, x7, x8, x9, x10, x11, x12, rfl⟩ := hi
      obtain ⟨p, hp2, rfl⟩ := map_at hd
      obtain ⟨v, at_⟩ := p
      have hv : v ∈ cellOf U (gi cur i) := by
        have := mem_of_get hp2
        exact List.fst_mem_of_mem_zipIdx this
      have hld := w.leads U (w.mode h) _ hcm v hv
      have hg : ∀ Q : D → Prop, Is (atI (prev.map D.int) v.lead) Q = Q (.int (gi prev v.lead)) := fun Q => at_map hld.1 (gd_of hld.1 (by rw [hpl]; exact hld.2))
      have hk : k < 10000 := by
        have := (List.getElem?_eq_some_iff.mp hp2).1
        rw [List.length_zipIdx] at this
        omega
      have hal := accS_len (S := S) (l := gi cur i) (prev := prev) (L := (cellOf U (gi cur i)).zipIdx) (k := k)
      have hal2 : (accS S (gi cur i) prev (cellOf U (gi cur i)).zipIdx k).length < 10000 := by omega
      by_cases a : gi cur i + v.sh = S.fl
      · have e := accS_yes hp2 (show stepF S (gi cur i) prev (v, at_) = some ((at_ : Int), none) by simp [stepF, a])
        simp [Mv.d, a, hal2]
        unfold Cat
        rw [e] at q
        exact q _ _ ⟨rfl, _, _, _, _, _, _, rfl⟩
      · by_cases b : gi cur i + v.sh = gi prev v.lead ∧ S.fl < gi cur i + v.sh ∧ v.fi < gi cur i + v.sh
        · have e := accS_yes hp2 (show stepF S (gi cur i) prev (v, at_) = some ((at_ : Int), some v.lead) by simp only [stepF, if_neg a, if_pos b])
          obtain ⟨b1, b2, b3⟩ := b
          rw [b1] at a b2 b3
          simp [Mv.d, ↓hp, ↓hg, b1, a, b2, b3, hal2]
          unfold Cat
          rw [e] at q
          exact q _ _ ⟨rfl, _, _, _, _, _, _, rfl⟩
        · have e := accS_no hp2 (show stepF S (gi cur i) prev (v, at_) = none by simp only [stepF, if_neg a, if_neg b])
          rw [e] at q
          by_cases b1 : gi cur i + v.sh = gi prev v.lead
          · by_cases b2 : S.fl < gi cur i + v.sh
            · have b3 : ¬ v.fi < gi cur i + v.sh := fun z => b ⟨b1, b2, z⟩
              simp only [b1] at a b2 b3
              simp [Mv.d, ↓hp, ↓hg, b1, a, b2, b3]
              exact q _ _ ⟨rfl, _, _, _, _, _, _, rfl⟩
            · simp only [b1] at a b2
              simp [Mv.d, ↓hp, ↓hg, b1, a, b2]
              exact q _ _ ⟨rfl, _, _, _, _, _, _, rfl⟩
          · simp [Mv.d, ↓hp, ↓hg, b1, a]
            exact q _ _ ⟨rfl, _, _, _, _, _, _, rfl⟩
    · obtain ⟨rfl, x7, x8, x9, x10, x11, x12, rfl⟩ := hi
      simp [accS, stsD]
      rw [List.take_of_length_le (by simp)]
end
end ML
set_option Elab.async false
set_option linter.all false
set_option maxRecDepth 100000
set_option maxHeartbeats 800000
namespace ML
open PySem L2
abbrev Stp := Int × Option Int
/-! ### sets of modes -/
def addO (acc : List Int) (p : Stp) : List Int := match p.2 with
  | none => acc
  | some b => addI acc b
def addAll (acc : List Int) (l : List Stp) : List Int := l.foldl addO acc
def addMs (f : Int → List Stp) (acc : List Int) (ms : List Int) : List Int := ms.foldl (fun acc m => addAll acc (f m)) acc
def nextM (f : Int → List Stp) (ms : List Int) : List Int := sortI (addMs f [] ms)
theorem addI_nodup {acc : List Int} {k : Int} (h : acc.Nodup) : (addI acc k).Nodup := by
  unfold addI
  split
  · exact h
  · rename_i z
    rw [List.nodup_append]
    refine ⟨h, by simp, fun a ha b hb e => ?_⟩
    rw [List.mem_singleton.mp hb] at e
    subst e
    exact z ha
theorem addI_mem {acc : List Int} {k x : Int} : x ∈ addI acc k ↔ x ∈ acc ∨ x = k := by
  unfold addI
  split
  · rename_i z
    constructor
    · exact .inl
    · rintro (h | rfl)
      · exact h
      · exact z
  · simp
theorem addO_mem {acc : List Int} {p : Stp} {x : Int} : x ∈ addO acc p ↔ x ∈ acc ∨ p.2 = some x := by
  obtain ⟨a, o⟩ := p
  cases o with
  | none => simp [addO]
  | some b => simp only [addO, addI_mem, Option.some.injEq]; constructor <;> (rintro (h | h) <;> simp [h])
theorem addO_nodup {acc : List Int} {p : Stp} (h : acc.Nodup) : (addO acc p).Nodup := by
  unfold addO
  split
  · exact h
  · exact addI_nodup h
theorem addAll_mem {x : Int} : ∀ {l : List Stp} {acc : List Int}, x ∈ addAll acc l ↔ x ∈ acc ∨ ∃ p ∈ l, p.2 = some x
  | [], acc => by simp [addAll]
  | p :: l, acc => by
    show x ∈ addAll (addO acc p) l ↔ _
    rw [addAll_mem, addO_mem]
    simp [or_assoc]
theorem addAll_nodup : ∀ {l : List Stp} {acc : List Int}, acc.Nodup → (addAll acc l).Nodup
  | [], acc, h => h
  | p :: l, acc, h => by
    show (addAll (addO acc p) l).Nodup
    exact addAll_nodup (addO_nodup h)
theorem addMs_mem {f : Int → List Stp} {x : Int} : ∀ {ms acc : List Int}, x ∈ addMs f acc ms ↔ x ∈ acc ∨ ∃ m ∈ ms, ∃ p ∈ f m, p.2 = some x
  | [], acc => by simp [addMs]
  | m :: ms, acc => by
    show x ∈ addMs f (addAll acc (f m)) ms ↔ _
    rw [addMs_mem, addAll_mem]
    simp [or_assoc]
theorem addMs_nodup {f : Int → List Stp} : ∀ {ms acc : List Int}, acc.Nodup → (addMs f acc ms).Nodup
  | [], acc, h => h
  | m :: ms, acc, h => by
    show (addMs f (addAll acc (f m)) ms).Nodup
    exact addMs_nodup (addAll_nodup h)
theorem insI_len {k : Int} : ∀ {l : List Int}, k ∉ l → (insI k l).length = l.length + 1
  | [], _ => rfl
  | j :: l, h => by
    unfold insI
    split
    · rfl
    · split
      · rename_i e; subst e; simp at h
      · have := insI_len (k := k) (l := l) fun z => h (List.mem_cons_of_mem _ z)
        simp [this]
theorem sortI_len : ∀ {l : List Int}, l.Nodup → (sortI l).length = l.length
  | [], _ => rfl
  | k :: l, h => by
    rw [List.nodup_cons] at h
    rw [sortI, insI_len (by rw [sortI_mem]; exact h.1), sortI_len h.2]
    simp
theorem up_len {b : Int} : ∀ {l : List Int} {a : Int}, l.Pairwise (· < ·) → (∀ x ∈ l, a ≤ x ∧ x < b) → (l.length : Int) ≤ max 0 (b - a)
  | [], a, _, _ => by simp; omega
  | x :: l, a, h, hb => by
    rw [List.pairwise_cons] at h
    have hx := hb x (List.mem_cons_self ..)
    have := up_len (l := l) (a := x + 1) h.2 fun y hy => ⟨by have := h.1 y hy; omega, (hb y (List.mem_cons_of_mem _ hy)).2⟩
    rw [List.length_cons]
    omega
theorem nd_len {l : List Int} {b : Int} (h : l.Nodup) (hb : ∀ x ∈ l, 0 ≤ x ∧ x < b) (h0 : 0 ≤ b) : (l.length : Int) ≤ b := by
  rw [← sortI_len h]
  have := up_len (l := sortI l) (a := 0) (b := b) sortI_up fun x hx => hb x ((sortI_mem (l := l)).mp hx)
  omega
theorem nextM_up {f : Int → List Stp} {ms : List Int} : (nextM f ms).Pairwise (· < ·) := sortI_up
theorem nextM_nodup {f : Int → List Stp} {ms : List Int} : (nextM f ms).Nodup := nextM_up.imp fun h e => by omega
theorem nextM_mem {f : Int → List Stp} {ms : List Int} {x : Int} : x ∈ nextM f ms ↔ ∃ m ∈ ms, ∃ p ∈ f m, p.2 = some x := by
  unfold nextM
  rw [sortI_mem, addMs_mem]
  simp
section
variable {c : Cs} {ws : List OO} {st tab : D} {f : Int → List Stp} {s0 s1 s2 s3 s4 s5 s6 s7 s8 : Sl} {b : Int}
abbrev g1S : Tg := mgTup 2 (mgCons (mgName 9) (mgCons (mgName 11) mgNil))
abbrev mt1S : M Bool := mTest (mOp gIsNot (mVar 11) (retM .non))
theorem loopS1_run {x10 : Sl} (hb : b ≤ 60) : ∀ (l : List Stp) (acc : List Int), acc.Nodup → (∀ x ∈ acc, 0 ≤ x ∧ x < b) → (∀ p ∈ l, ∀ x, p.2 = some x → 0 ≤ x ∧ x < b) → ∀ Q : List Int → Env → List OO → Prop,
    Go (loopS1 g1S mt1S (mVar 11) [9, 11] (l.map stepD) acc ⟨[s0, s1, s2, s3, s4, s5, s6, s7, s8, .no, x10, .no], ws⟩) Q = Q (addAll acc l) [s0, s1, s2, s3, s4, s5, s6, s7, s8, .no, x10, .no] ws
  | [], acc, h1, h2, h3, Q => by simp [addAll]
  | (a, o) :: l, acc, h1, h2, h3, Q => by
    have ih := fun acc h1 h2 Q => loopS1_run (x10 := x10) hb l acc h1 h2 (fun p hp => h3 p (List.mem_cons_of_mem _ hp)) Q
    show _ = Q (addAll (addO acc (a, o)) l) _ ws
    cases o with
    | none =>
      simp only [List.map_cons]
      simp [stepD]
      exact iff_of_eq (ih acc h1 h2 Q)
    | some x =>
      have hx := h3 (a, some x) (List.mem_cons_self ..) x rfl
      have hl : acc.length < 1000 := by
        by_cases z : 0 ≤ b
        · have := nd_len h1 h2 z; omega
        · omega
      have h4 : (addI acc x).Nodup := addI_nodup h1
      have h5 : ∀ y ∈ addI acc x, 0 ≤ y ∧ y < b := fun y hy => by
        rcases addI_mem.mp hy with h | rfl
        · exact h2 y h
        · exact hx
      simp only [List.map_cons]
      simp [stepD, hl]
      unfold Ad
      exact iff_of_eq (ih _ h4 h5 Q)
end
end ML
set_option Elab.async false
set_option linter.all false
set_option maxRecDepth 100000
set_option maxHeartbeats 800000
namespace ML
open PySem L2
section
variable {c : Cs} {ws : List OO} {st tab md nd : D} {f : Int → List Stp} {s0 s1 s2 s3 s4 s5 s6 s7 s8 : Sl} {b : Int} {g : Tg} {mt : M Bool} {mk me : M D} {vs : List Nat} {E : Env}
abbrev gS : Tg := mgTup 2 (mgCons (mgName 9) (mgCons (mgName 10) mgNil))
/-- a layer: the modes and how chains go on -/
def layD (f : Int → List Stp) (ms : List Int) : List (D × D) := ms.map fun m => (.int m, stsD (f m))
@[simp ↓ high] theorem pr_lay {ms : List Int} {K : List D → Prop} : Pr (ms.map fun a => (D.int a, stsD (f a))) K = K (pairsD (layD f ms)) := rfl
theorem loopS_run (hb : b ≤ 60) : ∀ (ms acc : List Int), acc.Nodup → (∀ x ∈ acc, 0 ≤ x ∧ x < b) → (∀ m ∈ ms, ∀ p ∈ f m, ∀ x, p.2 = some x → 0 ≤ x ∧ x < b) → ∀ Q : List Int → Env → List OO → Prop,
    Go (loopS gS mYes (mItems (mVar 10)) g1S mt1S (mVar 11) [9, 10, 11] [9, 11] (pairsD (layD f ms)) acc ⟨[s0, s1, s2, s3, s4, s5, s6, s7, s8, .no, .no, .no], ws⟩) Q = Q (addMs f acc ms) [s0, s1, s2, s3, s4, s5, s6, s7, s8, .no, .no, .no] ws
  | [], acc, h1, h2, h3, Q => by simp [addMs, layD, pairsD]
  | m :: ms, acc, h1, h2, h3, Q => by
    have ih := fun acc h1 h2 Q => loopS_run hb ms acc h1 h2 (fun m hm => h3 m (List.mem_cons_of_mem _ hm)) Q
    have hm := h3 m (List.mem_cons_self ..)
    show _ = Q (addMs f (addAll acc (f m)) ms) _ ws
    rw [show pairsD (layD f (m :: ms)) = .tup [.int m, stsD (f m)] :: pairsD (layD f ms) from rfl]
    have h4 : (addAll acc (f m)).Nodup := addAll_nodup h1
    have h5 : ∀ y ∈ addAll acc (f m), 0 ≤ y ∧ y < b := fun y hy => by
      rcases addAll_mem.mp hy with h | ⟨p, hp, e⟩
      · exact h2 y h
      · exact hm p hp y e
    rw [loopS_1]
    simp [stsD]
    rw [loopS1_run hb (f m) acc h1 h2 hm]
    simp
    exact iff_of_eq (ih _ h4 h5 Q)
/-- dict comprehensions over unlike ints -/
theorem put_new {acc : List (D × D)} {k : Int} {z : D} (h : ∀ kv ∈ acc, ∃ j : Int, kv.1 = .int j ∧ j ≠ k) : putD acc (.inl k) z = acc ++ [(.int k, z)] := by
  unfold putD
  rw [if_neg]
  · rfl
  · intro e
    rw [List.any_eq_true] at e
    obtain ⟨kv, h1, h2⟩ := e
    obtain ⟨j, hj, hne⟩ := h kv h1
    rw [hj] at h2
    have := of_decide_eq_true h2
    simp [D.key] at this
    exact hne this
theorem ld_map {y : Int → D} : ∀ (l : List Int) (acc : List (D × D)), l.Nodup → acc.length + l.length ≤ most → (∀ kv ∈ acc, ∃ j : Int, kv.1 = .int j ∧ j ∉ l) →
    (∀ a ∈ l, ∀ (Q1 : D → D → Env → List OO → Prop), Is (g (.int a) E) (fun env => Go (mk ⟨env, ws⟩) fun k env ws => Go (me ⟨env, ws⟩) fun z env ws => Wp env vs fun env => Q1 k z env ws) = Q1 (.int a) (y a) E ws) →
    ∀ Q : List (D × D) → Env → List OO → Prop, Go (loopD g mYes mk me vs (l.map D.int) acc ⟨E, ws⟩) Q = Q (acc ++ l.map fun a => (D.int a, y a)) E ws
  | [], acc, _, _, _, _, Q => by simp
  | a :: l, acc, hn, hl, hk, h, Q => by
    rw [List.length_cons] at hl
    rw [List.nodup_cons] at hn
    rw [List.map_cons, loopD_1]
    have hlt : acc.length < most := by omega
    have ha := h a (List.mem_cons_self ..) (fun k z env ws => Is k.key fun k => acc.length < most ∧ Go (loopD g mYes mk me vs (l.map D.int) (putD acc k z) ⟨env, ws⟩) Q)
    refine Eq.trans ?_ (Eq.trans ha ?_)
    · congr 1
    · rw [is_keyI, put_new (fun kv hkv => by
        obtain ⟨j, h1, h2⟩ := hk kv hkv
        exact ⟨j, h1, fun e => h2 (by rw [e]; exact List.mem_cons_self ..)⟩)]
      rw [ld_map l (acc ++ [(D.int a, y a)]) hn.2 (by rw [List.length_append, List.length_singleton]; omega) (fun kv hkv => by
        rcases List.mem_append.mp hkv with e | e
        · obtain ⟨j, h1, h2⟩ := hk kv e
          exact ⟨j, h1, fun z => h2 (List.mem_cons_of_mem _ z)⟩
        · rw [List.mem_singleton.mp e]
          exact ⟨a, rfl, hn.1⟩) (fun b hb => h b (List.mem_cons_of_mem _ hb)) Q]
      rw [List.map_cons, List.append_assoc]
      exact propext ⟨fun z => z.2, fun z => ⟨hlt, z⟩⟩
/-- one turn of chain_layers -/
abbrev BL (c : Cs) : M Fl :=
 (mSeq (mAsg (mFrz (mDc (mItems (mVar 5)) (mgName 8) mYes (mVar 8) (mCall 4 (m_chain_steps c) (mCons (mVar 0) (mCons (mVar 1) (mCons (mVar 8) (mCons (mVar 6) mNil))))) [8])) (mgName 7))
 (mSeq (mDrop (mAppV 4 (mVar 7)))
 (mSeq (mAsg (mFrz (mSortSc2 7 (mgTup 2 (mgCons (mgName 9) (mgCons (mgName 10) mgNil))) mYes (mItems (mVar 10)) (mgTup 2 (mgCons (mgName 9) (mgCons (mgName 11) mgNil))) (mTest (mOp gIsNot (mVar 11) (retM .non))) (mVar 11) [9, 10, 11] [9, 11])) (mgName 5))
 (mIf (mNot (mTruV 5))
 mBreak
 mNext))))
/-- the layers of chains; F k m: how they go on -/
def lays (F : Nat → Int → List Stp) : Nat → List Int → List D
  | 0, ms => [.dic (layD (F 0) ms)]
  | k + 1, ms => .dic (layD (F (k + 1)) ms) :: (if nextM (F (k + 1)) ms = [] then [] else lays F k (nextM (F (k + 1)) ms))
/-- chains end ahead of night 0 -/
structure Goes (F : Nat → Int → List Stp) (G : Nat → Int → Prop) (b : Int) : Prop where
  b60 : 0 ≤ b ∧ b ≤ 60
  none0 : ∀ m, ¬ G 0 m
  rng : ∀ k m, G k m → 0 ≤ m ∧ m < b
  next : ∀ k m, G (k + 1) m → ∀ p ∈ F (k + 1) m, ∀ x, p.2 = some x → G k x
theorem lays_loop {F : Nat → Int → List Stp} {G : Nat → Int → Prop} (hg : Goes F G b) {n : Nat} (hs : ∀ k m, k + 1 ≤ n → G (k + 1) m → ∀ ws, m_chain_steps c [st, tab, .int m, .int ((k + 1 : Nat) : Int)] ws = some (stsD (F (k + 1) m), ws)) :
    ∀ (k : Nat) (ms : List Int) (acc : List D) (x6 x7 : Sl) (Q : Fl → Env → List OO → Prop), k ≤ n → ms ≠ [] → ms.Nodup → (∀ m ∈ ms, G k m) → acc.length + k < 9000 →
    (∀ x5 x6 x7, Q .nx [.val st, .val tab, .val md, .val nd, .own (.lst (acc ++ lays F k ms)), x5, x6, x7, .no, .no, .no, .no] ws) →
    Go (loopM (mgName 6) (BL c) (dn k) ⟨[.val st, .val tab, .val md, .val nd, .own (.lst acc), .val (.lst (ms.map D.int)), x6, x7, .no, .no, .no, .no], ws⟩) Q := by
  intro k
  induction k with
  | zero =>
    intro ms acc x6 x7 Q h1 h2 h3 h4 h5 q
    cases ms with
    | nil => exact absurd rfl h2
    | cons m ms => exact absurd (h4 m (List.mem_cons_self ..)) (hg.none0 m)
  | succ k ih =>
    intro ms acc x6 x7 Q h1 h2 h3 h4 h5 q
    have hl : acc.length < 10000 := by omega
    have hml : ms.length ≤ most := by
      have := nd_len h3 (fun m hm => hg.rng _ m (h4 m hm)) hg.b60.1
      have := hg.b60.2
      simp; omega
    have hnx : ∀ m ∈ nextM (F (k + 1)) ms, G k m := fun x hx => by
      obtain ⟨m, hm, p, hp, e⟩ := nextM_mem.mp hx
      exact hg.next k m (h4 m hm) p hp x e
    have hrn : ∀ m ∈ ms, ∀ p ∈ F (k + 1) m, ∀ x, p.2 = some x → 0 ≤ x ∧ x < b := fun m hm p hp x e => hg.rng k x (hg.next k m (h4 m hm) p hp x e)
    have hmid : (addMs (F (k + 1)) [] ms).length < 64 := by
      have h6 := nd_len (addMs_nodup (f := F (k + 1)) (ms := ms) (acc := []) (by simp)) (b := b) (fun x hx => by
        rcases addMs_mem.mp hx with h | ⟨m, hm, p, hp, e⟩
        · simp at h
        · exact hrn m hm p hp x e) hg.b60.1
      have := hg.b60.2
      omega
    rw [show dn (k + 1) = .int ((k + 1 : Nat) : Int) :: dn k from rfl]
    have hk : ∀ m ∈ ms, ∀ ws Q, Gf (m_chain_steps c [st, tab, .int m, .int ((k + 1 : Nat) : Int)] ws) Q = Q (stsD (F (k + 1) m)) ws := fun m hm ws Q => gf_of (hs k m h1 (h4 m hm) ws)
    generalize ((k + 1 : Nat) : Int) = kk at *
    simp
    rw [ld_map (y := fun m => stsD (F (k + 1) m)) ms [] h3 (by simpa using hml) (by simp) (fun m hm Q1 => by
      have := hk m hm
      simp [↓this])]
    simp [hl]
    unfold Cat
    dsimp only
    rw [loopS_run hg.b60.2 ms [] (by simp) (by simp) hrn]
    simp [hmid]
    unfold So
    rw [show (sortI (addMs (F (k + 1)) [] ms)).map D.int = (nextM (F (k + 1)) ms).map D.int from rfl]
    by_cases z : nextM (F (k + 1)) ms = []
    · simp [z]
      have e : lays F (k + 1) ms = [.dic (layD (F (k + 1)) ms)] := by simp only [lays, z, if_true]
      rw [e] at q
      exact q _ _ _
    · have e : lays F (k + 1) ms = .dic (layD (F (k + 1)) ms) :: lays F k (nextM (F (k + 1)) ms) := by simp only [lays, z, if_false]
      rw [e] at q
      simp [z]
      refine ih _ _ _ _ _ (by omega) z nextM_nodup hnx (by simp; omega) fun x5 x6 x7 => ?_
      rw [List.append_assoc]
      exact q x5 x6 x7
end
end ML
set_option Elab.async false
set_option linter.all false
set_option maxRecDepth 100000
set_option maxHeartbeats 800000
namespace ML
open PySem L2
/-! ### how many chains end at the floor, how many at a look -/
def fAdd (C : Int → Int × Int) (a : Int) (p : Stp) : Int := match p.2 with
  | none => a
  | some b => a + (C b).1
def lAdd (C : Int → Int × Int) (a : Int) (p : Stp) : Int := match p.2 with
  | none => a
  | some b => a + (C b).2
def fSum (C : Int → Int × Int) (l : List Stp) : Int := l.foldl (fAdd C) (l.filter fun p => p.2.isNone).length
def lSum (C : Int → Int × Int) (l : List Stp) : Int := l.foldl (lAdd C) (if l = [] then 1 else 0)
def cN (F : Nat → Int → List Stp) : Nat → Int → Int × Int
  | 0, _ => (0, 0)
  | k + 1, m => (fSum (cN F k) (F (k + 1) m), lSum (cN F k) (F (k + 1) m))
def cT (F : Nat → Int → List Stp) (k : Nat) (m : Int) : D := .tup [.int (cN F k m).1, .int (cN F k m).2]
def cdic (F : Nat → Int → List Stp) (k : Nat) (ms : List Int) : D := .dic (ms.map fun m => (.int m, cT F k m))
/-- one turn of chain_count -/
abbrev BCi : M Fl :=
 (mSeq (mAsg (mCB gLen (mCons (mFrz (mLc (mItems (mVar 8)) (mgTup 2 (mgCons (mgName 11) (mgCons (mgName 12) mgNil))) (mTest (mOp gIs (mVar 12) (retM .non))) (mVar 12) [11, 12])) mNil)) (mgName 9))
 (mSeq (mAsg (mIf (mTruV 8) (retM (.int 0)) (retM (.int 1))) (mgName 10))
 (mSeq (mFor (mItems (mVar 8)) (mgTup 2 (mgCons (mgName 11) (mgCons (mgName 12) mgNil)))
 (mIf (mTest (mOp gIsNot (mVar 12) (retM .non)))
 (mSeq (mAsg (mOp gAdd (mVar 9) (mOp gIx (mIxV 4 (mVar 12)) (retM (.int 0)))) (mgName 9))
 (mAsg (mOp gAdd (mVar 10) (mOp gIx (mIxV 4 (mVar 12)) (retM (.int 1)))) (mgName 10)))
 mNext))
 (mDPutV 6 (mTup (mCons (mVar 9) (mCons (mVar 10) mNil))) (mVar 7)))))
abbrev BC : M Fl :=
 (mSeq (mOwn 6 mDicO)
 (mSeq (mForIt 5 (mgTup 2 (mgCons (mgName 7) (mgCons (mgName 8) mgNil))) BCi)
 (mAsg (mVar 6) (mgName 4))))
section
variable {c : Cs} {ws : List OO} {st tab md nd : D} {f : Int → List Stp} {F : Nat → Int → List Stp} {s0 s1 s2 s3 : D} {b : Int} {g : Tg} {mt : M Bool} {mk me : M D} {vs : List Nat} {E : Env} {l : List Stp} {nx : List Int} {k : Nat}
@[simp ↓] theorem is_sts {Q : List D → Prop} : Is (D.items (stsD l)) Q = Q (l.map stepD) := rfl
@[simp ↓] theorem is_truSt {Q : Bool → Prop} : Is (truD ws (stsD l)) Q = Q (!l.isEmpty) := by
  show Q (!(l.map stepD).isEmpty) = _
  cases l <;> rfl
@[simp ↓ high] theorem pr_lay2 {ms : List Int} {K : List D → Prop} : Pr (layD f ms) K = K (ms.map fun m => .tup [.int m, stsD (f m)]) := by
  unfold Pr pairsD layD
  rw [List.map_map]
  rfl
theorem find_map {y : Int → D} : ∀ (nx : List Int), b ∈ nx → (nx.map fun m => (D.int m, y m)).find? (fun kv => decide (kv.1.key = some (.inl b))) = some (D.int b, y b)
  | [], h => by simp at h
  | m :: nx, h => by
    rw [List.map_cons, List.find?_cons]
    by_cases z : m = b
    · subst z
      simp [D.key]
    · have h2 : b ∈ nx := by
        rcases List.mem_cons.mp h with e | e
        · exact absurd e.symm z
        · exact e
      have e1 : decide ((D.int m).key = some (Sum.inl b)) = false := by simp [D.key, z]
      simp only [e1]
      exact find_map nx h2
theorem ix_cdic (h : b ∈ nx) {Q : D → Prop} : Is (gIx (cdic F k nx) (.int b) ws) Q = Q (cT F k b) := by
  show Is (getD (nx.map fun m => (D.int m, cT F k m)) (.inl b)) Q = _
  unfold getD
  rw [find_map nx h]; rfl
theorem cnt_steps {x5 x6 x7 y11 y12 : Sl} {Q : Fl → Env → List OO → Prop} (hb : ∀ p ∈ l, ∀ x, p.2 = some x → x ∈ nx) (f0 l0 : Int) (q : ∀ y11 y12 : Sl, y11.free = true → y12.free = true → Q .nx [.val s0, .val s1, .val s2, .val s3, .val (cdic F k nx), x5, x6, x7, .val (stsD l), .val (.int (l.foldl (fAdd (cN F k)) f0)), .val (.int (l.foldl (lAdd (cN F k)) l0)), y11, y12] ws) (h1 : y11.free = true) (h2 : y12.free = true) :
    Go (loopM (mgTup 2 (mgCons (mgName 11) (mgCons (mgName 12) mgNil))) (mIf (mTest (mOp gIsNot (mVar 12) (retM .non)))
 (mSeq (mAsg (mOp gAdd (mVar 9) (mOp gIx (mIxV 4 (mVar 12)) (retM (.int 0)))) (mgName 9))
 (mAsg (mOp gAdd (mVar 10) (mOp gIx (mIxV 4 (mVar 12)) (retM (.int 1)))) (mgName 10)))
 mNext) (l.map stepD) ⟨[.val s0, .val s1, .val s2, .val s3, .val (cdic F k nx), x5, x6, x7, .val (stsD l), .val (.int f0), .val (.int l0), y11, y12], ws⟩) Q := by
  refine loop_inv _ (Iv := fun j env ws' => ws = ws' ∧ ∃ y11 y12 : Sl, y11.free = true ∧ y12.free = true ∧ env = [.val s0, .val s1, .val s2, .val s3, .val (cdic F k nx), x5, x6, x7, .val (stsD l), .val (.int ((l.take j).foldl (fAdd (cN F k)) f0)), .val (.int ((l.take j).foldl (lAdd (cN F k)) l0)), y11, y12]) (fun j d env ws' hd hi Q q => ?_) ⟨rfl, _, _, h1, h2, rfl⟩ fun env ws' hi => ?_
  · obtain ⟨rfl, y11, y12, h1, h2, rfl⟩ := hi
    obtain ⟨p, hp, rfl⟩ := map_at hd
    obtain ⟨a, o⟩ := p
    rw [take_one hp, List.foldl_append, List.foldl_append] at q
    generalize (l.take j).foldl (fAdd (cN F k)) f0 = A at *
    generalize (l.take j).foldl (lAdd (cN F k)) l0 = B at *
    cases o with
    | none =>
      simp [stepD]
      exact q _ _ ⟨rfl, _, _, rfl, rfl, rfl⟩
    | some x =>
      have hx := hb _ (mem_of_get hp) x rfl
      have hg : ∀ ws (Q : D → Prop), Is (gIx (cdic F k nx) (.int x) ws) Q = Q (cT F k x) := fun ws Q => ix_cdic hx
      simp [stepD, ↓hg, cT]
      exact q _ _ ⟨rfl, _, _, rfl, rfl, rfl⟩
  · obtain ⟨rfl, y11, y12, h1, h2, rfl⟩ := hi
    rw [List.length_map, List.take_of_length_le (Nat.le_refl _)]
    exact q _ _ h1 h2
end
end ML
set_option Elab.async false
set_option linter.all false
set_option maxRecDepth 100000
set_option maxHeartbeats 800000
namespace ML
open PySem L2
section
variable {c : Cs} {ws : List OO} {st tab md nd : D} {f : Int → List Stp} {F : Nat → Int → List Stp} {s0 s1 s2 s3 : D} {b : Int} {l : List Stp} {nx ms : List Int} {k n : Nat}
theorem dic_take {j : Nat} {m : Int} {z : D} {y : Int → D} {K : List (D × D) → Prop} (hn : ms.Nodup) (hm : ms[j]? = some m) (hz : z = y m) : Pd ((ms.map fun m => (D.int m, y m)).take j) (.inl m) z K = K ((ms.map fun m => (D.int m, y m)).take (j + 1)) := by
  subst hz
  unfold Pd
  rw [put_new, take_one (by rw [List.getElem?_map, hm]; rfl)]
  intro kv hkv
  rw [← List.map_take] at hkv
  obtain ⟨a, ha, rfl⟩ := List.mem_map.mp hkv
  refine ⟨a, rfl, fun e => ?_⟩
  subst e
  obtain ⟨i, hi⟩ := List.mem_iff_getElem?.mp ha
  rw [List.getElem?_take] at hi
  split at hi
  · rename_i hij
    have h1 := (List.getElem?_eq_some_iff.mp hi)
    have h2 := (List.getElem?_eq_some_iff.mp hm)
    obtain ⟨p1, q1⟩ := h1
    obtain ⟨p2, q2⟩ := h2
    exact (List.pairwise_iff_getElem.mp hn i j p1 p2 hij) (by rw [q1, q2])
  · cases hi
theorem cnt_layer {x6 x7 x8 x9 x10 y11 y12 : Sl} {Q : Fl → Env → List OO → Prop} (hn : ms.Nodup) (hl : ms.length ≤ 60) (hlen : ∀ m ∈ ms, (F (k + 1) m).length ≤ 60) (hb : ∀ m ∈ ms, ∀ p ∈ F (k + 1) m, ∀ x, p.2 = some x → x ∈ nx) (h1 : y11.free = true) (h2 : y12.free = true)
    (q : ∀ x5 x6 x7 x8 x9 x10 y11 y12 : Sl, y11.free = true → y12.free = true → Q .nx [.val s0, .val s1, .val s2, .val s3, .val (cdic F (k + 1) ms), x5, x6, x7, x8, x9, x10, y11, y12] ws) :
    Go (BC ⟨[.val s0, .val s1, .val s2, .val s3, .val (cdic F k nx), .val (.dic (layD (F (k + 1)) ms)), x6, x7, x8, x9, x10, y11, y12], ws⟩) Q := by
  simp
  refine loop_inv _ (Iv := fun j env ws' => ws = ws' ∧ ∃ x7 x8 x9 x10 y11 y12 : Sl, y11.free = true ∧ y12.free = true ∧ env = [.val s0, .val s1, .val s2, .val s3, .val (cdic F k nx), .val (.dic (layD (F (k + 1)) ms)), .own (.dic ((ms.map fun m => (D.int m, cT F (k + 1) m)).take j)), x7, x8, x9, x10, y11, y12]) (fun j d env ws' hd hi Q q => ?_) ⟨rfl, _, _, _, _, _, _, h1, h2, rfl⟩ fun env ws' hi => ?_
  · obtain ⟨rfl, x7, x8, x9, x10, y11, y12, h1, h2, rfl⟩ := hi
    obtain ⟨m, hm, rfl⟩ := map_at hd
    have hmm := mem_of_get hm
    have hb := hb m hmm
    have hj : j < 60 := by have := (List.getElem?_eq_some_iff.mp hm).1; omega
    simp [frK_of h1, frK_of h2]
    rw [lc_gen (f := stepD) (y := fun p => oD p.2) (p := fun p => p.2.isNone) (F (k + 1) m) [] (by have := hlen m hmm; simp; omega) (fun p hp Q1 Q2 => by
      obtain ⟨a, o⟩ := p
      cases o <;> simp [stepD])]
    have hlk1 : ∀ K : Env → Prop, ∀ e : Env, ∀ i, getK e i K (some y11) = Sv e i y11 K := fun K e i => rfl
    simp
    have fin : ∀ (f0 l0 : Int), f0 = ((F (k + 1) m).filter fun p => p.2.isNone).length → l0 = (if F (k + 1) m = [] then 1 else 0) → Go (loopM (mgTup 2 (mgCons (mgName 11) (mgCons (mgName 12) mgNil))) (mIf (mTest (mOp gIsNot (mVar 12) (retM .non)))
 (mSeq (mAsg (mOp gAdd (mVar 9) (mOp gIx (mIxV 4 (mVar 12)) (retM (.int 0)))) (mgName 9))
 (mAsg (mOp gAdd (mVar 10) (mOp gIx (mIxV 4 (mVar 12)) (retM (.int 1)))) (mgName 10)))
 mNext) ((F (k + 1) m).map stepD) ⟨[.val s0, .val s1, .val s2, .val s3, .val (cdic F k nx), .val (.dic (layD (F (k + 1)) ms)), .own (.dic ((ms.map fun m => (D.int m, cT F (k + 1) m)).take j)), .val (.int m), .val (stsD (F (k + 1) m)), .val (.int f0), .val (.int l0), y11, y12], ws⟩) fun f env ws => Fk Q (mDPutV 6 (mTup (mCons (mVar 9) (mCons (mVar 10) mNil))) (mVar 7)) env ws f := by
      rintro f0 l0 rfl rfl
      refine cnt_steps hb _ _ (fun y11 y12 h1 h2 => ?_) h1 h2
      have hpd : ∀ (K : List (D × D) → Prop), Pd ((ms.map fun m => (D.int m, cT F (k + 1) m)).take j) (.inl m) (.tup [.int (fSum (cN F k) (F (k + 1) m)), .int (lSum (cN F k) (F (k + 1) m))]) K = K ((ms.map fun m => (D.int m, cT F (k + 1) m)).take (j + 1)) := fun K => dic_take hn hm rfl
      unfold fSum lSum at hpd
      simp [↓hpd]
      exact ⟨by omega, q _ _ ⟨rfl, _, _, _, _, _, _, h1, h2, rfl⟩⟩
    by_cases z : F (k + 1) m = []
    · have := fin _ 1 rfl (by rw [if_pos z])
      simpa [z] using this
    · have := fin _ 0 rfl (by rw [if_neg z])
      simpa [z] using this
  · obtain ⟨rfl, x7, x8, x9, x10, y11, y12, h1, h2, rfl⟩ := hi
    have e : (ms.map fun m => (D.int m, cT F (k + 1) m)).take (ms.map fun m => D.tup [.int m, stsD (F (k + 1) m)]).length = ms.map fun m => (D.int m, cT F (k + 1) m) := by
      rw [List.take_of_length_le (by simp)]
    rw [e]
    simp
    exact q _ _ _ _ _ _ _ _ h1 h2
end
end ML
set_option Elab.async false
set_option linter.all false
set_option maxRecDepth 100000
set_option maxHeartbeats 800000
namespace ML
open PySem L2
section
variable {c : Cs} {ws : List OO} {st tab md nd : D} {f : Int → List Stp} {F : Nat → Int → List Stp} {G : Nat → Int → Prop} {s0 s1 s2 s3 : D} {b m nn : Int} {l : List Stp} {nx ms : List Int} {k n : Nat}
theorem rng_top (h : nn = ((n + 1 : Nat) : Int)) (hn : n + 1 ≤ 400) : rngD nn (-1) (nn + 1).toNat = .int nn :: dn n ∧ -1 ≤ nn ∧ nn.natAbs < 1152921504606846976 := by
  subst h
  refine ⟨?_, by omega, by omega⟩
  have := rng_dn (n + 1)
  rw [show (((n + 1 : Nat) : Int) + 1).toNat = n + 1 + 1 by omega]
  exact this
theorem r_layersG {tl : D} (hg : Goes F G b) (hn : n + 1 ≤ 400) (hs : ∀ k m, k + 1 ≤ n + 1 → G (k + 1) m → ∀ ws, m_chain_steps c [st, tl, .int m, .int ((k + 1 : Nat) : Int)] ws = some (stsD (F (k + 1) m), ws)) (hm : G (n + 1) m) :
    m_chain_layers c [st, tl, .int m, .int ((n + 1 : Nat) : Int)] ws = some (.lst (lays F (n + 1) [m]), ws) := by
  obtain ⟨r1, r2, r3⟩ := rng_top (n := n) rfl hn
  have r1' : rngD ((n + 1 : Nat) : Int) (-1) (((n + 1 : Nat) : Int) + 1).toNat = dn (n + 1) := r1
  apply gf_eq
  unfold m_chain_layers
  generalize hnn : ((n + 1 : Nat) : Int) = nn at *
  simp [r1', r2, r3]
  refine lays_loop hg hs (n + 1) [m] [] _ _ _ (Nat.le_refl _) (by simp) (by simp) (fun x hx => by rw [List.mem_singleton.mp hx]; exact hm) (by simp; omega) fun x5 x6 x7 => ?_
  simp
end
end ML
set_option Elab.async false
set_option linter.all false
set_option maxRecDepth 100000
set_option maxHeartbeats 800000
namespace ML
open PySem L2
section
variable {c : Cs} {ws : List OO} {st tl tab md nd : D} {f : Int → List Stp} {F : Nat → Int → List Stp} {G : Nat → Int → Prop} {s0 s1 s2 s3 : D} {b m nn : Int} {l : List Stp} {nx ms : List Int} {k n : Nat}
theorem cnt_one {x5 x6 x7 x8 x9 x10 y11 y12 : Sl} {tail : List D} {Q : Fl → Env → List OO → Prop} (hn : ms.Nodup) (hl : ms.length ≤ 60) (hlen : ∀ m ∈ ms, (F (k + 1) m).length ≤ 60) (hb : ∀ m ∈ ms, ∀ p ∈ F (k + 1) m, ∀ x, p.2 = some x → x ∈ nx) (h1 : y11.free = true) (h2 : y12.free = true)
    (q : ∀ x5 x6 x7 x8 x9 x10 y11 y12 : Sl, y11.free = true → y12.free = true → Go (loopM (mgName 5) BC tail ⟨[.val s0, .val s1, .val s2, .val s3, .val (cdic F (k + 1) ms), x5, x6, x7, x8, x9, x10, y11, y12], ws⟩) Q) :
    Go (loopM (mgName 5) BC (.dic (layD (F (k + 1)) ms) :: tail) ⟨[.val s0, .val s1, .val s2, .val s3, .val (cdic F k nx), x5, x6, x7, x8, x9, x10, y11, y12], ws⟩) Q := by
  rw [go_loop1, is_gName]
  exact cnt_layer (Q := fun f env ws => Lp Q (loopM (mgName 5) BC tail) env ws f) hn hl hlen hb h1 h2 q
theorem cnt_loop (hg : Goes F G b) (hF : ∀ k m, G (k + 1) m → (F (k + 1) m).length ≤ 60) {Q : Fl → Env → List OO → Prop} :
    ∀ (k : Nat) (ms : List Int) (tail : List D) (x5 x6 x7 x8 x9 x10 y11 y12 : Sl), ms ≠ [] → ms.Nodup → (∀ m ∈ ms, G k m) → y11.free = true → y12.free = true →
    (∀ x5 x6 x7 x8 x9 x10 y11 y12 : Sl, y11.free = true → y12.free = true → Go (loopM (mgName 5) BC tail ⟨[.val s0, .val s1, .val s2, .val s3, .val (cdic F k ms), x5, x6, x7, x8, x9, x10, y11, y12], ws⟩) Q) →
    Go (loopM (mgName 5) BC ((lays F k ms).reverse ++ tail) ⟨[.val s0, .val s1, .val s2, .val s3, .val (.dic []), x5, x6, x7, x8, x9, x10, y11, y12], ws⟩) Q := by
  intro k
  induction k with
  | zero =>
    intro ms tail x5 x6 x7 x8 x9 x10 y11 y12 h1 h2 h3 h4 h5 q
    cases ms with
    | nil => exact absurd rfl h1
    | cons m ms => exact absurd (h3 m (List.mem_cons_self ..)) (hg.none0 m)
  | succ k ih =>
    intro ms tail x5 x6 x7 x8 x9 x10 y11 y12 h1 h2 h3 h4 h5 q
    have hml : ms.length ≤ 60 := by
      have := nd_len h2 (fun m hm => hg.rng _ m (h3 m hm)) hg.b60.1
      have := hg.b60.2
      omega
    have hmx : ∀ m ∈ ms, ∀ p ∈ F (k + 1) m, ∀ x, p.2 = some x → x ∈ nextM (F (k + 1)) ms := fun m hm p hp x e => nextM_mem.mpr ⟨m, hm, p, hp, e⟩
    by_cases z : nextM (F (k + 1)) ms = []
    · have e : lays F (k + 1) ms = [.dic (layD (F (k + 1)) ms)] := by simp only [lays, z, if_true]
      rw [e]
      rw [z] at hmx
      exact cnt_one (k := k) (nx := []) h2 hml (fun m hm => hF k m (h3 m hm)) hmx h4 h5 q
    · have e : lays F (k + 1) ms = .dic (layD (F (k + 1)) ms) :: lays F k (nextM (F (k + 1)) ms) := by simp only [lays, z, if_false]
      rw [e, List.reverse_cons, List.append_assoc]
      refine ih _ _ _ _ _ _ _ _ _ _ z nextM_nodup (fun x hx => ?_) h4 h5 fun x5 x6 x7 x8 x9 x10 y11 y12 h4 h5 => ?_
      · obtain ⟨m, hm, p, hp, e⟩ := nextM_mem.mp hx
        exact hg.next k m (h3 m hm) p hp x e
      · exact cnt_one h2 hml (fun m hm => hF k m (h3 m hm)) hmx h4 h5 q
theorem r_countG (hg : Goes F G b) (hF : ∀ k m, G (k + 1) m → (F (k + 1) m).length ≤ 60) (hn : n + 1 ≤ 400) (hs : ∀ k m, k + 1 ≤ n + 1 → G (k + 1) m → ∀ ws, m_chain_steps c [st, tl, .int m, .int ((k + 1 : Nat) : Int)] ws = some (stsD (F (k + 1) m), ws)) (hm : G (n + 1) m)
    (hl : ∀ ws, m_need_line c [st, .int m, .int ((n + 1 : Nat) : Int)] ws = some (.non, ws)) (ht : ∀ ws, m_held_table c [st, .int m, .int ((n + 1 : Nat) : Int)] ws = some (tl, ws)) :
    m_chain_count c [st, .int m, .int ((n + 1 : Nat) : Int)] ws = some (cT F (n + 1) m, ws) := by
  have h1 : ∀ ws Q, Gf (m_need_line c [st, .int m, .int ((n + 1 : Nat) : Int)] ws) Q = Q .non ws := fun ws Q => gf_of (hl ws)
  have h2 : ∀ ws Q, Gf (m_held_table c [st, .int m, .int ((n + 1 : Nat) : Int)] ws) Q = Q tl ws := fun ws Q => gf_of (ht ws)
  have h3 : ∀ ws Q, Gf (m_chain_layers c [st, tl, .int m, .int ((n + 1 : Nat) : Int)] ws) Q = Q (.lst (lays F (n + 1) [m])) ws := fun ws Q => gf_of (r_layersG hg hn hs hm)
  apply gf_eq
  unfold m_chain_count
  generalize hnn : ((n + 1 : Nat) : Int) = nn at *
  simp [↓h1, ↓h2, ↓h3]
  have key : ∀ Q, (∀ x5 x6 x7 x8 x9 x10 y11 y12 : Sl, Q .nx [.val st, .val (.int m), .val (.int nn), .val tl, .val (cdic F (n + 1) [m]), x5, x6, x7, x8, x9, x10, y11, y12] ws) → Go (loopM (mgName 5) BC (lays F (n + 1) [m]).reverse ⟨[.val st, .val (.int m), .val (.int nn), .val tl, .val (.dic []), .no, .no, .no, .no, .no, .no, .no, .no], ws⟩) Q := fun Q q => by
    have := cnt_loop (ws := ws) (s0 := st) (s1 := .int m) (s2 := .int nn) (s3 := tl) (Q := Q) hg hF (n + 1) [m] [] .no .no .no .no .no .no .no .no (by simp) (by simp) (fun x hx => by rw [List.mem_singleton.mp hx]; exact hm) rfl rfl (fun x5 x6 x7 x8 x9 x10 y11 y12 _ _ => q _ _ _ _ _ _ _ _)
    rw [List.append_nil] at this
    exact this
  refine key _ fun x5 x6 x7 x8 x9 x10 y11 y12 => ?_
  have hg2 : ∀ ws (Q : D → Prop), Is (gIx (cdic F (n + 1) [m]) (.int m) ws) Q = Q (cT F (n + 1) m) := fun ws Q => ix_cdic (by simp)
  simp [↓hg2]
end
end ML
set_option Elab.async false
set_option linter.all false
set_option maxRecDepth 100000
set_option maxHeartbeats 800000
namespace ML
open PySem L2
/-! ### a told chain -/
def pathN (F : Nat → Int → List Stp) : Nat → Int → List Int × Bool
  | 0, _ => ([], false)
  | k + 1, m => match F (k + 1) m with
    | [] => ([], false)
    | (a, none) :: _ => ([a], true)
    | (a, some x) :: _ => (a :: (pathN F k x).1, (pathN F k x).2)
section
variable {c : Cs} {ws : List OO} {st tl tab md nd : D} {f : Int → List Stp} {F : Nat → Int → List Stp} {G : Nat → Int → Prop} {s0 s1 s2 s3 : D} {b m nn : Int} {l : List Stp} {nx ms : List Int} {k n : Nat}
abbrev BP (c : Cs) : M Fl :=
 (mSeq (mAsg (mCall 4 (m_chain_steps c) (mCons (mVar 0) (mCons (mVar 3) (mCons (mVar 1) (mCons (mVar 5) mNil))))) (mgName 6))
 (mSeq (mIf (mNot (mTruV 6))
 mBreak
 mNext)
 (mSeq (mAsg (mIxV 6 (retM (.int 0))) (mgTup 2 (mgCons (mgName 7) (mgCons (mgName 1) mgNil))))
 (mSeq (mDrop (mAppV 4 (mVar 7)))
 (mIf (mTest (mOp gIs (mVar 1) (retM .non)))
 (mRet (mTup (mCons (retM (.str "floor")) (mCons (mCB gTuple (mCons (mVar 4) mNil)) mNil))))
 mNext)))))
theorem paper_loop (hg : Goes F G b) (hn : n ≤ 400) (hs : ∀ k m, k + 1 ≤ n → G (k + 1) m → ∀ ws, m_chain_steps c [st, tl, .int m, .int ((k + 1 : Nat) : Int)] ws = some (stsD (F (k + 1) m), ws)) {Q : Fl → Env → List OO → Prop} :
    ∀ (k : Nat) (m : Int) (acc : List Int) (x5 x6 x7 : Sl), k ≤ n → G k m → acc.length + k ≤ 400 →
    ((pathN F k m).2 = true → ∀ env, Q (.rt (.tup [.str "floor", intsD (acc ++ (pathN F k m).1)])) env ws) →
    ((pathN F k m).2 = false → ∀ x1 x5 x6 x7, Q .nx [.val st, x1, .val nd, .val tl, .own (.lst ((acc ++ (pathN F k m).1).map D.int)), x5, x6, x7] ws) →
    Go (loopM (mgName 5) (BP c) (dn k) ⟨[.val st, .val (.int m), .val nd, .val tl, .own (.lst (acc.map D.int)), x5, x6, x7], ws⟩) Q := by
  intro k
  induction k with
  | zero =>
    intro m acc x5 x6 x7 h1 h2
    exact absurd h2 (hg.none0 m)
  | succ k ih =>
    intro m acc x5 x6 x7 h1 h2 h3 q1 q2
    have hl : acc.length < 10000 := by omega
    have h' : ∀ ws Q, Gf (m_chain_steps c [st, tl, .int m, .int ((k + 1 : Nat) : Int)] ws) Q = Q (stsD (F (k + 1) m)) ws := fun ws Q => gf_of (hs k m h1 h2 ws)
    rw [show dn (k + 1) = .int ((k + 1 : Nat) : Int) :: dn k from rfl]
    have hnx := hg.next k m h2
    generalize ((k + 1 : Nat) : Int) = kk at *
    unfold pathN at q1 q2
    cases e : F (k + 1) m with
    | nil =>
      rw [e] at q1 q2 h'
      simp [↓h']
      have := q2 rfl
      rw [List.append_nil] at this
      exact this _ _ _ _
    | cons p r =>
      obtain ⟨a, o⟩ := p
      rw [e] at q1 q2 h' hnx
      have hsx : ∀ (Q : D → Prop) ws, Is (gIx (stsD ((a, o) :: r)) (.int 0) ws) Q = Q (.tup [.int a, oD o]) := fun Q ws => by
        show Is (atI (stepD (a, o) :: r.map stepD) 0) Q = _
        rw [is_at0]; rfl
      cases o with
      | none =>
        simp [↓h', ↓hsx, hl]
        unfold Cat
        rw [show acc.map D.int ++ [D.int a] = (acc ++ [a]).map D.int by simp]
        exact q1 rfl _
      | some x =>
        have hx := hnx (a, some x) (List.mem_cons_self ..) x rfl
        simp [↓h', ↓hsx, hl]
        unfold Cat
        rw [show acc.map D.int ++ [D.int a] = (acc ++ [a]).map D.int by simp]
        refine ih x (acc ++ [a]) _ _ _ (by omega) hx (by rw [List.length_append, List.length_singleton]; omega) (fun z env => ?_) (fun z x1 x5 x6 x7 => ?_)
        · have := q1 z env
          rw [List.append_assoc]
          exact this
        · have := q2 z x1 x5 x6 x7
          rw [List.append_assoc]
          exact this
theorem r_paperG (hg : Goes F G b) (hn : n + 1 ≤ 400) (hs : ∀ k m, k + 1 ≤ n + 1 → G (k + 1) m → ∀ ws, m_chain_steps c [st, tl, .int m, .int ((k + 1 : Nat) : Int)] ws = some (stsD (F (k + 1) m), ws)) (hm : G (n + 1) m)
    (hl : ∀ ws, m_need_line c [st, .int m, .int ((n + 1 : Nat) : Int)] ws = some (.non, ws)) (ht : ∀ ws, m_held_table c [st, .int m, .int ((n + 1 : Nat) : Int)] ws = some (tl, ws)) :
    m_chain_paper c [st, .int m, .int ((n + 1 : Nat) : Int)] ws = some (.tup [.str (if (pathN F (n + 1) m).2 = true then "floor" else "look"), intsD (pathN F (n + 1) m).1], ws) := by
  have h1 : ∀ ws Q, Gf (m_need_line c [st, .int m, .int ((n + 1 : Nat) : Int)] ws) Q = Q .non ws := fun ws Q => gf_of (hl ws)
  have h2 : ∀ ws Q, Gf (m_held_table c [st, .int m, .int ((n + 1 : Nat) : Int)] ws) Q = Q tl ws := fun ws Q => gf_of (ht ws)
  obtain ⟨r1, r2, r3⟩ := rng_top (n := n) rfl hn
  have r1' : rngD ((n + 1 : Nat) : Int) (-1) (((n + 1 : Nat) : Int) + 1).toNat = dn (n + 1) := r1
  apply gf_eq
  unfold m_chain_paper
  generalize hnn : ((n + 1 : Nat) : Int) = nn at *
  simp [↓h1, ↓h2, r1', r2, r3]
  refine paper_loop hg hn hs (n + 1) m [] _ _ _ (Nat.le_refl _) hm (by simp; omega) (fun z env => ?_) (fun z x1 x5 x6 x7 => ?_)
  · simp [z]
  · simp [z]
/-! ### whether a fate is a chain -/
def walkN (F : Nat → Int → List Stp) : Nat → Int → List Int → Except Bool (Nat × Int)
  | k, m, [] => .ok (k, m)
  | 0, _, _ :: _ => .error false
  | k + 1, m, a :: fate => match (F (k + 1) m).filter (fun p => decide (p.1 = a)) with
    | [] => .error false
    | (_, none) :: _ => .error fate.isEmpty
    | (_, some x) :: _ => walkN F k x fate
theorem walk_nil : walkN F k m [] = .ok (k, m) := by cases k <;> simp [walkN]
abbrev BE (c : Cs) : M Fl :=
 (mSeq (mAsg (mFrz (mLc (mItems (mCall 4 (m_chain_steps c) (mCons (mVar 0) (mCons (mVar 1) (mCons (mVar 2) (mCons (mVar 3) mNil)))))) (mgTup 2 (mgCons (mgName 8) (mgCons (mgName 9) mgNil))) (mTest (mOp gEq (mVar 8) (mVar 6))) (mVar 9) [8, 9])) (mgName 7))
 (mSeq (mIf (mNot (mTruV 7))
 (mRet (retM .non))
 mNext)
 (mSeq (mAsg (mIxV 7 (retM (.int 0))) (mgName 2))
 (mSeq (mAsg (mOp gSubI (mVar 3) (retM (.int 1))) (mgName 3))
 (mIf (mTest (mOp gIs (mVar 2) (retM .non)))
 (mRet (mIf (mTest (mOp gEq (mVar 5) (mOp gSubI (mLenV 4) (retM (.int 1))))) (retM (.str "floor")) (retM .non)))
 mNext)))))
theorem end_loop (hg : Goes F G b) (hF : ∀ k m, G (k + 1) m → (F (k + 1) m).length ≤ 60) (hs : ∀ k m, k + 1 ≤ n → G (k + 1) m → ∀ ws, m_chain_steps c [st, tl, .int m, .int ((k + 1 : Nat) : Int)] ws = some (stsD (F (k + 1) m), ws)) {fate : List Int} {Q : Fl → Env → List OO → Prop} :
    ∀ (rest : List Int) (k : Nat) (m : Int) (i : Nat) (x5 x6 x7 : Sl), k ≤ n → G k m → fate.length = i + rest.length →
    (∀ e, walkN F k m rest = .error e → ∀ env, Q (.rt (if e = true then .str "floor" else .non)) env ws) →
    (∀ k' m', walkN F k m rest = .ok (k', m') → k' ≤ n → G k' m' → ∀ x5 x6 x7, Q .nx [.val st, .val tl, .val (.int m'), .val (.int k'), .val (intsD fate), x5, x6, x7, .no, .no] ws) →
    Go (loopM (mgTup 2 (mgCons (mgName 5) (mgCons (mgName 6) mgNil))) (BE c) (enumFrom i (rest.map D.int)) ⟨[.val st, .val tl, .val (.int m), .val (.int k), .val (intsD fate), x5, x6, x7, .no, .no], ws⟩) Q
  | [], k, m, i, x5, x6, x7, h1, h2, h3, q1, q2 => by
    exact q2 k m walk_nil h1 h2 _ _ _
  | a :: rest, 0, m, i, x5, x6, x7, h1, h2, h3, q1, q2 => absurd h2 (hg.none0 m)
  | a :: rest, k + 1, m, i, x5, x6, x7, h1, h2, h3, q1, q2 => by
    have h' : ∀ ws Q, Gf (m_chain_steps c [st, tl, .int m, .int ((k + 1 : Nat) : Int)] ws) Q = Q (stsD (F (k + 1) m)) ws := fun ws Q => gf_of (hs k m h1 h2 ws)
    have hlen := hF k m h2
    have hk : ((k + 1 : Nat) : Int) - 1 = (k : Int) := by omega
    have ih := end_loop hg hF hs (fate := fate) (Q := Q) rest
    have hnx := hg.next k m h2
    show Go (loopM _ _ (.tup [.int (i : Int), .int a] :: enumFrom (i + 1) (rest.map D.int)) _) Q
    rw [List.length_cons] at h3
    generalize hkk : ((k + 1 : Nat) : Int) = kk at *
    simp [↓h']
    rw [lc_gen (f := stepD) (y := fun p => oD p.2) (p := fun p => decide (p.1 = a)) (F (k + 1) m) [] (by simp; omega) (fun p hp Q1 Q2 => by
      obtain ⟨a', o⟩ := p
      by_cases z : a' = a <;> simp [stepD, z])]
    unfold walkN at q1 q2
    cases e : (F (k + 1) m).filter (fun p => decide (p.1 = a)) with
    | nil =>
      rw [e] at q1 q2
      simp [e]
      exact q1 false rfl _
    | cons p r =>
      obtain ⟨a', o⟩ := p
      have hp : (a', o) ∈ F (k + 1) m := by
        have : (a', o) ∈ (F (k + 1) m).filter (fun p => decide (p.1 = a)) := by rw [e]; exact List.mem_cons_self ..
        exact (List.mem_filter.mp this).1
      rw [e] at q1 q2
      cases o with
      | none =>
        have := q1 rest.isEmpty rfl
        cases rest with
        | nil =>
          have hi : (i : Int) = (fate.length : Int) - 1 := by simp at h3; omega
          simp [e, LnI, hi]
          exact this _
        | cons x rest =>
          have hi : ¬ (i : Int) = (fate.length : Int) - 1 := by simp at h3; omega
          simp [e, LnI, hi]
          exact this _
      | some x =>
        have hx := hnx _ hp x rfl
        simp [e, hk]
        exact ih k x (i + 1) _ _ _ (by omega) hx (by omega) q1 q2
end
end ML
set_option Elab.async false
set_option linter.all false
set_option maxRecDepth 100000
set_option maxHeartbeats 800000
namespace ML
open PySem L2
/-! ### chains of a station -/
def FS (S : Sn) (k : Nat) (m : Int) : List Stp := match S.mo[m.toNat]? with
  | some U => stepsS S U (gi (lineN S k) m) (lineN S (k - 1))
  | none => []
def GS (S : Sn) (k : Nat) (m : Int) : Prop := 1 ≤ k ∧ 0 ≤ m ∧ m < S.mo.length ∧ S.fl < gi (lineN S k) m
def lookS (S : Sn) (k : Nat) (m : Int) : Bool := match S.mo[m.toNat]? with
  | some U => decide (gi (lineN S k) m ∈ U.th)
  | none => false
def endR (S : Sn) (n : Nat) (m : Int) (fate : List Int) : Option Bool := match walkN (FS S) n m fate with
  | .error true => some true
  | .error false => none
  | .ok (k, m) => if lookS S k m = true then some false else none
section
variable {c : Cs} {ws : List OO} {S : Sn} {U : Md} {m : Int} {k n N : Nat} {fate : List Int}
theorem mode_at (h0 : 0 ≤ m) (h : m < S.mo.length) : ∃ U, S.mo[m.toNat]? = some U := ⟨S.mo[m.toNat]'(by omega), List.getElem?_eq_getElem (by omega)⟩
theorem gi0 (h0 : 0 ≤ m) (h : m < S.mo.length) : gi (lineN S 0) m = S.fl := by
  unfold gi lineN
  rw [List.getD_eq_getElem?_getD, List.getElem?_map]
  obtain ⟨U, hU⟩ := mode_at h0 h
  rw [hU]; rfl
theorem stepsS_mem {l : Int} {prev : List Int} {p : Stp} (h : p ∈ stepsS S U l prev) : ∃ v at_, (v, at_) ∈ (cellOf U l).zipIdx ∧ stepF S l prev (v, at_) = some p := by
  unfold stepsS at h
  split at h
  · simp at h
  · obtain ⟨⟨v, at_⟩, h1, h2⟩ := List.mem_filterMap.mp h
    exact ⟨v, at_, h1, h2⟩
theorem goesS (w : S.Wf) : Goes (FS S) (GS S) S.mo.length := by
  have hm := w.many
  refine ⟨by omega, fun m h => by have := h.1; omega, fun k m h => ⟨h.2.1, h.2.2.1⟩, fun k m h p hp x e => ?_⟩
  obtain ⟨_, h0, h1, h2⟩ := h
  obtain ⟨U, hU⟩ := mode_at h0 h1
  unfold FS at hp
  rw [hU] at hp
  obtain ⟨v, at_, h3, h4⟩ := stepsS_mem hp
  have hv : v ∈ cellOf U (gi (lineN S (k + 1)) m) := List.fst_mem_of_mem_zipIdx h3
  have hld := w.leads U (w.mode hU) _ (cellOf_mem w hU) v hv
  unfold stepF at h4
  simp only at h4
  split at h4
  · cases h4; cases e
  · split at h4
    · rename_i h5
      cases h4
      cases e
      rw [show k + 1 - 1 = k from rfl] at h5
      refine ⟨?_, hld.1, hld.2, by omega⟩
      cases k with
      | zero => rw [gi0 hld.1 hld.2] at h5; omega
      | succ k => omega
    · cases h4
theorem lenS (w : S.Wf) (k : Nat) (m : Int) (h : GS S (k + 1) m) : (FS S (k + 1) m).length ≤ 60 := by
  obtain ⟨_, h0, h1, h2⟩ := h
  obtain ⟨U, hU⟩ := mode_at h0 h1
  unfold FS
  rw [hU]
  simp only
  unfold stepsS
  split
  · simp
  · refine Nat.le_trans (List.length_filterMap_le _ _) ?_
    rw [List.length_zipIdx]
    have := w.mvs U (w.mode hU) _ (cellOf_mem (l := gi (lineN S (k + 1)) m) w hU)
    have := w.lets
    omega
theorem stS (w : S.Wf) (k : Nat) (m : Int) (hk : k + 1 ≤ N) (h : GS S (k + 1) m) (ws : List OO) : m_chain_steps c [S.d c, .lst (tabS S N), .int m, .int ((k + 1 : Nat) : Int)] ws = some (stsD (FS S (k + 1) m), ws) := by
  obtain ⟨_, h0, h1, h2⟩ := h
  obtain ⟨U, hU⟩ := mode_at h0 h1
  have hc : ∀ Q : D → Prop, Is (atI (tabS S N) ((k + 1 : Nat) : Int)) Q = Q (intsD (lineN S (k + 1))) := fun Q => tabS_at hk
  have hp : ∀ Q : D → Prop, Is (atI (tabS S N) (((k + 1 : Nat) : Int) - 1)) Q = Q (intsD (lineN S k)) := fun Q => by
    rw [show ((k + 1 : Nat) : Int) - 1 = (k : Int) by omega]
    exact tabS_at (by omega)
  have := r_steps (c := c) (ws := ws) w h0 hU hc hp (lineN_len S _) (lineN_len S _)
  unfold FS
  rw [hU]
  exact this
section
variable (w : S.Wf) (hn : n + 1 ≤ 400) (h0 : 0 ≤ m) (h1 : m < S.mo.length) (h2 : S.fl < gi (lineN S (n + 1)) m) (h3 : gi (lineN S (n + 1)) m ≤ S.ca)
include w hn h0 h1 h2 h3
theorem r_countS : m_chain_count c [S.d c, .int m, .int ((n + 1 : Nat) : Int)] ws = some (cT (FS S) (n + 1) m, ws) :=
  r_countG (goesS w) (lenS w) hn (fun k m hk h ws => stS w k m hk h ws) ⟨by omega, h0, h1, h2⟩ (fun ws => r_needl h0 h1 hn) (fun ws => r_heldt w h0 h1 hn h2 h3)
theorem r_paperS : m_chain_paper c [S.d c, .int m, .int ((n + 1 : Nat) : Int)] ws = some (.tup [.str (if (pathN (FS S) (n + 1) m).2 = true then "floor" else "look"), intsD (pathN (FS S) (n + 1) m).1], ws) :=
  r_paperG (goesS w) hn (fun k m hk h ws => stS w k m hk h ws) ⟨by omega, h0, h1, h2⟩ (fun ws => r_needl h0 h1 hn) (fun ws => r_heldt w h0 h1 hn h2 h3)
end
def endD : Option Bool → D
  | none => .non
  | some true => .str "floor"
  | some false => .str "look"
@[simp ↓] theorem is_tyS {x : Str} (Q : String → Prop) : Is (D.tyn ws (.str x)) Q = Q "str" := rfl
theorem r_endS (w : S.Wf) (hn : n + 1 ≤ 400) (h0 : 0 ≤ m) (h1 : m < S.mo.length) (h2 : S.fl < gi (lineN S (n + 1)) m) :
    m_chain_end c [S.d c, .lst (tabS S (n + 1)), .int m, .int ((n + 1 : Nat) : Int), intsD fate] ws = some (endD (endR S (n + 1) m fate), ws) := by
  have hG : GS S (n + 1) m := ⟨by omega, h0, h1, h2⟩
  have key := fun Q => end_loop (c := c) (ws := ws) (st := S.d c) (tl := .lst (tabS S (n + 1))) (goesS w) (lenS w) (fun k m hk h ws => stS w k m hk h ws) (fate := fate) (Q := Q) fate (n + 1) m 0 .no .no .no (Nat.le_refl _) hG (by simp)
  apply gf_eq
  unfold m_chain_end
  generalize hnn : ((n + 1 : Nat) : Int) = nn at *
  simp
  rw [en0]
  refine key _ (fun e he env => ?_) (fun k' m' he hk hG' x5 x6 x7 => ?_)
  · unfold endR
    rw [he]
    cases e <;> simp [endD]
  · obtain ⟨hk1, g0, g1, g2⟩ := hG'
    obtain ⟨U, hU⟩ := mode_at g0 g1
    have hta : ∀ Q : D → Prop, Is (atI (tabS S (n + 1)) (k' : Int)) Q = Q (intsD (lineN S k')) := fun Q => tabS_at hk
    have hga : ∀ Q : D → Prop, Is (atI ((lineN S k').map D.int) m') Q = Q (.int (gi (lineN S k') m')) := fun Q => at_map g0 (gd_of g0 (by rw [lineN_len]; exact g1))
    have hlk : ∀ l ws Q, Gf (m_is_look c [S.d c, .int m', .int l] ws) Q = Q (.bl (decide (l ∈ U.th))) ws := fun l ws Q => gf_of (r_look g0 hU)
    have e : endR S (n + 1) m fate = if gi (lineN S k') m' ∈ U.th then some false else none := by
      unfold endR lookS
      rw [he]
      simp only [hU, decide_eq_true_eq]
    rw [e]
    by_cases z : gi (lineN S k') m' ∈ U.th
    · simp [↓hta, ↓hga, ↓hlk, z, endD]
    · simp [↓hta, ↓hga, ↓hlk, z, endD]
theorem bls_map {α : Type} {p : α → Bool} : ∀ l : List α, bls? (l.map fun a => D.bl (p a)) = some (l.map p)
  | [] => rfl
  | a :: l => by simp only [List.map_cons, bls?, D.bl?, bls_map l]
theorem al_map {α : Type} {p : α → Bool} {l : List α} {Q : Bool → Prop} : Al (l.map fun a => D.bl (p a)) true Q = Q (l.all p) := by
  unfold Al
  rw [bls_map]
  simp only [Bool.true_and, List.all_map]
  rfl
def inLe (S : Sn) (a : Int) : Bool := decide (0 ≤ a) && decide (a < S.le)
theorem r_fate (hf : fate.length ≤ 1000) : m_is_fate c [S.d c, intsD fate] ws = some (.bl (fate.all (inLe S)), ws) := by
  apply gf_eq
  unfold m_is_fate
  simp
  rw [lc_map (f := D.int) (y := fun a => D.bl (inLe S a)) fate (by simp; omega) (fun a ha Q1 => by simp [inLe])]
  simp [al_map]
theorem r_paper2 {s : Str} : m_is_paper c [.tup [.str s, intsD fate], .int 2] ws = some (.bl true, ws) := by
  apply gf_eq
  unfold m_is_paper
  simp
section
variable {Q : D → Prop}
@[simp ↓] theorem eq_nf : Is (gEq .non (.str "floor") ws) Q = Q (.bl false) := by
  show Is ((D.eq .non (.str "floor")).map D.bl) Q = _
  rw [show D.eq .non (.str "floor") = some false by decide +kernel]; rfl
@[simp ↓] theorem eq_nl : Is (gEq .non (.str "look") ws) Q = Q (.bl false) := by
  show Is ((D.eq .non (.str "look")).map D.bl) Q = _
  rw [show D.eq .non (.str "look") = some false by decide +kernel]; rfl
@[simp ↓] theorem eq_ff : Is (gEq (.str "floor") (.str "floor") ws) Q = Q (.bl true) := by
  show Is ((D.eq (.str "floor") (.str "floor")).map D.bl) Q = _
  rw [show D.eq (.str "floor") (.str "floor") = some true by decide +kernel]; rfl
@[simp ↓] theorem eq_ll : Is (gEq (.str "look") (.str "look") ws) Q = Q (.bl true) := by
  show Is ((D.eq (.str "look") (.str "look")).map D.bl) Q = _
  rw [show D.eq (.str "look") (.str "look") = some true by decide +kernel]; rfl
@[simp ↓] theorem eq_fl : Is (gEq (.str "floor") (.str "look") ws) Q = Q (.bl false) := by
  show Is ((D.eq (.str "floor") (.str "look")).map D.bl) Q = _
  rw [show D.eq (.str "floor") (.str "look") = some false by decide +kernel]; rfl
@[simp ↓] theorem eq_lf : Is (gEq (.str "look") (.str "floor") ws) Q = Q (.bl false) := by
  show Is ((D.eq (.str "look") (.str "floor")).map D.bl) Q = _
  rw [show D.eq (.str "look") (.str "floor") = some false by decide +kernel]; rfl
end
def tellS (b : Bool) : D := .str (if b = true then "floor" else "look")
theorem r_holdsS (w : S.Wf) (hn : n + 1 ≤ 400) (h0 : 0 ≤ m) (h1 : m < S.mo.length) (h2 : S.fl < gi (lineN S (n + 1)) m) (h3 : gi (lineN S (n + 1)) m ≤ S.ca) (hf : fate.length ≤ 1000) {fl : Bool} :
    m_chain_holds c [S.d c, .int m, .int ((n + 1 : Nat) : Int), .tup [tellS fl, intsD fate]] ws = some (.bl (fate.all (inLe S) && decide (endR S (n + 1) m fate = some fl)), ws) := by
  have e1 : ∀ ws Q, Gf (m_need_line c [S.d c, .int m, .int ((n + 1 : Nat) : Int)] ws) Q = Q .non ws := fun ws Q => gf_of (r_needl h0 h1 hn)
  have e2 : ∀ ws Q, Gf (m_held_table c [S.d c, .int m, .int ((n + 1 : Nat) : Int)] ws) Q = Q (.lst (tabS S (n + 1))) ws := fun ws Q => gf_of (r_heldt w h0 h1 hn h2 h3)
  have e3 : ∀ s ws Q, Gf (m_is_paper c [.tup [.str s, intsD fate], .int 2] ws) Q = Q (.bl true) ws := fun s ws Q => gf_of r_paper2
  have e4 : ∀ ws Q, Gf (m_is_fate c [S.d c, intsD fate] ws) Q = Q (.bl (fate.all (inLe S))) ws := fun ws Q => gf_of (r_fate hf)
  have e5 : ∀ ws Q, Gf (m_chain_end c [S.d c, .lst (tabS S (n + 1)), .int m, .int ((n + 1 : Nat) : Int), intsD fate] ws) Q = Q (endD (endR S (n + 1) m fate)) ws := fun ws Q => gf_of (r_endS w hn h0 h1 h2)
  apply gf_eq
  unfold m_chain_holds
  generalize hnn : ((n + 1 : Nat) : Int) = nn at *
  generalize endR S (n + 1) m fate = R at *
  generalize fate.all (inLe S) = A at *
  cases fl <;> cases A <;> simp [tellS, ↓e1, ↓e2, ↓e3, ↓e4, ↓e5]
  all_goals
    rcases R with _ | _ | _ <;> simp [endD]
end
end ML
set_option Elab.async false
set_option linter.all false
set_option maxRecDepth 100000
set_option maxHeartbeats 800000
namespace ML
open PySem L2
/-! ### stations are made -/
section
variable {α : Type} {C : Addr} {n k i : Nat} {env : Env} {ws : List OO} {d : D} {ds : List D} {me : M D} {ms : M (List D)} {m : M Fl} {fs gs : List (Str × D)} {f g : Str}
def Pf (f : Str) (d : D) (gs : List (Str × D)) (K : List (Str × D) → Prop) : Prop := K (putFD f d gs)
@[simp ↓] theorem pf_0 {K : List (Str × D) → Prop} : Pf f d [] K = K [(f, d)] := rfl
@[simp ↓] theorem pf_s {x : D} {K : List (Str × D) → Prop} : Pf f d ((g, x) :: gs) K = if g = f then K ((g, d) :: gs) else Pf f d gs fun r => K ((g, x) :: r) := by
  unfold Pf
  rw [putFD]
  by_cases h : g = f <;> simp [h]
@[simp] theorem ne_fc : (("floors" : Str) = "caps") = False := eq_false (by decide)
@[simp] theorem ne_fl : (("floors" : Str) = "letters") = False := eq_false (by decide)
@[simp] theorem ne_fm : (("floors" : Str) = "modes") = False := eq_false (by decide)
@[simp] theorem ne_cl : (("caps" : Str) = "letters") = False := eq_false (by decide)
@[simp] theorem ne_cm : (("caps" : Str) = "modes") = False := eq_false (by decide)
@[simp] theorem ne_lm : (("letters" : Str) = "modes") = False := eq_false (by decide)
def fvK (C0 : Addr) (f : Str) (i : Nat) (d : D) (Q : Fl → Env → List OO → Prop) (env : Env) (ws : List OO) : Option Sl → Prop
  | some (.own (.ins C y gs)) => (C = C0 ∧ gs.length < 1000) ∧ Pf f d gs fun gs => Sv env i (.own (.ins C y gs)) fun env => Q .nx env ws
  | _ => False
@[simp ↓] theorem fvK_ {C0 : Addr} {y : Bool} {Q : Fl → Env → List OO → Prop} : fvK C0 f i d Q env ws (some (.own (.ins C y gs))) = ((C = C0 ∧ gs.length < 1000) ∧ Pf f d gs fun gs => Sv env i (.own (.ins C y gs)) fun env => Q .nx env ws) := rfl
@[simp ↓] theorem go_fldV {C0 : Addr} (Q : Fl → Env → List OO → Prop) : Go (mFldV C0 f i me ⟨env, ws⟩) Q = Go (me ⟨env, ws⟩) fun d env ws => Lk env i (fvK C0 f i d Q env ws) := by
  unfold mFldV
  rw [go_bind]
  congr 1; funext d env ws
  unfold Lk
  show Go (match env[i]? with
    | some (.own (.ins C y gs)) => if C = C0 ∧ gs.length < 1000 then some (.nx, (⟨env.set i (.own (.ins C y (putFD f d gs))), ws⟩ : Stt)) else none
    | _ => none) Q = _
  rcases env[i]? with _ | _ | d | o <;> try rfl
  cases o <;> try rfl
  rename_i C y gs
  show Go (if C = C0 ∧ gs.length < 1000 then some (Fl.nx, (⟨env.set i (.own (.ins C y (putFD f d gs))), ws⟩ : Stt)) else none) Q = ((C = C0 ∧ gs.length < 1000) ∧ _)
  by_cases h : C = C0 ∧ gs.length < 1000
  · rw [if_pos h]; simp only [h, true_and]; rfl
  · rw [if_neg h]; exact (eq_false fun z => h z.1).symm
def IeK (C : Addr) (Q : List (Str × D) → List OO → Prop) (ws : List OO) (f : Fl) : Option Sl → Prop
  | some (.own (.ins C' true gs)) => f = .nx ∧ C' = C ∧ Q gs ws
  | _ => False
@[simp ↓] theorem ieK_ {C' : Addr} {Q : List (Str × D) → List OO → Prop} : IeK C Q ws .nx (some (.own (.ins C' true gs))) = (C' = C ∧ Q gs ws) := by unfold IeK; simp
@[simp ↓] theorem gf_init {Q : List (Str × D) → List OO → Prop} : Gf (mInit C n k m ds ws) Q = Ln ds fun l => l = n ∧ Ini ds k fun env => Go (m ⟨.own (.ins C true []) :: env, ws⟩) fun f env ws => Lk env 0 (IeK C Q ws f) := by
  unfold mInit Ln Ini
  by_cases h : ds.length = n
  · rw [if_pos h]
    simp only [h, true_and]
    cases m ⟨.own (.ins C true []) :: iniM ds k, ws⟩ with
    | none => rfl
    | some p =>
      obtain ⟨f, s⟩ := p
      show Gf (initEnd C f s) Q = IeK C Q s.ws f s.env[0]?
      unfold initEnd
      rcases s.env[(0 : Nat)]? with _ | _ | d | o
      · cases f <;> rfl
      · cases f <;> rfl
      · cases f <;> rfl
      · cases o <;> try (cases f <;> rfl)
        rename_i C' y gs
        cases y
        · cases f <;> rfl
        · cases f
          · by_cases h2 : C' = C
            · simp only [if_pos h2, IeK]; simp [h2]
            · simp only [if_neg h2, IeK]; exact (eq_false fun z => h2 z.2.1).symm
          all_goals (simp only [IeK]; exact (eq_false fun z => by cases z.1).symm)
  · rw [if_neg h]; exact (eq_false fun z => h z.1).symm
@[simp ↓] theorem go_make {fi : Fi} (Q : OO → Env → List OO → Prop) : Go (mMakeO C n fi ms ⟨env, ws⟩) Q = Go (ms ⟨env, ws⟩) fun ds env ws => Ln ds fun k => k = n ∧ Gf (fi ds ws) fun fs ws => Q (.ins C false fs) env ws := by
  unfold mMakeO
  rw [go_bind]
  congr 1; funext ds env ws
  unfold Ln
  show Go (if ds.length = n then (fi ds ws).map fun p => (OO.ins C false p.1, (⟨env, p.2⟩ : Stt)) else none) Q = _
  by_cases h : ds.length = n
  · rw [if_pos h]; simp only [h, true_and]; cases fi ds ws <;> rfl
  · rw [if_neg h]; exact (eq_false fun z => h z.1).symm
end
section
variable {c : Cs} {ws : List OO} {Q : D → List OO → Prop} {ds : List D} {fl ca at_ s f s00 s01 s1 s2 s10 s11 s20 s21 : Int} {n : Int}
@[simp ↓] theorem r_seqT : Gf (m_is_sequence c [.tup ds] ws) Q = Q (.bl true) ws := by unfold m_is_sequence; simp
@[simp ↓] theorem r_seqL : Gf (m_is_sequence c [.lst ds] ws) Q = Q (.bl true) ws := by unfold m_is_sequence; simp
@[simp ↓] theorem r_rowT : Gf (m_is_row c [.tup ds, .int n] ws) Q = LnI ds fun k => Q (.bl (decide (k = n))) ws := by unfold m_is_row; simp [LnI]
@[simp ↓] theorem r_rowL : Gf (m_is_row c [.lst ds, .int n] ws) Q = LnI ds fun k => Q (.bl (decide (k = n))) ws := by unfold m_is_row; simp [LnI]
@[simp ↓] theorem r_stores (h : fl ≤ ca) : Gf (m_stores_wrong c [.tup [.int fl], .tup [.int ca]] ws) Q = Q .non ws := by
  unfold m_stores_wrong; simp
  omega
end
section
variable {c : Cs} {ws : List OO} {fl ca n : Int} {th : List Int} {v : Mv} {U : Md} {le : Nat} {S : Sn} {ds : List D}
theorem cut_tail : cutD ds (some 1) none = ds.tail := by
  cases ds with
  | nil => rfl
  | cons d ds => exact cut1
theorem r_thrs (h1 : th.length ≤ 6) (h2 : ∀ t ∈ th, fl < t ∧ t ≤ ca) (h3 : ∀ p ∈ th.zip th.tail, p.1 < p.2) : m_are_thresholds c [.int fl, .int ca, intsD th] ws = some (.bl true, ws) := by
  have e1 : (th.length : Int) ≤ 6 := by omega
  have e2 : th.all (fun t => decide (fl + 1 ≤ t) && decide (t ≤ ca)) = true := by
    rw [List.all_eq_true]
    intro t ht
    have := h2 t ht
    simp; omega
  have e3 : (th.zip th.tail).all (fun p => decide (p.1 < p.2)) = true := by
    rw [List.all_eq_true]
    intro p hp
    simpa using h3 p hp
  have hz : ∀ K : List D → Prop, Zp (th.map D.int) (th.map D.int).tail K = K ((th.zip th.tail).map fun p => .tup [.int p.1, .int p.2]) := fun K => by
    unfold Zp
    rw [← List.map_tail, zip_map]
  have hs : ∀ (Q : D → Prop) ws, Is (gSl (intsD th) (some 1) none ws) Q = Q (.tup (th.map D.int).tail) := fun Q ws => by
    show Q (.tup (cutD (th.map D.int) (some 1) none)) = _
    rw [cut_tail]
  apply gf_eq
  unfold m_are_thresholds
  simp [e1]
  rw [lc_map (f := D.int) (y := fun t => D.bl (decide (fl + 1 ≤ t) && decide (t ≤ ca))) th (by simp; omega) (fun a ha Q1 => by simp)]
  simp [al_map, e2, ↓hs, ↓hz]
  rw [lc_map (f := fun p : Int × Int => D.tup [.int p.1, .int p.2]) (y := fun p => D.bl (decide (p.1 < p.2))) (th.zip th.tail) (by rw [List.length_zip]; simp; omega) (fun a ha Q1 => by simp)]
  simp [al_map, e3]
theorem r_mv (h0 : 0 ≤ v.lead) (h1 : v.lead < n) (h2 : fl ≤ v.fi) (h3 : v.fi ≤ ca) : m_is_move c [.lst [.tup [.int fl, .int ca]], .int n, v.d] ws = some (.bl true, ws) := by
  apply gf_eq
  unfold m_is_move Mv.d
  simp [h0, h1, h2, h3]
theorem r_mode (h1 : U.th.length ≤ 6) (h2 : ∀ t ∈ U.th, fl < t ∧ t ≤ ca) (h3 : ∀ p ∈ U.th.zip U.th.tail, p.1 < p.2) (h4 : U.ce.length = U.th.length + 1) (h5 : ∀ ms ∈ U.ce, ms.length = le) (hle : le ≤ 6)
    (h6 : ∀ ms ∈ U.ce, ∀ v ∈ ms, 0 ≤ v.lead ∧ v.lead < n) (h7 : ∀ ms ∈ U.ce, ∀ v ∈ ms, fl ≤ v.fi ∧ v.fi ≤ ca) :
    m_is_mode c [.lst [.tup [.int fl, .int ca]], .int le, .int n, U.d] ws = some (.bl true, ws) := by
  have ht : ∀ ws Q, Gf (m_are_thresholds c [.int fl, .int ca, intsD U.th] ws) Q = Q (.bl true) ws := fun ws Q => gf_of (r_thrs h1 h2 h3)
  have hf : fits ((U.th.length : Int) + 1) = true := fits_lt (by omega) (by omega)
  apply gf_eq
  unfold m_is_mode Md.d
  simp [↓ht, hf, h4]
  refine loop_inv _ (Iv := fun k env ws' => ws = ws' ∧ ∃ x8 : Sl, env = [.val (.lst [.tup [.int fl, .int ca]]), .val (.int le), .val (.int n), .val (.tup [.tup [intsD U.th], .tup (U.ce.map cellD)]), .val (.int ((U.th.length : Int) + 1)), .val (.int fl), .val (.int ca), .val (intsD U.th), x8, .no]) (fun k d env ws' hd hi Q q => ?_) ⟨rfl, _, rfl⟩ fun env ws' hi => ?_
  · obtain ⟨rfl, x8, rfl⟩ := hi
    obtain ⟨ms, hp, rfl⟩ := map_at hd
    have hms := mem_of_get hp
    have hl := h5 ms hms
    have hrow : ∀ ws Q, Gf (m_is_row c [cellD ms, .int le] ws) Q = Q (.bl true) ws := fun ws Q => by
      unfold cellD
      rw [r_rowT]
      rw [lni_map, hl]
      simp
    simp [↓hrow]
    rw [lc_map (f := Mv.d) (y := fun v => D.bl true) ms (by simp; omega) (fun v hv Q1 => by
      have g1 := h6 ms hms v hv
      have g2 := h7 ms hms v hv
      have hm : ∀ ws Q, Gf (m_is_move c [.lst [.tup [.int fl, .int ca]], .int n, v.d] ws) Q = Q (.bl true) ws := fun ws Q => gf_of (r_mv g1.1 g1.2 g2.1 g2.2)
      simp [↓hm])]
    have ha : ∀ Q : Bool → Prop, Al (ms.map fun _ => D.bl true) true Q = Q true := fun Q => by
      rw [al_map (p := fun _ => true), show ms.all (fun _ => true) = true by rw [List.all_eq_true]; intros; rfl]
    simp [↓ha]
    exact q _ _ ⟨rfl, _, rfl⟩
  · obtain ⟨rfl, x8, rfl⟩ := hi
    simp
@[simp ↓] theorem is_tupC {ms : List Mv} {Q : D → Prop} : Is (gTuple [.lst (ms.map Mv.d)] ws) Q = Q (cellD ms) := rfl
theorem told_mv {Q : D → Prop} : True := trivial
theorem r_told (h1 : U.th.length ≤ 6) (h4 : U.ce.length = U.th.length + 1) (h5 : ∀ ms ∈ U.ce, ms.length = le) (hle : le ≤ 6) : m_told_mode c [U.d] ws = some (U.d, ws) := by
  apply gf_eq
  unfold m_told_mode Md.d
  simp
  refine loop_inv _ (Iv := fun k env ws' => ws = ws' ∧ ∃ x3 x4 : Sl, env = [.val (.tup [.tup [intsD U.th], .tup (U.ce.map cellD)]), .val (.tup [intsD U.th]), .own (.lst ((U.ce.map cellD).take k)), x3, x4, .no, .no, .no]) (fun k d env ws' hd hi Q q => ?_) ⟨rfl, _, _, rfl⟩ fun env ws' hi => ?_
  · obtain ⟨rfl, x3, x4, rfl⟩ := hi
    obtain ⟨ms, hp, rfl⟩ := map_at hd
    have hms := mem_of_get hp
    have hl := h5 ms hms
    have hk := (List.getElem?_eq_some_iff.mp hp).1
    simp
    rw [lc_map (f := Mv.d) (y := Mv.d) ms (by simp; omega) (fun v hv Q1 => by simp [Mv.d])]
    simp
    refine ⟨by omega, ?_⟩
    unfold Cat
    rw [show (U.ce.map cellD).take k ++ [D.tup (ms.map Mv.d)] = (U.ce.map cellD).take (k + 1) from (take_one hd).symm]
    exact q _ _ ⟨rfl, _, _, rfl⟩
  · obtain ⟨rfl, x3, x4, rfl⟩ := hi
    simp
    rw [List.take_of_length_le (by simp)]
/-- what a station is made of -/
abbrev Sn.house (S : Sn) : List D := [.tup [.int S.fl], .tup [.int S.ca], .int S.le, .tup (S.mo.map Md.d)]
theorem r_initS (w : S.Wf) {Q : List (Str × D) → List OO → Prop} : Gf (m_Station_init c S.house ws) Q = Q [("floors", .tup [.int S.fl]), ("caps", .tup [.int S.ca]), ("letters", .int S.le), ("modes", .tup (S.mo.map Md.d))] ws := by
  refine gf_of (gf_eq ?_)
  have fc := w.fc
  have hm := w.many
  have hl := w.lets
  have e1 : (1 : Int) ≤ S.le := by omega
  have e2 : (S.le : Int) ≤ 6 := by omega
  have e3 : (1 : Int) ≤ S.mo.length := by omega
  have e4 : (S.mo.length : Int) ≤ 60 := by omega
  unfold m_Station_init
  simp [fc, e1, e2, e3, e4]
  have f1 : 1 ≤ S.le := hl.1
  have f2 : S.le ≤ 6 := hl.2
  have f3 : 1 ≤ S.mo.length := hm.1
  have f4 : S.mo.length ≤ 60 := hm.2
  try simp [f1, f2, f3, f4]
  rw [en0, enum_map]
  refine loop_inv _ (Iv := fun k env ws' => ws = ws' ∧ ∃ x5 x7 : Sl, x7.free = true ∧ env = [.own (.ins c.Station true []), .val (.tup [.int S.fl]), .val (.tup [.int S.ca]), .val (.int S.le), .val (.tup (S.mo.map Md.d)), x5, .val (.lst [.tup [.int S.fl, .int S.ca]]), x7]) (fun k d env ws' hd hi Q q => ?_) ⟨rfl, _, _, rfl, rfl⟩ fun env ws' hi => ?_
  · obtain ⟨rfl, x5, x7, hx, rfl⟩ := hi
    obtain ⟨p, hp, rfl⟩ := map_at hd
    obtain ⟨U, i⟩ := p
    have hU : U ∈ S.mo := List.fst_mem_of_mem_zipIdx (mem_of_get hp)
    have hmd : ∀ ws Q, Gf (m_is_mode c [.lst [.tup [.int S.fl, .int S.ca]], .int S.le, .int S.mo.length, U.d] ws) Q = Q (.bl true) ws := fun ws Q => gf_of (r_mode (w.ths U hU) (w.thf U hU) (w.asc U hU) (w.ces U hU) (w.mvs U hU) hl.2 (w.leads U hU) (w.fills U hU))
    simp [↓hmd]
    exact q _ _ ⟨rfl, _, _, rfl, rfl⟩
  · obtain ⟨rfl, x5, x7, hx, rfl⟩ := hi
    simp [frK_of hx]
    rw [lc_map (f := Md.d) (y := Md.d) S.mo (by simp; omega) (fun U hU Q1 => by
      have ht : ∀ ws Q, Gf (m_told_mode c [U.d] ws) Q = Q U.d ws := fun ws Q => gf_of (r_told (w.ths U hU) (w.ces U hU) (w.mvs U hU) hl.2)
      simp [↓ht])]
    simp
theorem r_madeS (w : S.Wf) : m_law_made c [.tup S.house] ws = some (S.d c, ws) := by
  have h : ∀ ws Q, Gf (m_Station_init c S.house ws) Q = Q [("floors", .tup [.int S.fl]), ("caps", .tup [.int S.ca]), ("letters", .int S.le), ("modes", .tup (S.mo.map Md.d))] ws := fun ws Q => r_initS w
  apply gf_eq
  unfold m_law_made
  simp [↓h]
end
end ML
set_option Elab.async false
set_option linter.all false
set_option maxRecDepth 100000
set_option maxHeartbeats 800000
namespace ML
open PySem L2
/-- what the plain law draws -/
structure MvOk (fl z : Int) (many : Nat) (v : Mv) : Prop where
  l0 : 0 ≤ v.lead
  l1 : v.lead < many
  s0 : -(3 * z) ≤ v.sh
  f0 : fl ≤ v.fi
  f1 : v.fi ≤ fl + 40 * z
structure Pl (S : Sn) (z : Int) : Prop where
  z1 : 1 ≤ z
  z2 : z ≤ 100000000000000
  ca : S.fl + 1200 * z ≤ S.ca
  le : 1 ≤ S.le ∧ S.le ≤ 4
  many : 1 ≤ S.mo.length ∧ S.mo.length ≤ 24
  md : ∀ M ∈ S.mo, ∃ ms, M = ⟨[], [ms]⟩ ∧ ms.length = S.le ∧ ∀ v ∈ ms, MvOk S.fl z S.mo.length v
theorem Pl.wf {S : Sn} {z : Int} (p : Pl S z) : S.Wf := by
  have z1 := p.z1; have hc := p.ca; have hl := p.le; have hm := p.many
  have one : ∀ M ∈ S.mo, M.th = [] ∧ ∃ ms, M.ce = [ms] ∧ ms.length = S.le ∧ ∀ v ∈ ms, MvOk S.fl z S.mo.length v := fun M hM => by
    obtain ⟨ms, rfl, h1, h2⟩ := p.md M hM
    exact ⟨rfl, ms, rfl, h1, h2⟩
  refine ⟨by omega, by omega, by omega, fun M hM => ?_, fun M hM t ht => ?_, fun M hM q hq => ?_, fun M hM => ?_, fun M hM ms hms => ?_, fun M hM ms hms v hv => ?_, fun M hM ms hms v hv => ?_⟩
  · rw [(one M hM).1]; simp
  · rw [(one M hM).1] at ht; simp at ht
  · rw [(one M hM).1] at hq; simp at hq
  · obtain ⟨h1, ms, h2, h3⟩ := one M hM
    rw [h1, h2]; rfl
  · obtain ⟨h1, ms', h2, h3, h4⟩ := one M hM
    rw [h2, List.mem_singleton] at hms
    rw [hms]; exact h3
  · obtain ⟨h1, ms', h2, h3, h4⟩ := one M hM
    rw [h2, List.mem_singleton] at hms
    subst hms
    have := h4 v hv
    exact ⟨this.l0, this.l1⟩
  · obtain ⟨h1, ms', h2, h3, h4⟩ := one M hM
    rw [h2, List.mem_singleton] at hms
    subst hms
    have := h4 v hv
    exact ⟨this.f0, by have := this.f1; omega⟩
section
variable {c : Cs} {ws : List OO} {cs : List Int} {b : Int} {le many : Nat} {fl z reach : Int}
theorem cell_one {ms : List Mv} : (Md.mk [] [ms]).d = .tup [.tup [.tup []], .tup [.tup (ms.map Mv.d)]] := rfl
abbrev BPl (c : Cs) : M Fl :=
 (mSeq (mAsg (mCall 2 (m_law_pick c) (mCons (mVar 0) (mCons (mFrz (mLstO (mCons (mCall 2 (m_law_draw c) (mCons (mVar 0) (mCons (mVar 4) mNil))) (mCons (mOp gMod (mCB gInt (mCons (mOp gAdd (mVar 7) (retM (.int 1))) mNil)) (mVar 4)) (mCons (mVar 7) mNil))))) mNil))) (mgName 10))
 (mSeq (mAsg (mIf (mTest (mOp gGt (mCall 2 (m_law_draw c) (mCons (mVar 0) (mCons (retM (.int 5)) mNil))) (retM (.int 0)))) (mVar 2) (mOp gAdd (mVar 2) (mCall 2 (m_law_draw c) (mCons (mVar 0) (mCons (mOp gMul (retM (.int 40)) (mVar 1)) mNil))))) (mgName 11))
 (mDrop (mAppV 8 (mTup (mCons (mVar 10) (mCons (mTup (mCons (mTup (mCons (mOp gMul (mCall 2 (m_law_pick c) (mCons (mVar 0) (mCons (mFrz (mLstO (mCons (mUn (gU fun i => -i) (retM (.int 1))) (mCons (mUn (gU fun i => -i) (retM (.int 1))) (mCons (mUn (gU fun i => -i) (retM (.int 2))) (mCons (retM (.int 0)) (mCons (retM (.int 1)) (mCons (mUn (gU fun i => -i) (retM (.int 3))) mNil)))))))) mNil))) (mVar 1)) (mCons (mVar 11) mNil))) mNil)) mNil)))))))
theorem pl_move {mode : Nat} (hm : mode < many) (hm2 : many ≤ 24) (hz1 : 1 ≤ z) (hz2 : z ≤ 100000000000000) {ms : List Mv} (hl : ms.length < 10) {x3 x5 x6 x9 x10 x11 : Sl} (h : BxOk cs b) {Q : Fl → Env → List OO → Prop}
    (q : ∀ v cs b x10 x11, BxOk cs b → MvOk fl z many v → Q .nx [.val (.loc 1), .val (.int z), .val (.int fl), x3, .val (.int many), x5, x6, .val (.int mode), .own (.lst (ms.map Mv.d ++ [v.d])), x9, x10, x11] (bx cs b)) :
    Go (BPl c ⟨[.val (.loc 1), .val (.int z), .val (.int fl), x3, .val (.int many), x5, x6, .val (.int mode), .own (.lst (ms.map Mv.d)), x9, x10, x11], bx cs b⟩) Q := by
  have e0 : 0 < many := by omega
  have e0' : (0 : Int) < many := by omega
  have hmm : ((mode : Int) + 1) % (many : Int) < many := Int.emod_lt_of_pos _ e0'
  have hmm0 : 0 ≤ ((mode : Int) + 1) % (many : Int) := Int.emod_nonneg _ (by omega)
  have f1 : fits z = true := fits_lt (by omega) (by omega)
  have f40 : fits 40 = true := fits_lt (by omega) (by omega)
  have fn : ∀ x : Int, -3 ≤ x → x ≤ 3 → fits x = true := fun x h1 h2 => fits_of (by
    have : x.natAbs ≤ 3 := by omega
    exact Nat.lt_of_le_of_lt this (by decide))
  have hll : ms.length < 10000 := by omega
  simp
  refine r_draw h (by omega) (fits_lt (by omega) (by omega)) fun r1 cs b h r10 r11 => ?_
  simp [e0]
  refine r_pick (some := [r1, ((mode : Int) + 1) % (many : Int), (mode : Int)]) h (by simp) (by simp) fun ld cs b h hld => ?_
  have hld1 : 0 ≤ ld ∧ ld < many := by
    simp only [List.mem_cons, List.not_mem_nil, or_false] at hld
    rcases hld with rfl | rfl | rfl
    · exact ⟨r10, r11⟩
    · exact ⟨hmm0, hmm⟩
    · omega
  clear hld
  try simp
  refine r_draw h (by omega) (fits_lt (by omega) (by omega)) fun r2 cs b h r20 r21 => ?_
  have tail : ∀ (fi : Int) (cs : List Int) (b : Int), BxOk cs b → fl ≤ fi → fi ≤ fl + 40 * z → ∀ Q2 : D → List OO → Prop, (∀ s cs b, BxOk cs b → s ∈ [(-1 : Int), -1, -2, 0, 1, -3] → Q2 (.int s) (bx cs b)) → Gf (m_law_pick c [.loc 1, .lst [.int (-1), .int (-1), .int (-2), .int 0, .int 1, .int (-3)]] (bx cs b)) Q2 := fun fi cs b h _ _ Q2 q2 => r_pick (some := [-1, -1, -2, 0, 1, -3]) h (by simp) (by simp) q2
  by_cases e : 0 < r2
  · simp [e]
    refine tail fl cs b h (by omega) (by omega) _ fun s cs b h hs => ?_
    have hs1 : -3 ≤ s ∧ s ≤ 1 := by
      simp only [List.mem_cons, List.not_mem_nil, or_false] at hs
      omega
    have hsz : -(3 * z) ≤ s * z := by
      have := Int.mul_le_mul_of_nonneg_right hs1.1 (show 0 ≤ z by omega)
      omega
    simp [f1, fn s hs1.1 (by omega), hll]
    unfold Cat
    exact q ⟨ld, s * z, fl⟩ cs b _ _ h ⟨hld1.1, hld1.2, hsz, by show fl ≤ fl; omega, by show fl ≤ fl + 40 * z; omega⟩
  · simp [e, f40, f1]
    refine r_draw h (by omega) (fits_lt (by omega) (by omega)) fun r3 cs b h r30 r31 => ?_
    simp
    refine tail (fl + r3) cs b h (by omega) (by omega) _ fun s cs b h hs => ?_
    have hs1 : -3 ≤ s ∧ s ≤ 1 := by
      simp only [List.mem_cons, List.not_mem_nil, or_false] at hs
      omega
    have hsz : -(3 * z) ≤ s * z := by
      have := Int.mul_le_mul_of_nonneg_right hs1.1 (show 0 ≤ z by omega)
      omega
    simp [f1, fn s hs1.1 (by omega), hll]
    unfold Cat
    exact q ⟨ld, s * z, fl + r3⟩ cs b _ _ h ⟨hld1.1, hld1.2, hsz, by simp; omega, by simp; omega⟩
end
end ML
set_option Elab.async false
set_option linter.all false
set_option maxRecDepth 100000
set_option maxHeartbeats 800000
namespace ML
open PySem L2
section
variable {c : Cs} {ws : List OO} {cs : List Int} {b : Int} {le many : Nat} {fl z reach : Int}
def plMode (ms : List Mv) : Md := ⟨[], [ms]⟩
theorem rng_get {k n : Nat} {d : D} (h : (rngD 0 1 n)[k]? = some d) : d = .int (k : Int) ∧ k < n := by
  rw [rng_map] at h
  obtain ⟨p, hp, rfl⟩ := map_at h
  obtain ⟨h1, h2⟩ := List.getElem?_eq_some_iff.mp hp
  simp at h1 h2
  exact ⟨by rw [h2], h1⟩
theorem r_plain (h : BxOk cs b) {Q : D → List OO → Prop} (q : ∀ S z cs b, BxOk cs b → Pl S z → Q (.tup S.house) (bx cs b)) : Gf (m_law_plain c [.loc 1] (bx cs b)) Q := by
  unfold m_law_plain
  simp
  refine r_pick (some := [1, 1, 100000000000000]) h (by simp) (by simp) fun z cs b h hz => ?_
  have hz1 : 1 ≤ z ∧ z ≤ 100000000000000 := by
    simp only [List.mem_cons, List.not_mem_nil, or_false] at hz
    omega
  clear hz
  obtain ⟨hz1, hz2⟩ := hz1
  have f1 : fits z = true := fits_lt (by omega) (by omega)
  have f4 : fits 400 = true := fits_lt (by omega) (by omega)
  have f3 : fits 3 = true := fits_lt (by omega) (by omega)
  have f12 : fits 1200 = true := fits_lt (by omega) (by omega)
  simp [f1, f4, f3, f12]
  refine r_near h (by omega) (by omega) fun fl cs b h hf1 hf2 => ?_
  try simp
  refine r_draw h (by omega) (fits_lt (by omega) (by omega)) fun r0 cs b h r00 r01 => ?_
  simp
  refine r_pick (some := [3, 24]) h (by simp) (by simp) fun mm cs b h hmm => ?_
  have hmm1 : 3 ≤ mm ∧ mm ≤ 24 := by
    simp only [List.mem_cons, List.not_mem_nil, or_false] at hmm
    omega
  clear hmm
  try simp
  refine r_draw h (by omega) (fits_lt (by omega) (by omega)) fun r1 cs b h r10 r11 => ?_
  try simp
  refine r_draw h (by omega) (fits_lt (by omega) (by omega)) fun r2 cs b h r20 r21 => ?_
  obtain ⟨many, hmany⟩ : ∃ many : Nat, (1 + r1 : Int) = many := ⟨(1 + r1).toNat, by omega⟩
  obtain ⟨le, hle⟩ : ∃ le : Nat, (1 + r2 : Int) = le := ⟨(1 + r2).toNat, by omega⟩
  have hm1 : 1 ≤ many ∧ many ≤ 24 := by omega
  have hl1 : 1 ≤ le ∧ le ≤ 4 := by omega
  simp only [is_int, is_addI, hmany, hle]
  simp
  refine ⟨by omega, ?_⟩
  obtain ⟨reach, hre⟩ : ∃ reach : Int, reach = 1200 * z + r0 := ⟨_, rfl⟩
  try rw [← hre]
  refine loop_inv _ (Iv := fun k env ws => ∃ cs b, BxOk cs b ∧ ws = bx cs b ∧ ∃ mo : List (List Mv), mo.length = k ∧ (∀ ms ∈ mo, ms.length = le ∧ ∀ v ∈ ms, MvOk fl z many v) ∧ ∃ x7 x8 x9 x10 x11, env = [.val (.loc 1), .val (.int z), .val (.int fl), .val (.int reach), .val (.int many), .val (.int le), .own (.lst (mo.map fun ms => (plMode ms).d)), x7, x8, x9, x10, x11]) (fun k d env ws hd hi Q q => ?_) ⟨cs, b, h, rfl, [], rfl, by simp, _, _, _, _, _, rfl⟩ fun env ws hi => ?_
  · obtain ⟨cs, b, h, rfl, mo, hmo, hok, x7, x8, x9, x10, x11, rfl⟩ := hi
    obtain ⟨rfl, hk⟩ := rng_get hd
    simp
    refine ⟨by omega, ?_⟩
    refine loop_inv _ (Iv := fun j env ws => ∃ cs b, BxOk cs b ∧ ws = bx cs b ∧ ∃ ms : List Mv, ms.length = j ∧ (∀ v ∈ ms, MvOk fl z many v) ∧ ∃ x9 x10 x11, env = [.val (.loc 1), .val (.int z), .val (.int fl), .val (.int reach), .val (.int many), .val (.int le), .own (.lst (mo.map fun ms => (plMode ms).d)), .val (.int k), .own (.lst (ms.map Mv.d)), x9, x10, x11]) (fun j d env ws hd hi Q q => ?_) ⟨cs, b, h, rfl, [], rfl, by simp, _, _, _, rfl⟩ fun env ws hi => ?_
    · obtain ⟨cs, b, h, rfl, ms, hms, hok2, x9, x10, x11, rfl⟩ := hi
      obtain ⟨rfl, hj⟩ := rng_get hd
      rw [is_gName]
      refine pl_move hk hm1.2 hz1 hz2 (by omega) h fun v cs b x10 x11 h hv => ?_
      refine q _ _ ⟨cs, b, h, rfl, ms ++ [v], by simp [hms], fun u hu => ?_, _, _, _, by rw [List.map_append]; rfl⟩
      rcases List.mem_append.mp hu with e | e
      · exact hok2 u e
      · rw [List.mem_singleton.mp e]; exact hv
    · obtain ⟨cs, b, h, rfl, ms, hms, hok2, x9, x10, x11, rfl⟩ := hi
      rw [rngD_len] at hms
      have hl : mo.length < 10000 := by omega
      simp [hl]
      unfold Cat
      refine q _ _ ⟨cs, b, h, rfl, mo ++ [ms], by simp [hmo], fun u hu => ?_, _, _, _, _, _, by rw [List.map_append]; rfl⟩
      rcases List.mem_append.mp hu with e | e
      · exact hok u e
      · rw [List.mem_singleton.mp e]; exact ⟨hms, hok2⟩
  · obtain ⟨cs, b, h, rfl, mo, hmo, hok, x7, x8, x9, x10, x11, rfl⟩ := hi
    rw [rngD_len] at hmo
    simp
    have := q ⟨fl, fl + reach, le, mo.map plMode⟩ z cs b h ⟨hz1, hz2, by show fl + 1200 * z ≤ fl + reach; omega, hl1, by simp [hmo]; exact hm1, fun M hM => ?_⟩
    · unfold Sn.house at this
      simp only [List.map_map] at this
      exact this
    · obtain ⟨ms, hms, rfl⟩ := List.mem_map.mp hM
      refine ⟨ms, rfl, (hok ms hms).1, fun v hv => ?_⟩
      rw [show (List.map plMode mo).length = many by simp [hmo]]
      exact (hok ms hms).2 v hv
end
end ML
set_option Elab.async false
set_option linter.all false
set_option maxRecDepth 100000
set_option maxHeartbeats 800000
namespace ML
open PySem L2
/-! ### the law's own sums -/
def askv (fl : Int) (prev : List Int) (v : Mv) : Int := if gi prev v.lead ≤ v.fi ∨ gi prev v.lead - v.sh < fl - v.sh then fl - v.sh else gi prev v.lead - v.sh
def mostv (fl : Int) (prev : List Int) (ms : List Mv) : Int := (ms.map (askv fl prev)).foldl max fl
def toldF (fl : Int) (prev cprev : List Int) (most : Int) (t : Int) (v : Mv) : Int :=
  if fl < most ∧ askv fl prev v = most then t + (if most + v.sh = fl then 1 else gi cprev v.lead) else t
def toldv (fl : Int) (prev cprev : List Int) (ms : List Mv) : Int := ms.foldl (toldF fl prev cprev (mostv fl prev ms)) 0
def cell0 (M : Md) : List Mv := M.ce.headD []
def lsum (S : Sn) : Nat → List Int × List Int
  | 0 => (S.mo.map fun _ => S.fl, S.mo.map fun _ => 0)
  | k + 1 => (S.mo.map fun M => mostv S.fl (lsum S k).1 (cell0 M), S.mo.map fun M => toldv S.fl (lsum S k).1 (lsum S k).2 (cell0 M))
theorem lsum_len1 (S : Sn) : ∀ k, (lsum S k).1.length = S.mo.length
  | 0 => by simp [lsum]
  | k + 1 => by simp [lsum]
theorem lsum_len2 (S : Sn) : ∀ k, (lsum S k).2.length = S.mo.length
  | 0 => by simp [lsum]
  | k + 1 => by simp [lsum]
def LT (S : Sn) (n : Nat) : List D := (List.range (n + 1)).map fun k => .lst ((lsum S k).1.map D.int)
def CT (S : Sn) (n : Nat) : List D := (List.range (n + 1)).map fun k => .lst ((lsum S k).2.map D.int)
def askT (fl : Int) (prev : List Int) (v : Mv) : D := .tup [.int (askv fl prev v), .int v.lead, .int v.sh, .int v.fi]
section
variable {c : Cs} {ws : List OO} {S : Sn} {k n : Nat} {z : Int} {Q : D → Prop} {K : List D → Prop} {l : List Int} {x : Int}
theorem LT_len : (LT S n).length = n + 1 := by simp [LT]
theorem CT_len : (CT S n).length = n + 1 := by simp [CT]
theorem last_rng {f : Nat → D} {n : Nat} : Is (atI ((List.range (n + 1)).map f) (-1)) Q = Q (f n) := by
  unfold atI ixN
  rw [show ((List.range (n + 1)).map f).length = n + 1 by simp]
  simp only [show ¬ (0 : Int) ≤ -1 by omega, if_false, show -((n + 1 : Nat) : Int) ≤ -1 by omega, if_true]
  rw [show (-1 + ((n + 1 : Nat) : Int)).toNat = n by omega]
  simp
@[simp ↓] theorem LT_last : Is (atI (LT S n) (-1)) Q = Q (.lst ((lsum S n).1.map D.int)) := last_rng
@[simp ↓] theorem CT_last : Is (atI (CT S n) (-1)) Q = Q (.lst ((lsum S n).2.map D.int)) := last_rng
theorem LT_at (h : k ≤ n) : Is (atI (LT S n) (k : Int)) Q = Q (.lst ((lsum S k).1.map D.int)) := by
  rw [atI_nat]
  unfold LT
  rw [List.getElem?_map, List.getElem?_range (by omega)]
  rfl
theorem CT_at (h : k ≤ n) : Is (atI (CT S n) (k : Int)) Q = Q (.lst ((lsum S k).2.map D.int)) := by
  rw [atI_nat]
  unfold CT
  rw [List.getElem?_map, List.getElem?_range (by omega)]
  rfl
theorem LT_cat : Cat (LT S n) [.lst ((lsum S (n + 1)).1.map D.int)] K = K (LT S (n + 1)) := by
  unfold Cat LT
  rw [List.range_succ (n := n + 1), List.map_append]
  rfl
theorem CT_cat : Cat (CT S n) [.lst ((lsum S (n + 1)).2.map D.int)] K = K (CT S (n + 1)) := by
  unfold Cat CT
  rw [List.range_succ (n := n + 1), List.map_append]
  rfl
@[simp ↓] theorem go_parO {i j : Nat} {ma mb : M OO} {env : Env} (Q : Fl → Env → List OO → Prop) : Go (mParO i j ma mb ⟨env, ws⟩) Q = Go (ma ⟨env, ws⟩) fun a env ws => Go (mb ⟨env, ws⟩) fun b env ws => (a.unp = true ∧ b.unp = true) ∧ Sv env i (.own a) fun env => Sv env j (.own b) fun env => Q .nx env ws := by
  unfold mParO Sv
  rw [go_bind]
  congr 1; funext a env ws
  rw [go_bind]
  congr 1; funext b env ws
  show Go (if a.unp = true ∧ b.unp = true then _ else none) Q = _
  by_cases h : a.unp = true ∧ b.unp = true
  · rw [if_pos h]; simp only [h, true_and]; simp
  · rw [if_neg h]; exact (eq_false fun z => h z.1).symm
theorem maxL_c : Is (gMaxL [.lst (.int x :: l.map D.int)] ws) Q = Q (.int (l.foldl max x)) := by
  show Is ((ints? ((x :: l).map D.int)).bind fun ns => ns.max?.map D.int) Q = _
  rw [ints?_map]
  rfl
end
end ML
set_option Elab.async false
set_option linter.all false
set_option maxRecDepth 100000
set_option maxHeartbeats 200000
namespace ML
open PySem L2
section
variable {c : Cs} {ws : List OO} {S : Sn} {k n : Nat} {z : Int} {K : List D → Prop} {l : List Int} {x : Int}
theorem Pl.cell (p : Pl S z) {M : Md} (h : M ∈ S.mo) : M = ⟨[], [cell0 M]⟩ ∧ (cell0 M).length = S.le ∧ ∀ v ∈ cell0 M, MvOk S.fl z S.mo.length v := by
  obtain ⟨ms, rfl, h1, h2⟩ := p.md M h
  exact ⟨rfl, h1, h2⟩
theorem cell0D (p : Pl S z) {M : Md} (h : M ∈ S.mo) : M.d = .tup [.tup [.tup []], .tup [cellD (cell0 M)]] := by
  have := (p.cell h).1
  rw [this]; rfl
/-- one mode's sums -/
abbrev BSm : M Fl :=
 (mSeq (mOwn 10 (mLstO mNil))
 (mSeq (mFor (mItems (mOp gIx (mOp gIx (mOp gIx (mIxV 0 (retM (.int 3))) (mVar 9)) (retM (.int 1))) (retM (.int 0)))) (mgTup 2 (mgCons (mgName 11) (mgCons (mgName 12) mgNil)))
 (mSeq (mAsg (mIxV 12 (retM (.int 0))) (mgTup 2 (mgCons (mgName 16) (mgCons (mgName 17) mgNil))))
 (mSeq (mAsg (mOp gSubI (mOp gIx (mIxV 4 (mUn (gU fun i => -i) (retM (.int 1)))) (mVar 11)) (mVar 16)) (mgName 15))
 (mSeq (mIf (mOr (mTest (mOp gGe (mVar 17) (mOp gIx (mIxV 4 (mUn (gU fun i => -i) (retM (.int 1)))) (mVar 11)))) (mTest (mOp gGt (mOp gSubI (mVar 2) (mVar 16)) (mVar 15))))
 (mAsg (mOp gSubI (mVar 2) (mVar 16)) (mgName 15))
 mNext)
 (mDrop (mAppV 10 (mTup (mCons (mVar 15) (mCons (mVar 11) (mCons (mVar 16) (mCons (mVar 17) mNil)))))))))))
 (mSeq (mAsg (mCB gMaxL (mCons (mOp gAdd (mFrz (mLstO (mCons (mVar 2) mNil))) (mFrz (mLc (mItems (mVar 10)) (mgName 15) mYes (mIxV 15 (retM (.int 0))) [15]))) mNil)) (mgName 13))
 (mSeq (mDrop (mAppV 7 (mVar 13)))
 (mSeq (mAsg (retM (.int 0)) (mgName 14))
 (mSeq (mFor (mItems (mVar 10)) (mgTup 4 (mgCons (mgName 15) (mgCons (mgName 11) (mgCons (mgName 16) (mgCons (mgName 17) mgNil)))))
 (mIf (mAnd (mTest (mOp gGt (mVar 13) (mVar 2))) (mTest (mOp gEq (mVar 15) (mVar 13))))
 (mAsg (mOp gAdd (mVar 14) (mIf (mTest (mOp gEq (mOp gAdd (mVar 13) (mVar 16)) (mVar 2))) (retM (.int 1)) (mOp gIx (mIxV 5 (mUn (gU fun i => -i) (retM (.int 1)))) (mVar 11)))) (mgName 14))
 mNext))
 (mDrop (mAppV 8 (mVar 14)))))))))
theorem sums_mode (p : Pl S z) {j : Nat} {M : Md} (hM : S.mo[j]? = some M) {h1 s3 x6 : Sl} {x10 x11 x12 x13 x14 x15 x16 x17 : Sl} {la lb : List D} (hla : la.length < 100) (hlb : lb.length < 100) (hx : x15.free = true) {Q : Fl → Env → List OO → Prop}
    (q : ∀ x10 x11 x12 x13 x14 x15 x16 x17 : Sl, x15.free = true → Q .nx [.val (.tup S.house), h1, .val (.int S.fl), s3, .own (.lst (LT S k)), .own (.lst (CT S k)), x6, .own (.lst (la ++ [.int (mostv S.fl (lsum S k).1 (cell0 M))])), .own (.lst (lb ++ [.int (toldv S.fl (lsum S k).1 (lsum S k).2 (cell0 M))])), .val (.int j), x10, x11, x12, x13, x14, x15, x16, x17] ws) :
    Go (BSm ⟨[.val (.tup S.house), h1, .val (.int S.fl), s3, .own (.lst (LT S k)), .own (.lst (CT S k)), x6, .own (.lst la), .own (.lst lb), .val (.int j), x10, x11, x12, x13, x14, x15, x16, x17], ws⟩) Q := by
  have hMm := mem_of_get hM
  obtain ⟨_, hml, hmv⟩ := p.cell hMm
  have hle := p.le
  have hat : ∀ Q : D → Prop, Is (atI (S.mo.map Md.d) (j : Int)) Q = Q (.tup [.tup [.tup []], .tup [cellD (cell0 M)]]) := fun Q => by
    rw [at_map (by omega) (show S.mo[((j : Int)).toNat]? = some M from hM), cell0D p hMm]
  have hgl : ∀ v ∈ cell0 M, ∀ Q : D → Prop, Is (atI ((lsum S k).1.map D.int) v.lead) Q = Q (.int (gi (lsum S k).1 v.lead)) := fun v hv Q => at_map (hmv v hv).l0 (gd_of (hmv v hv).l0 (by rw [lsum_len1]; exact (hmv v hv).l1))
  have hgc : ∀ v ∈ cell0 M, ∀ Q : D → Prop, Is (atI ((lsum S k).2.map D.int) v.lead) Q = Q (.int (gi (lsum S k).2 v.lead)) := fun v hv Q => at_map (hmv v hv).l0 (gd_of (hmv v hv).l0 (by rw [lsum_len2]; exact (hmv v hv).l1))
  generalize hpl : (lsum S k).1 = prev at *
  generalize hpc : (lsum S k).2 = cprev at *
  simp [↓hat]
  refine loop_inv _ (Iv := fun i env ws' => ws = ws' ∧ ∃ x11 x12 x15 x16 x17 : Sl, x15.free = true ∧ env = [.val (.tup S.house), h1, .val (.int S.fl), s3, .own (.lst (LT S k)), .own (.lst (CT S k)), x6, .own (.lst la), .own (.lst lb), .val (.int j), .own (.lst (((cell0 M).map (askT S.fl prev)).take i)), x11, x12, x13, x14, x15, x16, x17]) (fun i d env ws' hd hi Q q => ?_) ⟨rfl, _, _, _, _, _, hx, rfl⟩ fun env ws' hi => ?_
  · obtain ⟨rfl, x11, x12, x15, x16, x17, hx, rfl⟩ := hi
    obtain ⟨v, hv, rfl⟩ := map_at hd
    have hvm := mem_of_get hv
    have hg := hgl v hvm
    have hi2 := (List.getElem?_eq_some_iff.mp hv).1
    have hap := take_one (L := (cell0 M).map (askT S.fl prev)) (k := i) (p := askT S.fl prev v) (by rw [List.getElem?_map, hv]; rfl)
    by_cases a : gi prev v.lead ≤ v.fi
    · have e : askv S.fl prev v = S.fl - v.sh := by simp [askv, a]
      simp [Mv.d, hpl, ↓hg, a]
      refine ⟨by omega, ?_⟩
      unfold Cat
      rw [show askT S.fl prev v = D.tup [.int (S.fl - v.sh), .int v.lead, .int v.sh, .int v.fi] by unfold askT; rw [e]] at hap
      rw [← hap]
      exact q _ _ ⟨rfl, _, _, _, _, _, rfl, rfl⟩
    · by_cases b : gi prev v.lead - v.sh < S.fl - v.sh
      · have e : askv S.fl prev v = S.fl - v.sh := by simp only [askv, a, b, or_true, if_true]
        have b' : gi prev v.lead < S.fl := by omega
        simp [Mv.d, hpl, ↓hg, a, b']
        refine ⟨by omega, ?_⟩
        unfold Cat
        rw [show askT S.fl prev v = D.tup [.int (S.fl - v.sh), .int v.lead, .int v.sh, .int v.fi] by unfold askT; rw [e]] at hap
        rw [← hap]
        exact q _ _ ⟨rfl, _, _, _, _, _, rfl, rfl⟩
      · have e : askv S.fl prev v = gi prev v.lead - v.sh := by simp only [askv, a, b, or_self, if_false]
        have b' : ¬ gi prev v.lead < S.fl := by omega
        simp [Mv.d, hpl, ↓hg, a, b']
        refine ⟨by omega, ?_⟩
        unfold Cat
        rw [show askT S.fl prev v = D.tup [.int (gi prev v.lead - v.sh), .int v.lead, .int v.sh, .int v.fi] by unfold askT; rw [e]] at hap
        rw [← hap]
        exact q _ _ ⟨rfl, _, _, _, _, _, rfl, rfl⟩
  · obtain ⟨rfl, x11, x12, x15, x16, x17, hx, rfl⟩ := hi
    rw [List.length_map, show (cell0 M).length = ((cell0 M).map (askT S.fl prev)).length by simp, List.take_of_length_le (Nat.le_refl _)]
    simp [frK_of hx]
    rw [lc_map (f := askT S.fl prev) (y := fun v => D.int (askv S.fl prev v)) (cell0 M) (by simp; omega) (fun v hv Q1 => by simp [askT])]
    have hmx : ∀ (Q : D → Prop) ws, Is (gMaxL [.lst (.int S.fl :: (cell0 M).map fun v => D.int (askv S.fl prev v))] ws) Q = Q (.int (mostv S.fl prev (cell0 M))) := fun Q ws => by
      have := maxL_c (ws := ws) (x := S.fl) (l := (cell0 M).map (askv S.fl prev)) (Q := Q)
      rw [List.map_map] at this
      exact this
    have hl1 : 1 + (cell0 M).length ≤ 10000 := by omega
    have hl2 : la.length < 10000 := by omega
    simp [hl1, ↓hmx, hl2]
    unfold Cat
    dsimp only
    refine loop_inv _ (Iv := fun i env ws' => ws = ws' ∧ ∃ x11 x15 x16 x17 : Sl, x15.free = true ∧ env = [.val (.tup S.house), h1, .val (.int S.fl), s3, .own (.lst (LT S k)), .own (.lst (CT S k)), x6, .own (.lst (la ++ [.int (mostv S.fl prev (cell0 M))])), .own (.lst lb), .val (.int j), .val (.lst ((cell0 M).map (askT S.fl prev))), x11, x12, .val (.int (mostv S.fl prev (cell0 M))), .val (.int (((cell0 M).take i).foldl (toldF S.fl prev cprev (mostv S.fl prev (cell0 M))) 0)), x15, x16, x17]) (fun i d env ws' hd hi Q q => ?_) ⟨rfl, _, _, _, _, hx, rfl⟩ fun env ws' hi => ?_
    · obtain ⟨rfl, x11, x15, x16, x17, hx, rfl⟩ := hi
      obtain ⟨v, hv, rfl⟩ := map_at hd
      have hvm := mem_of_get hv
      have hg := hgc v hvm
      rw [take_one hv, List.foldl_append] at q
      generalize ((cell0 M).take i).foldl (toldF S.fl prev cprev (mostv S.fl prev (cell0 M))) 0 = T at *
      generalize mostv S.fl prev (cell0 M) = mo at *
      simp only [List.foldl_cons, List.foldl_nil, toldF] at q
      by_cases a : S.fl < mo
      · by_cases b : askv S.fl prev v = mo
        · by_cases d : mo + v.sh = S.fl
          · rw [if_pos ⟨a, b⟩, if_pos d] at q
            simp [askT, a, b, d, hpc, ↓hg]
            exact q _ _ ⟨rfl, _, _, _, _, rfl, rfl⟩
          · rw [if_pos ⟨a, b⟩, if_neg d] at q
            simp [askT, a, b, d, hpc, ↓hg]
            exact q _ _ ⟨rfl, _, _, _, _, rfl, rfl⟩
        · rw [if_neg fun z => b z.2] at q
          simp [askT, a, b]
          exact q _ _ ⟨rfl, _, _, _, _, rfl, rfl⟩
      · rw [if_neg fun z => a z.1] at q
        simp [askT, a]
        exact q _ _ ⟨rfl, _, _, _, _, rfl, rfl⟩
    · obtain ⟨rfl, x11, x15, x16, x17, hx, rfl⟩ := hi
      rw [List.length_map, List.take_of_length_le (Nat.le_refl _)]
      have hl3 : lb.length < 10000 := by omega
      simp [hl3]
      unfold Cat
      exact q _ _ _ _ _ _ _ _ hx
end
end ML
set_option Elab.async false
set_option linter.all false
set_option maxRecDepth 100000
set_option maxHeartbeats 200000
namespace ML
open PySem L2
section
variable {c : Cs} {ws : List OO} {S : Sn} {k n : Nat} {z : Int} {K : List D → Prop} {l : List Int} {x : Int}
theorem r_sums (p : Pl S z) (hn : n ≤ 400) : m_law_sums c [.tup S.house, .int n] ws = some (.tup [.lst (LT S n), .lst (CT S n)], ws) := by
  have hm := p.many
  apply gf_eq
  unfold m_law_sums
  simp
  refine ⟨by omega, ?_⟩
  rw [rng_map, lc_map (f := fun i : Nat => D.int (i : Int)) (y := fun _ => D.int S.fl) (List.range S.mo.length) (by simp; omega) (fun a ha Q1 => by simp)]
  simp
  refine ⟨by omega, ?_⟩
  rw [rng_map, lc_map (f := fun i : Nat => D.int (i : Int)) (y := fun _ => D.int 0) (List.range S.mo.length) (by simp; omega) (fun a ha Q1 => by simp)]
  have eL : [D.lst ((List.range S.mo.length).map fun _ => D.int S.fl)] = LT S 0 := by
    unfold LT lsum
    simp [List.map_const', Function.comp_def]
  have eC : [D.lst ((List.range S.mo.length).map fun _ => D.int 0)] = CT S 0 := by
    unfold CT lsum
    simp [List.map_const', Function.comp_def]
  simp
  refine ⟨by omega, ?_⟩
  rw [eL, eC]
  refine loop_inv _ (Iv := fun k env ws' => ws = ws' ∧ ∃ x6 x7 x8 x9 x10 x11 x12 x13 x14 x15 x16 x17 : Sl, x15.free = true ∧ env = [.val (.tup S.house), .val (.int n), .val (.int S.fl), .val (.int S.mo.length), .own (.lst (LT S k)), .own (.lst (CT S k)), x6, x7, x8, x9, x10, x11, x12, x13, x14, x15, x16, x17]) (fun k d env ws' hd hi Q q => ?_) ⟨rfl, _, _, _, _, _, _, _, _, _, _, _, _, (show Sl.no.free = true from rfl), rfl⟩ fun env ws' hi => ?_
  · obtain ⟨rfl, x6, x7, x8, x9, x10, x11, x12, x13, x14, x15, x16, x17, hx, rfl⟩ := hi
    obtain ⟨rfl, hk⟩ := rng_get hd
    simp
    refine ⟨by omega, ?_⟩
    refine loop_inv _ (Iv := fun j env ws' => ws = ws' ∧ ∃ x9 x10 x11 x12 x13 x14 x15 x16 x17 : Sl, x15.free = true ∧ env = [.val (.tup S.house), .val (.int n), .val (.int S.fl), .val (.int S.mo.length), .own (.lst (LT S k)), .own (.lst (CT S k)), .val (.int k), .own (.lst ((S.mo.map fun M => D.int (mostv S.fl (lsum S k).1 (cell0 M))).take j)), .own (.lst ((S.mo.map fun M => D.int (toldv S.fl (lsum S k).1 (lsum S k).2 (cell0 M))).take j)), x9, x10, x11, x12, x13, x14, x15, x16, x17]) (fun j d env ws' hd hi Q q => ?_) ⟨rfl, _, _, _, _, _, _, _, _, _, hx, rfl⟩ fun env ws' hi => ?_
    · obtain ⟨rfl, x9, x10, x11, x12, x13, x14, x15, x16, x17, hx, rfl⟩ := hi
      obtain ⟨rfl, hj⟩ := rng_get hd
      obtain ⟨M, hM⟩ : ∃ M, S.mo[j]? = some M := ⟨S.mo[j], List.getElem?_eq_getElem hj⟩
      rw [is_gName]
      refine sums_mode p hM (by rw [List.length_take]; omega) (by rw [List.length_take]; omega) hx fun x10 x11 x12 x13 x14 x15 x16 x17 hx => ?_
      rw [← take_one (L := S.mo.map fun M => D.int (mostv S.fl (lsum S k).1 (cell0 M))) (k := j) (by rw [List.getElem?_map, hM]; rfl)]
      rw [← take_one (L := S.mo.map fun M => D.int (toldv S.fl (lsum S k).1 (lsum S k).2 (cell0 M))) (k := j) (by rw [List.getElem?_map, hM]; rfl)]
      exact q _ _ ⟨rfl, _, _, _, _, _, _, _, _, _, hx, rfl⟩
    · obtain ⟨rfl, x9, x10, x11, x12, x13, x14, x15, x16, x17, hx, rfl⟩ := hi
      have t1 : (S.mo.map fun M => D.int (mostv S.fl (lsum S k).1 (cell0 M))).take S.mo.length = ((lsum S (k + 1)).1.map D.int) := by
        rw [List.take_of_length_le (by simp)]
        simp [lsum]
      have t2 : (S.mo.map fun M => D.int (toldv S.fl (lsum S k).1 (lsum S k).2 (cell0 M))).take S.mo.length = ((lsum S (k + 1)).2.map D.int) := by
        rw [List.take_of_length_le (by simp)]
        simp [lsum]
      rw [rngD_len, t1, t2]
      have l1 : (LT S k).length < 10000 := by rw [LT_len]; omega
      have l2 : (CT S k).length < 10000 := by rw [CT_len]; omega
      simp [l1, l2]
      rw [LT_cat]
      try simp [l2]
      rw [CT_cat]
      exact q _ _ ⟨rfl, _, _, _, _, _, _, _, _, _, _, _, _, hx, rfl⟩
  · obtain ⟨rfl, x6, x7, x8, x9, x10, x11, x12, x13, x14, x15, x16, x17, hx, rfl⟩ := hi
    simp [rngD_len]
end
end ML
set_option Elab.async false
set_option linter.all false
set_option maxRecDepth 100000
set_option maxHeartbeats 200000
namespace ML
open PySem L2
theorem gi_map {α : Type} {f : α → Int} {L : List α} {m : Int} {M : α} (h : L[m.toNat]? = some M) : gi (L.map f) m = f M := by
  unfold gi
  rw [List.getD_eq_getElem?_getD, List.getElem?_map, h]
  rfl
theorem fold_max {l : List Int} {a x : Int} (h : l.max? = some a) : l.foldl max x = max x a := by
  have h1 : (x :: l).max? = some (l.foldl max x) := List.max?_cons'
  rw [List.max?_cons, h] at h1
  simpa using h1.symm
theorem max_ex {l : List Int} (h : l ≠ []) : ∃ a, l.max? = some a ∧ a ∈ l ∧ ∀ b ∈ l, b ≤ a := by
  cases e : l.max? with
  | none => exact absurd (List.max?_eq_none_iff.mp e) h
  | some a =>
    have := (List.max?_eq_some_iff).mp e
    exact ⟨a, rfl, this.1, this.2⟩
section
variable {S : Sn} {z : Int} {k : Nat} {ls : List Int} {M : Md} {v : Mv}
structure Bd2 (S : Sn) (z : Int) (k : Nat) (ls : List Int) : Prop where
  len : ls.length = S.mo.length
  lo : ∀ m : Int, 0 ≤ m → m < S.mo.length → S.fl ≤ gi ls m
  hi : ∀ m : Int, 0 ≤ m → m < S.mo.length → gi ls m ≤ S.fl + 3 * z * k
theorem hi_ca (p : Pl S z) (hk : k ≤ 400) : S.fl + 3 * z * k ≤ S.ca := by
  have h1 := p.z1
  have h2 := p.ca
  have : 3 * z * (k : Int) ≤ 3 * z * 400 := Int.mul_le_mul_of_nonneg_left (by omega) (by omega)
  omega
theorem askv_eq (p : Pl S z) (hk : k ≤ 400) (hb : Bd2 S z k ls) (hv : MvOk S.fl z S.mo.length v) : ask S ls v = some (askv S.fl ls v) := by
  have h1 := hb.lo v.lead hv.l0 hv.l1
  have h2 := hb.hi v.lead hv.l0 hv.l1
  have h3 := hi_ca p hk
  unfold ask askv
  rw [if_neg (by omega)]
  by_cases h : gi ls v.lead ≤ v.fi
  · rw [if_pos h, if_pos (.inl h)]
  · rw [if_neg h, if_neg (by omega)]
theorem askv_hi (p : Pl S z) (hb : Bd2 S z k ls) (hv : MvOk S.fl z S.mo.length v) : askv S.fl ls v ≤ S.fl + 3 * z * ((k + 1 : Nat) : Int) := by
  have h2 := hb.hi v.lead hv.l0 hv.l1
  have h4 := hv.s0
  have h5 := p.z1
  have e : 3 * z * ((k + 1 : Nat) : Int) = 3 * z * k + 3 * z := by rw [Int.natCast_add, Int.mul_add]; simp
  have h6 : 0 ≤ 3 * z * (k : Int) := Int.mul_nonneg (by omega) (by omega)
  unfold askv
  split <;> omega
theorem filtMap_some {f : Mv → Option Int} {g : Mv → Int} : ∀ l : List Mv, (∀ v ∈ l, f v = some (g v)) → (l.map f).filterMap id = l.map g ∧ none ∉ l.map f
  | [], _ => by simp
  | v :: l, h => by
    obtain ⟨h1, h2⟩ := filtMap_some l fun u hu => h u (List.mem_cons_of_mem _ hu)
    have hv := h v (List.mem_cons_self ..)
    refine ⟨?_, ?_⟩
    · rw [List.map_cons, hv, List.map_cons, List.filterMap_cons]
      simp only [id]
      rw [h1]
    · rw [List.map_cons, hv]
      simp only [List.mem_cons, not_or]
      exact ⟨by simp, h2⟩
theorem cell_ne (p : Pl S z) (hM : M ∈ S.mo) : cell0 M ≠ [] := fun e => by
  have := (p.cell hM).2.1
  have h2 := p.le.1
  rw [e] at this
  simp at this
  omega
/-- one mode's line -/
theorem line_eq (p : Pl S z) (hk : k + 1 ≤ 400) (hb : Bd2 S z k ls) (hM : M ∈ S.mo) : lineStep S.fl (asks S ls M) = mostv S.fl ls (cell0 M) ∧ S.fl ≤ mostv S.fl ls (cell0 M) ∧ mostv S.fl ls (cell0 M) ≤ S.fl + 3 * z * ((k + 1 : Nat) : Int) ∧
    (∀ v ∈ cell0 M, askv S.fl ls v ≤ mostv S.fl ls (cell0 M)) ∧ (S.fl < mostv S.fl ls (cell0 M) → ∃ v ∈ cell0 M, askv S.fl ls v = mostv S.fl ls (cell0 M)) := by
  obtain ⟨hM1, hM2, hM3⟩ := p.cell hM
  have hne := cell_ne p hM
  obtain ⟨a, ha1, ha2, ha3⟩ := max_ex (l := (cell0 M).map (askv S.fl ls)) (by simpa using hne)
  have hmv : mostv S.fl ls (cell0 M) = max S.fl a := fold_max ha1
  obtain ⟨u, hu, hua⟩ := List.mem_map.mp ha2
  have hahi : a ≤ S.fl + 3 * z * ((k + 1 : Nat) : Int) := by rw [← hua]; exact askv_hi p hb (hM3 u hu)
  have hz := p.z1
  have h0 : 0 ≤ 3 * z * ((k + 1 : Nat) : Int) := Int.mul_nonneg (by omega) (by omega)
  have hca := hi_ca p (k := k + 1) hk
  obtain ⟨f1, f2⟩ := filtMap_some (f := ask S ls) (g := askv S.fl ls) (cell0 M) fun v hv => askv_eq p (by omega) hb (hM3 v hv)
  have hmost : mostO ((cell0 M).map (ask S ls)) = some a := by
    unfold mostO
    rw [if_neg f2, f1, ha1]
  have hasks : asks S ls M = [(S.fl, S.ca + 1, some a)] := by
    unfold asks marks
    rw [hM1]
    show [(S.fl, S.ca + 1, mostO ((cell0 M).map (ask S ls)))] = _
    rw [hmost]
  refine ⟨?_, by omega, by omega, fun v hv => ?_, fun h => ⟨u, hu, by omega⟩⟩
  · rw [hasks, hmv]
    show (if S.fl < a then min (S.ca + 1) a else S.fl) = _
    split <;> omega
  · have := ha3 _ (List.mem_map.mpr ⟨v, hv, rfl⟩)
    omega
theorem lines_ok (p : Pl S z) : ∀ k, k ≤ 400 → lineN S k = (lsum S k).1 ∧ Bd2 S z k (lineN S k)
  | 0, _ => by
    refine ⟨rfl, by simp [lineN], fun m h0 h1 => ?_, fun m h0 h1 => ?_⟩
    · rw [gi0 h0 h1]; omega
    · rw [gi0 h0 h1]; simp
  | k + 1, hk => by
    obtain ⟨i1, i2⟩ := lines_ok p k (by omega)
    have hl : ∀ M ∈ S.mo, lineStep S.fl (asks S (lineN S k) M) = mostv S.fl (lineN S k) (cell0 M) := fun M hM => (line_eq p hk i2 hM).1
    have e : lineN S (k + 1) = S.mo.map fun M => mostv S.fl (lineN S k) (cell0 M) := List.map_congr_left hl
    refine ⟨?_, lineN_len S _, fun m h0 h1 => ?_, fun m h0 h1 => ?_⟩
    · rw [e, i1]; rfl
    · obtain ⟨M, hM⟩ := mode_at h0 h1
      rw [e, gi_map hM]
      exact (line_eq p hk i2 (mem_of_get hM)).2.1
    · obtain ⟨M, hM⟩ := mode_at h0 h1
      rw [e, gi_map hM]
      exact (line_eq p hk i2 (mem_of_get hM)).2.2.1
theorem line_at (p : Pl S z) (hk : k + 1 ≤ 400) {m : Int} (hM : S.mo[m.toNat]? = some M) : gi (lineN S (k + 1)) m = mostv S.fl (lineN S k) (cell0 M) := by
  have i2 := (lines_ok p k (by omega)).2
  have e : lineN S (k + 1) = S.mo.map fun M => mostv S.fl (lineN S k) (cell0 M) := List.map_congr_left fun M hM => (line_eq p hk i2 hM).1
  rw [e, gi_map hM]
end
end ML
set_option Elab.async false
set_option linter.all false
set_option maxRecDepth 100000
set_option maxHeartbeats 200000
namespace ML
open PySem L2
def valF (C : Int → Int × Int) (p : Stp) : Int := match p.2 with
  | none => 1
  | some b => (C b).1
def valO (C : Int → Int × Int) : Option Stp → Int
  | none => 0
  | some p => valF C p
theorem fSum_fold (C : Int → Int × Int) : ∀ (l : List Stp) (a : Int), l.foldl (fAdd C) a + (l.filter fun p => p.2.isNone).length = a + (l.map (valF C)).sum
  | [], a => by simp
  | (x, o) :: l, a => by
    rw [List.foldl_cons, List.map_cons, List.sum_cons]
    have ih := fSum_fold C l
    cases o with
    | none =>
      have := ih (fAdd C a (x, none))
      rw [List.filter_cons_of_pos (by rfl)]
      simp only [fAdd, valF] at *
      rw [List.length_cons]
      omega
    | some b =>
      have := ih (fAdd C a (x, some b))
      rw [List.filter_cons_of_neg (by simp)]
      simp only [fAdd, valF] at *
      omega
theorem fSum_eq {C : Int → Int × Int} {l : List Stp} : fSum C l = (l.map (valF C)).sum := by
  have := fSum_fold C l (l.filter fun p => p.2.isNone).length
  unfold fSum
  omega
theorem lSum_zero {C : Int → Int × Int} {l : List Stp} (h : l ≠ []) (hz : ∀ p ∈ l, ∀ b, p.2 = some b → (C b).2 = 0) : lSum C l = 0 := by
  unfold lSum
  rw [if_neg h]
  clear h
  induction l with
  | nil => rfl
  | cons p l ih =>
    rw [List.foldl_cons]
    have : lAdd C 0 p = 0 := by
      obtain ⟨x, o⟩ := p
      cases o with
      | none => rfl
      | some b => simp only [lAdd]; rw [hz _ (List.mem_cons_self ..) b rfl]; rfl
    rw [this]
    exact ih fun p hp => hz p (List.mem_cons_of_mem _ hp)
theorem sum_filtMap {C : Int → Int × Int} {f : Mv × Nat → Option Stp} : ∀ l : List (Mv × Nat), ((l.filterMap f).map (valF C)).sum = (l.map fun p => valO C (f p)).sum
  | [] => rfl
  | p :: l => by
    rw [List.filterMap_cons, List.map_cons, List.sum_cons]
    have ih := sum_filtMap (C := C) (f := f) l
    cases e : f p with
    | none =>
      rw [← ih]
      show _ = 0 + _
      rw [Int.zero_add]
    | some q =>
      rw [← ih]
      rfl
theorem sum_idx {g : Mv → Int} : ∀ (l : List Mv) (k : Nat), ((l.zipIdx k).map fun p => g p.1).sum = (l.map g).sum
  | [], _ => rfl
  | v :: l, k => by rw [List.zipIdx_cons, List.map_cons, List.map_cons, List.sum_cons, List.sum_cons, sum_idx l (k + 1)]
section
variable {S : Sn} {z : Int} {k : Nat} {ls : List Int} {M : Md} {v : Mv}
theorem FS_plain (p : Pl S z) {m : Int} (hM : S.mo[m.toNat]? = some M) : FS S (k + 1) m = (cell0 M).zipIdx.filterMap (stepF S (gi (lineN S (k + 1)) m) (lineN S k)) := by
  unfold FS
  rw [hM]
  simp only [show k + 1 - 1 = k from rfl]
  obtain ⟨h1, _, _⟩ := p.cell (mem_of_get hM)
  unfold stepsS
  have e1 : M.th = [] := by rw [h1]
  have e2 : ∀ l, cellOf M l = cell0 M := fun l => by
    unfold cellOf cnt
    rw [h1]; rfl
  rw [e1, e2]
  simp
theorem lookS_plain (p : Pl S z) {m : Int} : lookS S k m = false := by
  unfold lookS
  cases e : S.mo[m.toNat]? with
  | none => rfl
  | some M =>
    obtain ⟨h1, _, _⟩ := p.cell (mem_of_get e)
    simp only
    rw [h1]; simp
/-- what a move adds to the law's count -/
def lawV (fl : Int) (prev cprev : List Int) (most : Int) (v : Mv) : Int := if fl < most ∧ askv fl prev v = most then (if most + v.sh = fl then 1 else gi cprev v.lead) else 0
theorem toldv_sum {fl : Int} {prev cprev : List Int} {most : Int} : ∀ (l : List Mv) (a : Int), l.foldl (toldF fl prev cprev most) a = a + (l.map (lawV fl prev cprev most)).sum
  | [], a => by simp
  | v :: l, a => by
    rw [List.foldl_cons, List.map_cons, List.sum_cons, toldv_sum l]
    unfold toldF lawV
    split <;> omega
/-- a move is a step exactly if it asks for the line -/
theorem step_cases (p : Pl S z) (hk : k + 1 ≤ 400) (hM : M ∈ S.mo) (hv : v ∈ cell0 M) (hl : S.fl < mostv S.fl (lineN S k) (cell0 M)) (i : Nat) :
    (askv S.fl (lineN S k) v = mostv S.fl (lineN S k) (cell0 M) → (mostv S.fl (lineN S k) (cell0 M) + v.sh = S.fl ∧ stepF S (mostv S.fl (lineN S k) (cell0 M)) (lineN S k) (v, i) = some ((i : Int), none)) ∨
      (mostv S.fl (lineN S k) (cell0 M) + v.sh ≠ S.fl ∧ S.fl < gi (lineN S k) v.lead ∧ mostv S.fl (lineN S k) (cell0 M) + v.sh = gi (lineN S k) v.lead ∧ stepF S (mostv S.fl (lineN S k) (cell0 M)) (lineN S k) (v, i) = some ((i : Int), some v.lead))) ∧
    (askv S.fl (lineN S k) v ≠ mostv S.fl (lineN S k) (cell0 M) → stepF S (mostv S.fl (lineN S k) (cell0 M)) (lineN S k) (v, i) = none) := by
  have hb := (lines_ok p k (by omega)).2
  obtain ⟨_, _, _, hle, _⟩ := line_eq p hk hb hM
  have hlv := hle v hv
  have hmv := (p.cell hM).2.2 v hv
  have h1 := hb.lo v.lead hmv.l0 hmv.l1
  generalize mostv S.fl (lineN S k) (cell0 M) = most at *
  unfold askv at hlv ⊢
  unfold stepF
  dsimp only
  generalize gi (lineN S k) v.lead = g at *
  have hcase : (g ≤ v.fi ∨ g - v.sh < S.fl - v.sh) ↔ g ≤ v.fi := ⟨fun h => by omega, .inl⟩
  simp only [hcase] at hlv ⊢
  refine ⟨fun h => ?_, fun h => ?_⟩
  · by_cases a : most + v.sh = S.fl
    · exact .inl ⟨a, by rw [if_pos a]⟩
    · by_cases b : g ≤ v.fi
      · rw [if_pos b] at h; omega
      · rw [if_neg b] at h
        exact .inr ⟨a, by omega, by omega, by rw [if_neg a, if_pos ⟨by omega, by omega, by omega⟩]⟩
  · by_cases b : g ≤ v.fi
    · rw [if_pos b] at h hlv
      rw [if_neg (by omega), if_neg (by omega)]
    · rw [if_neg b] at h hlv
      rw [if_neg (by omega), if_neg (by omega)]
theorem counts_ok (p : Pl S z) : ∀ k, k ≤ 400 → ∀ m, GS S k m → cN (FS S) k m = (gi (lsum S k).2 m, 0)
  | 0, _, m, h => absurd h.1 (by omega)
  | k + 1, hk, m, ⟨_, h0, h1, h2⟩ => by
    obtain ⟨M, hM⟩ := mode_at h0 h1
    have hMm := mem_of_get hM
    have ih := counts_ok p k (by omega)
    have hb := (lines_ok p k (by omega)).2
    have hlc := (lines_ok p k (by omega)).1
    rw [line_at p hk hM] at h2
    obtain ⟨_, _, _, hle, hex⟩ := line_eq p hk hb hMm
    have hGS : ∀ v ∈ cell0 M, S.fl < gi (lineN S k) v.lead → GS S k v.lead := fun v hv h => by
      have hmv := (p.cell hMm).2.2 v hv
      refine ⟨?_, hmv.l0, hmv.l1, h⟩
      cases k with
      | zero => rw [gi0 hmv.l0 hmv.l1] at h; omega
      | succ k => omega
    have hF := FS_plain (k := k) p hM
    rw [line_at p hk hM] at hF
    show (fSum (cN (FS S) k) (FS S (k + 1) m), lSum (cN (FS S) k) (FS S (k + 1) m)) = _
    have e1 : fSum (cN (FS S) k) (FS S (k + 1) m) = gi (lsum S (k + 1)).2 m := by
      rw [fSum_eq, hF, sum_filtMap]
      have e2 : gi (lsum S (k + 1)).2 m = toldv S.fl (lsum S k).1 (lsum S k).2 (cell0 M) := gi_map hM
      rw [e2, ← hlc]
      unfold toldv
      rw [toldv_sum, Int.zero_add, ← sum_idx (g := lawV S.fl (lineN S k) (lsum S k).2 (mostv S.fl (lineN S k) (cell0 M))) (cell0 M) 0]
      congr 1
      apply List.map_congr_left
      rintro ⟨v, i⟩ hvi
      have hv : v ∈ cell0 M := List.fst_mem_of_mem_zipIdx hvi
      obtain ⟨s1, s2⟩ := step_cases p hk hMm hv h2 i
      unfold lawV
      by_cases a : askv S.fl (lineN S k) v = mostv S.fl (lineN S k) (cell0 M)
      · rw [if_pos ⟨h2, a⟩]
        rcases s1 a with ⟨b1, b2⟩ | ⟨b1, b2, _, b3⟩
        · rw [b2, if_pos b1]; rfl
        · rw [b3, if_neg b1]
          show (cN (FS S) k v.lead).1 = _
          rw [ih v.lead (hGS v hv b2)]
      · rw [if_neg fun q => a q.2, s2 a]; rfl
    have e3 : lSum (cN (FS S) k) (FS S (k + 1) m) = 0 := by
      refine lSum_zero (fun e => ?_) fun q hq b hb2 => ?_
      · obtain ⟨v, hv, hva⟩ := hex h2
        obtain ⟨i, hi⟩ := List.mem_iff_getElem?.mp hv
        have hvi : (v, i) ∈ (cell0 M).zipIdx := by
          rw [List.mem_iff_getElem?]
          refine ⟨i, ?_⟩
          rw [List.getElem?_zipIdx, hi]; simp
        have : ∃ q, stepF S (mostv S.fl (lineN S k) (cell0 M)) (lineN S k) (v, i) = some q := by
          rcases (step_cases p hk hMm hv h2 i).1 hva with ⟨_, b2⟩ | ⟨_, _, _, b3⟩
          · exact ⟨_, b2⟩
          · exact ⟨_, b3⟩
        obtain ⟨q, hq⟩ := this
        have hmem : q ∈ FS S (k + 1) m := by
          rw [hF]
          exact List.mem_filterMap.mpr ⟨_, hvi, hq⟩
        rw [e] at hmem
        simp at hmem
      · rw [hF] at hq
        obtain ⟨⟨v, i⟩, hvi, hs⟩ := List.mem_filterMap.mp hq
        have hv : v ∈ cell0 M := List.fst_mem_of_mem_zipIdx hvi
        obtain ⟨s1, s2⟩ := step_cases p hk hMm hv h2 i
        by_cases a : askv S.fl (lineN S k) v = mostv S.fl (lineN S k) (cell0 M)
        · rcases s1 a with ⟨b1, b2⟩ | ⟨b1, b2, _, b3⟩
          · rw [b2] at hs; cases hs; cases hb2
          · rw [b3] at hs; cases hs; cases hb2
            rw [ih v.lead (hGS v hv b2)]
        · rw [s2 a] at hs; cases hs
    rw [e1, e3]
end
end ML
set_option Elab.async false
set_option linter.all false
set_option maxRecDepth 100000
set_option maxHeartbeats 200000
namespace ML
open PySem L2
def shiftsN (S : Sn) : Int → List Int → Int
  | _, [] => 0
  | m, a :: rest => match S.mo[m.toNat]? with
    | some M => match (cell0 M)[a.toNat]? with
      | some v => v.sh + shiftsN S v.lead rest
      | none => 0
    | none => 0
theorem walk_floor {F : Nat → Int → List Stp} {k : Nat} {m a a' : Int} {r : List Stp} {fate : List Int} (h : (F (k + 1) m).filter (fun p => decide (p.1 = a)) = (a', none) :: r) : walkN F (k + 1) m (a :: fate) = .error fate.isEmpty := by
  rw [walkN, h]
theorem walk_on {F : Nat → Int → List Stp} {k : Nat} {m a a' x : Int} {r : List Stp} {fate : List Int} (h : (F (k + 1) m).filter (fun p => decide (p.1 = a)) = (a', some x) :: r) : walkN F (k + 1) m (a :: fate) = walkN F k x fate := by
  rw [walkN, h]
section
variable {S : Sn} {z : Int} {k : Nat} {ls : List Int} {M : Md} {v : Mv} {m : Int}
/-- a step of a plain station -/
theorem fs_mem (p : Pl S z) (hk : k + 1 ≤ 400) (hM : S.mo[m.toNat]? = some M) (hl : S.fl < gi (lineN S (k + 1)) m) {a : Int} {o : Option Int} (h : (a, o) ∈ FS S (k + 1) m) :
    ∃ v, 0 ≤ a ∧ a < S.le ∧ (cell0 M)[a.toNat]? = some v ∧ v ∈ cell0 M ∧ ((o = none ∧ gi (lineN S (k + 1)) m + v.sh = S.fl) ∨ (o = some v.lead ∧ gi (lineN S (k + 1)) m + v.sh = gi (lineN S k) v.lead ∧ GS S k v.lead)) := by
  have hMm := mem_of_get hM
  rw [FS_plain p hM] at h
  obtain ⟨⟨v, i⟩, hvi, hs⟩ := List.mem_filterMap.mp h
  have hv : v ∈ cell0 M := List.fst_mem_of_mem_zipIdx hvi
  have hgi : (cell0 M)[i]? = some v := List.mem_zipIdx_iff_getElem?.mp hvi
  have hlt := (List.getElem?_eq_some_iff.mp hgi).1
  have hlen := (p.cell hMm).2.1
  have hmv := (p.cell hMm).2.2 v hv
  rw [line_at p hk hM] at hl hs ⊢
  have ha : a = (i : Int) := by
    unfold stepF at hs
    dsimp only at hs
    split at hs
    · cases hs; rfl
    · split at hs
      · cases hs; rfl
      · cases hs
  subst ha
  refine ⟨v, by omega, by omega, hgi, hv, ?_⟩
  obtain ⟨s1, s2⟩ := step_cases p hk hMm hv hl i
  by_cases e : askv S.fl (lineN S k) v = mostv S.fl (lineN S k) (cell0 M)
  · rcases s1 e with ⟨b1, b2⟩ | ⟨b1, b2, b3, b4⟩
    · rw [b2] at hs; cases hs
      exact .inl ⟨rfl, b1⟩
    · rw [b4] at hs; cases hs
      refine .inr ⟨rfl, b3, ?_, hmv.l0, hmv.l1, b2⟩
      cases k with
      | zero => rw [gi0 hmv.l0 hmv.l1] at b2; omega
      | succ k => omega
  · rw [s2 e] at hs; cases hs
theorem fs_ne (p : Pl S z) (hk : k + 1 ≤ 400) (hM : S.mo[m.toNat]? = some M) (hl : S.fl < gi (lineN S (k + 1)) m) : FS S (k + 1) m ≠ [] := fun e => by
  have hMm := mem_of_get hM
  have hb := (lines_ok p k (by omega)).2
  have hF := FS_plain (k := k) p hM
  rw [line_at p hk hM] at hl hF
  obtain ⟨v, hv, hva⟩ := (line_eq p hk hb hMm).2.2.2.2 hl
  obtain ⟨i, hi⟩ := List.mem_iff_getElem?.mp hv
  have hvi : (v, i) ∈ (cell0 M).zipIdx := List.mem_zipIdx_iff_getElem?.mpr hi
  have : ∃ q, stepF S (mostv S.fl (lineN S k) (cell0 M)) (lineN S k) (v, i) = some q := by
    rcases (step_cases p hk hMm hv hl i).1 hva with ⟨_, b2⟩ | ⟨_, _, _, b3⟩
    · exact ⟨_, b2⟩
    · exact ⟨_, b3⟩
  obtain ⟨q, hq⟩ := this
  have hmem : q ∈ FS S (k + 1) m := by
    rw [hF]
    exact List.mem_filterMap.mpr ⟨_, hvi, hq⟩
  rw [e] at hmem
  simp at hmem
structure PathOk (S : Sn) (k : Nat) (m : Int) (r : List Int × Bool) : Prop where
  fl : r.2 = true
  len : r.1.length ≤ k
  ne : r.1 ≠ []
  rng : ∀ a ∈ r.1, 0 ≤ a ∧ a < S.le
  sum : gi (lineN S k) m + shiftsN S m r.1 = S.fl
  wk : ∀ tail, walkN (FS S) k m (r.1 ++ tail) = .error tail.isEmpty
  dr : ∃ k' m', walkN (FS S) k m r.1.dropLast = .ok (k', m')
theorem path_ok (p : Pl S z) : ∀ k, k ≤ 400 → ∀ m, GS S k m → PathOk S k m (pathN (FS S) k m)
  | 0, _, m, h => absurd h.1 (by omega)
  | k + 1, hk, m, ⟨_, h0, h1, h2⟩ => by
    obtain ⟨M, hM⟩ := mode_at h0 h1
    have hne := fs_ne p hk hM h2
    unfold pathN
    cases e : FS S (k + 1) m with
    | nil => exact absurd e hne
    | cons q rest =>
      obtain ⟨a, o⟩ := q
      obtain ⟨v, a0, a1, hv, hvm, hc⟩ := fs_mem p hk hM h2 (a := a) (o := o) (by rw [e]; exact List.mem_cons_self ..)
      have hfil : (FS S (k + 1) m).filter (fun p => decide (p.1 = a)) = (a, o) :: rest.filter (fun p => decide (p.1 = a)) := by
        rw [e, List.filter_cons_of_pos (by simp)]
      have hsh : ∀ tail, shiftsN S m (a :: tail) = v.sh + shiftsN S v.lead tail := fun tail => by
        show (match S.mo[m.toNat]? with
          | some M => match (cell0 M)[a.toNat]? with
            | some v => v.sh + shiftsN S v.lead tail
            | none => 0
          | none => 0) = _
        rw [hM]
        simp only
        rw [hv]
      rcases hc with ⟨rfl, c1⟩ | ⟨rfl, c1, c2⟩
      · refine ⟨rfl, by simp, by simp, fun x hx => ?_, ?_, fun tail => ?_, ⟨k + 1, m, walk_nil⟩⟩
        · rw [List.mem_singleton.mp hx]; exact ⟨a0, a1⟩
        · rw [hsh]
          show _ + (v.sh + 0) = _
          omega
        · exact walk_floor hfil
      · have ih := path_ok p k (by omega) v.lead c2
        dsimp only
        refine ⟨ih.fl, by simp only [List.length_cons]; have := ih.len; omega, by simp, fun x hx => ?_, ?_, fun tail => ?_, ?_⟩
        · rcases List.mem_cons.mp hx with rfl | hx
          · exact ⟨a0, a1⟩
          · exact ih.rng x hx
        · rw [hsh]
          have := ih.sum
          omega
        · rw [List.cons_append, walk_on hfil]
          exact ih.wk tail
        · obtain ⟨k', m', hd⟩ := ih.dr
          refine ⟨k', m', ?_⟩
          rw [List.dropLast_cons_of_ne_nil ih.ne, walk_on hfil]
          exact hd
section
variable (p : Pl S z) (hk : k ≤ 400) (h : GS S k m)
include p hk h
theorem end_path : endR S k m (pathN (FS S) k m).1 = some true := by
  have := (path_ok p k hk m h).wk []
  rw [List.append_nil] at this
  unfold endR
  rw [this]; rfl
theorem end_more : endR S k m ((pathN (FS S) k m).1 ++ [0]) = none := by
  have := (path_ok p k hk m h).wk [0]
  unfold endR
  rw [this]; rfl
theorem end_less : endR S k m (pathN (FS S) k m).1.dropLast = none := by
  obtain ⟨k', m', hd⟩ := (path_ok p k hk m h).dr
  unfold endR
  rw [hd]
  simp only [lookS_plain p]
  rfl
end
theorem end_nil (p : Pl S z) : endR S k m [] = none := by
  unfold endR
  rw [walk_nil]
  simp only [lookS_plain p]
  rfl
theorem pow4 : (1 : Int) ≤ 4 ^ k := Int.pow_pos (by decide)
theorem sum_bd {g : Mv → Int} {B : Int} : ∀ l : List Mv, (∀ v ∈ l, 0 ≤ g v ∧ g v ≤ B) → 0 ≤ (l.map g).sum ∧ (l.map g).sum ≤ B * l.length
  | [], _ => by simp
  | v :: l, h => by
    have h1 := h v (List.mem_cons_self ..)
    have h2 := sum_bd l fun u hu => h u (List.mem_cons_of_mem _ hu)
    rw [List.map_cons, List.sum_cons, List.length_cons]
    have e : B * ((l.length + 1 : Nat) : Int) = B * l.length + B := by rw [Int.natCast_add, Int.mul_add]; simp
    rw [e]
    omega
theorem cnt_bd (p : Pl S z) : ∀ k, ∀ m : Int, 0 ≤ m → m < S.mo.length → 0 ≤ gi (lsum S k).2 m ∧ gi (lsum S k).2 m ≤ 4 ^ k
  | 0, m, h0, h1 => by
    obtain ⟨M, hM⟩ := mode_at h0 h1
    have : gi (lsum S 0).2 m = 0 := gi_map hM
    rw [this]; decide
  | k + 1, m, h0, h1 => by
    obtain ⟨M, hM⟩ := mode_at h0 h1
    have hMm := mem_of_get hM
    obtain ⟨_, hlen, hmv⟩ := p.cell hMm
    have e2 : gi (lsum S (k + 1)).2 m = toldv S.fl (lsum S k).1 (lsum S k).2 (cell0 M) := gi_map hM
    have hp := pow4 (k := k)
    rw [e2]
    unfold toldv
    rw [toldv_sum, Int.zero_add]
    have hb := sum_bd (g := lawV S.fl (lsum S k).1 (lsum S k).2 (mostv S.fl (lsum S k).1 (cell0 M))) (B := 4 ^ k) (cell0 M) fun v hv => by
      have ih := cnt_bd p k v.lead (hmv v hv).l0 (hmv v hv).l1
      unfold lawV
      split
      · split <;> omega
      · omega
    have hle := p.le
    rw [hlen] at hb
    have : (4 : Int) ^ k * (S.le : Int) ≤ 4 ^ k * 4 := Int.mul_le_mul_of_nonneg_left (by omega) (by omega)
    rw [Int.pow_succ]
    omega
end
end ML
set_option Elab.async false
set_option linter.all false
set_option maxRecDepth 100000
set_option maxHeartbeats 200000
namespace ML
open PySem L2
section
variable {c : Cs} {ws : List OO} {S : Sn} {z : Int} {k n : Nat} {v : Mv} {m : Int} {fate : List Int}
theorem filt_false {α : Type} {l : List α} : l.filter (fun _ => false) = [] := by simp [List.filter_eq_nil_iff]
@[simp ↓] theorem is_isS {x : Str} {Q : D → Prop} : Is (gIs (.str x) .non ws) Q = Q (.bl false) := Eq.trans rfl rfl
@[simp ↓] theorem is_neL0 {Q : D → Prop} : Is (gNe (.lst []) (.lst []) ws) Q = Q (.bl false) := Eq.trans rfl rfl
theorem same_ints {l : List Int} (hl : l.length ≤ 1000) : m_law_same c (n + 2) [intsD l, intsD l] ws = some (.bl true, ws) := by
  have h : ∀ v ws Q, Gf (m_law_same c (n + 1) [.int v, .int v] ws) Q = Q (.bl true) ws := fun v ws Q => gf_of same_int
  apply gf_eq
  unfold m_law_same
  simp
  refine ⟨by omega, ?_⟩
  rw [rng_map, lc_gen (f := fun i : Nat => D.int (i : Int)) (y := fun i : Nat => D.int (i : Int)) (p := fun _ => false) (List.range l.length) [] (by simp; omega) (fun a ha Q1 Q2 => by
    have ha2 : a < l.length := by simpa using ha
    have hg : ∀ Q : D → Prop, Is (atI (l.map D.int) (a : Int)) Q = Q (.int (gi l a)) := fun Q => at_map (by omega) (gd_of (by omega) (by omega))
    simp [↓hg, ↓h]), filt_false]
  simp
theorem same_str : m_law_same c (n + 1) [.str "floor", .str "floor"] ws = some (.bl true, ws) := by
  apply gf_eq
  unfold m_law_same
  simp
theorem same_look : m_law_same c (n + 2) [.tup [.str "look", .tup []], .tup [.str "look", .tup []]] ws = some (.bl true, ws) := by
  have h1 : ∀ ws Q, Gf (m_law_same c (n + 1) [.str "look", .str "look"] ws) Q = Q (.bl true) ws := fun ws Q => gf_of (gf_eq (by unfold m_law_same; simp))
  have h2 : ∀ ws Q, Gf (m_law_same c (n + 1) [.tup [], .tup []] ws) Q = Q (.bl true) ws := fun ws Q => gf_of (gf_eq (by unfold m_law_same; simp [rngD]))
  apply gf_eq
  unfold m_law_same
  simp [↓h1, ↓h2]
theorem r_tells {a b : Bool} : m_law_tells c [.bl a, .bl b] ws = some (.bl (decide (a = b)), ws) := by
  apply gf_eq
  unfold m_law_tells
  cases a <;> cases b <;> simp
@[simp ↓] theorem ix_cell {ms : List Mv} {i : Int} {Q : D → Prop} : Is (gIx (cellD ms) (.int i) ws) Q = Is (atI (ms.map Mv.d) i) Q := Eq.trans rfl rfl
theorem at_plain {M : Md} (p : Pl S z) (h0 : 0 ≤ m) (hM : S.mo[m.toNat]? = some M) {Q : D → Prop} : Is (atI (S.mo.map Md.d) m) Q = Q (.tup [.tup [.tup []], .tup [cellD (cell0 M)]]) := by
  rw [at_map h0 hM, cell0D p (mem_of_get hM)]
abbrev BSh : M Fl :=
 (mSeq (mAsg (mOp gIx (mOp gIx (mOp gIx (mOp gIx (mIxV 0 (retM (.int 3))) (mVar 1)) (retM (.int 1))) (retM (.int 0))) (mVar 4)) (mgTup 2 (mgCons (mgName 5) (mgCons (mgName 6) mgNil))))
 (mPar 3 1 (mCons (mOp gAdd (mVar 3) (mOp gIx (mIxV 6 (retM (.int 0))) (retM (.int 0)))) (mCons (mVar 5) mNil))))
theorem shifts_loop (p : Pl S z) {s2 : Sl} {Q : Fl → Env → List OO → Prop} : ∀ (fate : List Int) (m acc : Int) (x4 x5 x6 : Sl), 0 ≤ m → m < S.mo.length → (∀ a ∈ fate, 0 ≤ a ∧ a < S.le) →
    (∀ x1 x4 x5 x6, Q .nx [.val (.tup S.house), x1, s2, .val (.int (acc + shiftsN S m fate)), x4, x5, x6] ws) →
    Go (loopM (mgName 4) BSh (fate.map D.int) ⟨[.val (.tup S.house), .val (.int m), s2, .val (.int acc), x4, x5, x6], ws⟩) Q
  | [], m, acc, x4, x5, x6, h0, h1, h2, q => by
    simp
    have := q (.val (.int m)) x4 x5 x6
    rw [show shiftsN S m [] = 0 from rfl, Int.add_zero] at this
    exact this
  | a :: rest, m, acc, x4, x5, x6, h0, h1, h2, q => by
    obtain ⟨M, hM⟩ := mode_at h0 h1
    have hMm := mem_of_get hM
    have ha := h2 a (List.mem_cons_self ..)
    have hlen := (p.cell hMm).2.1
    obtain ⟨v, hv⟩ : ∃ v, (cell0 M)[a.toNat]? = some v := ⟨(cell0 M)[a.toNat]'(by omega), List.getElem?_eq_getElem (by omega)⟩
    have hmv := (p.cell hMm).2.2 v (mem_of_get hv)
    have hat : ∀ Q : D → Prop, Is (atI (S.mo.map Md.d) m) Q = Q (.tup [.tup [.tup []], .tup [cellD (cell0 M)]]) := fun Q => at_plain p h0 hM
    have hav : ∀ Q : D → Prop, Is (atI ((cell0 M).map Mv.d) a) Q = Q v.d := fun Q => at_map ha.1 hv
    have hsh : shiftsN S m (a :: rest) = v.sh + shiftsN S v.lead rest := by
      show (match S.mo[m.toNat]? with
        | some M => match (cell0 M)[a.toNat]? with
          | some v => v.sh + shiftsN S v.lead rest
          | none => 0
        | none => 0) = _
      rw [hM]
      simp only
      rw [hv]
    rw [hsh, ← Int.add_assoc] at q
    simp only [List.map_cons]
    simp [↓hat, ↓hav, Mv.d]
    exact shifts_loop p rest v.lead (acc + v.sh) _ _ _ hmv.l0 hmv.l1 (fun b hb => h2 b (List.mem_cons_of_mem _ hb)) q
theorem r_shifts (p : Pl S z) (h0 : 0 ≤ m) (h1 : m < S.mo.length) (h2 : ∀ a ∈ fate, 0 ≤ a ∧ a < S.le) : m_law_shifts c [.tup S.house, .int m, intsD fate] ws = some (.int (shiftsN S m fate), ws) := by
  apply gf_eq
  unfold m_law_shifts
  simp
  refine shifts_loop p fate m 0 _ _ _ h0 h1 h2 fun x1 x4 x5 x6 => ?_
  simp
theorem r_is_int' : m_law_is_int c [.int m] ws = some (.bl true, ws) := r_is_int
theorem r_is_paper (p : Pl S z) (hk : k ≤ 400) (h : GS S k m) {nn : Int} (hn : nn = (k : Int)) : m_law_is_paper c [.tup S.house, .tup [.str "floor", intsD (pathN (FS S) k m).1], .int (gi (lineN S k) m), .int m, .int nn] ws = some (.bl true, ws) := by
  have po := path_ok p k hk m h
  have hs := po.sum
  have hlen := po.len
  have hrng := po.rng
  generalize (pathN (FS S) k m).1 = fate at *
  have e1 : ∀ ws Q, Gf (m_law_shifts c [.tup S.house, .int m, intsD fate] ws) Q = Q (.int (shiftsN S m fate)) ws := fun ws Q => gf_of (r_shifts p h.2.1 h.2.2.1 hrng)
  have e2 : ∀ ws Q, Gf (m_law_same c 8 [.str "floor", .str "floor"] ws) Q = Q (.bl true) ws := fun ws Q => gf_of (same_str (n := 7))
  have e3 : ∀ v ws Q, Gf (m_law_is_int c [.int v] ws) Q = Q (.bl true) ws := fun v ws Q => gf_of r_is_int
  have e4 : ¬ nn < (fate.length : Int) := by omega
  apply gf_eq
  unfold m_law_is_paper
  simp [↓e2, e4]
  rw [lc_gen (f := D.int) (y := D.int) (p := fun _ => false) fate [] (by simp; omega) (fun a ha Q1 Q2 => by
    have := hrng a ha
    simp [↓e3, this.1, this.2]), filt_false]
  simp [↓e1, hs]
end
end ML
set_option Elab.async false
set_option linter.all false
set_option maxRecDepth 100000
set_option maxHeartbeats 200000
namespace ML
open PySem L2
/-- the station with a mode that looks -/
def mvL (S : Sn) : Mv := ⟨0, 0, S.fl⟩
def mvC (S : Sn) : Mv := ⟨(S.mo.length : Int) + 1, 0, S.fl⟩
def lkM (S : Sn) (at_ : Int) : Md := ⟨[at_], [List.replicate S.le (mvL S), List.replicate S.le (mvC S)]⟩
def caM (S : Sn) : Md := ⟨[], [List.replicate S.le (mvC S)]⟩
def lkS (S : Sn) (at_ : Int) : Sn := ⟨S.fl, S.ca, S.le, S.mo ++ [lkM S at_, caM S]⟩
section
variable {c : Cs} {ws : List OO} {cs : List Int} {b : Int} {S : Sn} {z : Int} {k n N : Nat} {v : Mv} {m nn : Int}
theorem rep_cell : (List.range n).map (fun _ => v.d) = (List.replicate n v).map Mv.d := by
  simp [List.map_const']
theorem r_with (p : Pl S z) (hk : k ≤ N) (hN : N ≤ 400) (hn : nn - 1 = (k : Int)) (hl : S.fl < gi (lsum S k).1 0) (h : BxOk cs b) {Q : D → List OO → Prop}
    (q : ∀ at_ cs b, BxOk cs b → S.fl < at_ → at_ ≤ gi (lsum S k).1 0 + 1 → Q (.tup [.tup (lkS S at_).house, .int S.mo.length, .int at_, .int (gi (lsum S k).1 0)]) (bx cs b)) :
    Gf (m_law_with_look c [.loc 1, .tup S.house, .lst (LT S N), .int nn] (bx cs b)) Q := by
  have hm := p.many
  have hle := p.le
  have e1 : ∀ Q : D → Prop, Is (atI (LT S N) (k : Int)) Q = Q (.lst ((lsum S k).1.map D.int)) := fun Q => LT_at hk
  have e2 : ∀ Q : D → Prop, Is (atI ((lsum S k).1.map D.int) 0) Q = Q (.int (gi (lsum S k).1 0)) := fun Q => at_map (by omega) (gd_of (by omega) (by rw [lsum_len1]; omega))
  generalize gi (lsum S k).1 0 = line at *
  unfold m_law_with_look
  simp [hn, ↓e1, ↓e2]
  refine r_pick (some := [line + 1, line, max (S.fl + 1) (line - 1), S.fl + 1]) h (by simp) (by simp) fun at_ cs b h ha => ?_
  have ha1 : S.fl < at_ ∧ at_ ≤ line + 1 := by
    simp only [List.mem_cons, List.not_mem_nil, or_false] at ha
    omega
  clear ha
  have hl62 : S.le < 4611686018427387904 := by omega
  simp [hl62]
  rw [rng_map, lc_map (f := fun i : Nat => D.int (i : Int)) (y := fun _ => (mvL S).d) (List.range S.le) (by simp; omega) (fun a ha Q1 => by simp [mvL, Mv.d])]
  rw [rep_cell]
  simp [hl62]
  rw [rng_map, lc_map (f := fun i : Nat => D.int (i : Int)) (y := fun _ => (mvC S).d) (List.range S.le) (by simp; omega) (fun a ha Q1 => by simp [mvC, Mv.d])]
  rw [rep_cell]
  simp [hl62]
  rw [rng_map, lc_map (f := fun i : Nat => D.int (i : Int)) (y := fun _ => (mvC S).d) (List.range S.le) (by simp; omega) (fun a ha Q1 => by simp [mvC, Mv.d])]
  rw [rep_cell]
  have hl2 : S.mo.length + 2 ≤ 10000 := by omega
  have hl3 : S.mo.length ≤ 9998 := by omega
  simp [hl2, hl3]
  unfold Cat
  have := q at_ cs b h ha1.1 ha1.2
  unfold Sn.house lkS at this
  simp only [List.map_append, List.map_cons, List.map_nil] at this
  rw [show (lkM S at_).d = D.tup [D.tup [D.tup [D.int at_]], D.tup [D.tup (List.replicate S.le (mvL S).d), D.tup (List.replicate S.le (mvC S).d)]] by simp [lkM, Md.d, cellD],
    show (caM S).d = D.tup [D.tup [D.tup []], D.tup [D.tup (List.replicate S.le (mvC S).d)]] by simp [caM, Md.d, cellD]] at this
  exact this
end
end ML
set_option Elab.async false
set_option linter.all false
set_option maxRecDepth 100000
set_option maxHeartbeats 200000
namespace ML
open PySem L2
theorem max_rep {n : Nat} {x : Int} (h : 1 ≤ n) : mostO (List.replicate n (some x)) = some x := by
  obtain ⟨n, rfl⟩ : ∃ k, n = k + 1 := ⟨n - 1, by omega⟩
  unfold mostO
  rw [if_neg (by simp [List.mem_replicate])]
  have e : (List.replicate (n + 1) (some x)).filterMap id = List.replicate (n + 1) x := by
    induction n with
    | zero => rfl
    | succ n ih =>
      rw [List.replicate_succ, List.filterMap_cons]
      simp only [id]
      rw [ih (by omega), ← List.replicate_succ]
  rw [e, List.max?_eq_some_iff]
  exact ⟨by simp [List.mem_replicate], fun b hb => by rw [(List.mem_replicate.mp hb).2]; exact Int.le_refl _⟩
section
variable {S : Sn} {z : Int} {k n N : Nat} {v : Mv} {m nn at_ : Int} {M : Md} {ls : List Int} {x y : Int}
theorem lk_wf (p : Pl S z) (h1 : S.fl < at_) (h2 : at_ ≤ S.ca) : (lkS S at_).Wf := by
  have w := p.wf
  have hm := p.many
  have hle := p.le
  have hlen : (lkS S at_).mo.length = S.mo.length + 2 := by simp [lkS]
  have hfc := w.fc
  have hc : ∀ v ∈ List.replicate S.le (mvC S), v = mvC S := fun v hv => (List.mem_replicate.mp hv).2
  have hl : ∀ v ∈ List.replicate S.le (mvL S), v = mvL S := fun v hv => (List.mem_replicate.mp hv).2
  have split : ∀ {P : Md → Prop}, (∀ M ∈ S.mo, P M) → P (lkM S at_) → P (caM S) → ∀ M ∈ (lkS S at_).mo, P M := fun ha hb hc M hM => by
    rcases List.mem_append.mp hM with h | h
    · exact ha M h
    · rcases List.mem_cons.mp h with rfl | h
      · exact hb
      · rw [List.mem_singleton.mp h]; exact hc
  refine ⟨hfc, w.lets, by omega, split w.ths (by simp [lkM]) (by simp [caM]), split w.thf (fun t ht => ?_) (fun t ht => by simp [caM] at ht), split w.asc (fun q hq => by simp [lkM] at hq) (fun q hq => by simp [caM] at hq), split w.ces rfl rfl, split w.mvs (fun ms hms => ?_) (fun ms hms => ?_), split (fun M hM ms hms v hv => ?_) (fun ms hms v hv => ?_) (fun ms hms v hv => ?_), split w.fills (fun ms hms v hv => ?_) (fun ms hms v hv => ?_)⟩
  · have : t = at_ := by simpa [lkM] using ht
    rw [this]; exact ⟨h1, h2⟩
  · have : ms = List.replicate S.le (mvL S) ∨ ms = List.replicate S.le (mvC S) := by simpa [lkM] using hms
    rcases this with rfl | rfl <;> simp [lkS]
  · have : ms = List.replicate S.le (mvC S) := by simpa [caM] using hms
    rw [this]; simp [lkS]
  · have := w.leads M hM ms hms v hv
    rw [hlen]
    omega
  · have : ms = List.replicate S.le (mvL S) ∨ ms = List.replicate S.le (mvC S) := by simpa [lkM] using hms
    rw [hlen]
    rcases this with rfl | rfl
    · rw [hl v hv]; exact ⟨by simp [mvL], by simp [mvL] <;> omega⟩
    · rw [hc v hv]; exact ⟨by simp [mvC] <;> omega, by simp [mvC] <;> omega⟩
  · have : ms = List.replicate S.le (mvC S) := by simpa [caM] using hms
    rw [hlen]
    rw [this] at hv
    rw [hc v hv]; exact ⟨by simp [mvC] <;> omega, by simp [mvC] <;> omega⟩
  · have : ms = List.replicate S.le (mvL S) ∨ ms = List.replicate S.le (mvC S) := by simpa [lkM] using hms
    rcases this with rfl | rfl
    · rw [hl v hv]; exact ⟨by simp [mvL, lkS], by simpa [mvL, lkS] using hfc⟩
    · rw [hc v hv]; exact ⟨by simp [mvC, lkS], by simpa [mvC, lkS] using hfc⟩
  · have : ms = List.replicate S.le (mvC S) := by simpa [caM] using hms
    rw [this] at hv
    rw [hc v hv]; exact ⟨by simp [mvC, lkS], by simpa [mvC, lkS] using hfc⟩
theorem gi_app (hl : ls.length = S.mo.length) (h0 : 0 ≤ m) (h1 : m < S.mo.length) : gi (ls ++ [x, y]) m = gi ls m := by
  unfold gi
  rw [List.getD_eq_getElem?_getD, List.getD_eq_getElem?_getD, List.getElem?_append_left (by omega)]
theorem gi_app1 (hl : ls.length = S.mo.length) : gi (ls ++ [x, y]) S.mo.length = x := by
  unfold gi
  rw [List.getD_eq_getElem?_getD, show ((S.mo.length : Nat) : Int).toNat = S.mo.length from rfl, List.getElem?_append_right (by omega), hl]
  simp
theorem gi_app2 (hl : ls.length = S.mo.length) : gi (ls ++ [x, y]) ((S.mo.length : Int) + 1) = y := by
  unfold gi
  rw [List.getD_eq_getElem?_getD, show ((S.mo.length : Int) + 1).toNat = S.mo.length + 1 by omega, List.getElem?_append_right (by omega), hl]
  simp
/-- the line of the mode that looks -/
def lkL (S : Sn) (at_ : Int) : Nat → Int
  | 0 => S.fl
  | k + 1 => if S.fl < gi (lineN S k) 0 then min at_ (gi (lineN S k) 0) else S.fl
theorem lk_lines (p : Pl S z) (h1 : S.fl < at_) (h2 : at_ ≤ S.ca) : ∀ k, k ≤ 400 → lineN (lkS S at_) k = lineN S k ++ [lkL S at_ k, S.fl]
  | 0, _ => by
    show (S.mo ++ [lkM S at_, caM S]).map (fun _ => S.fl) = S.mo.map (fun _ => S.fl) ++ [S.fl, S.fl]
    rw [List.map_append]; rfl
  | k + 1, hk => by
    have ih := lk_lines p h1 h2 k (by omega)
    have hb := (lines_ok p k (by omega)).2
    have hle := p.le
    have hm := p.many
    have hca := hi_ca p (k := k) (by omega)
    have hlen := lineN_len S k
    have hw := p.wf
    have hfc := hw.fc
    have l0 := hb.lo 0 (by omega) (by omega)
    have u0 := hb.hi 0 (by omega) (by omega)
    show (S.mo ++ [lkM S at_, caM S]).map (fun M => lineStep S.fl (asks (lkS S at_) (lineN (lkS S at_) k) M)) = S.mo.map (fun M => lineStep S.fl (asks S (lineN S k) M)) ++ [lkL S at_ (k + 1), S.fl]
    rw [ih, List.map_append]
    have ea : ∀ M ∈ S.mo, asks (lkS S at_) (lineN S k ++ [lkL S at_ k, S.fl]) M = asks S (lineN S k) M := fun M hM => by
      unfold asks
      refine List.map_congr_left fun q hq => ?_
      have hc := (List.of_mem_zip hq).2
      have : q.2.map (ask (lkS S at_) (lineN S k ++ [lkL S at_ k, S.fl])) = q.2.map (ask S (lineN S k)) := List.map_congr_left fun v hv => by
        have hld := hw.leads M hM q.2 hc v hv
        unfold ask
        rw [gi_app hlen hld.1 hld.2]
        rfl
      rw [this]
    have eL : ask (lkS S at_) (lineN S k ++ [lkL S at_ k, S.fl]) (mvL S) = some (gi (lineN S k) 0) := by
      unfold ask
      rw [show (mvL S).lead = 0 from rfl, gi_app hlen (by omega) (by omega)]
      rw [if_neg (by show ¬ S.ca < _; omega)]
      by_cases e : gi (lineN S k) 0 ≤ (mvL S).fi
      · rw [if_pos e]
        have e2 : gi (lineN S k) 0 ≤ S.fl := e
        show some (S.fl - 0) = _
        congr 1; omega
      · rw [if_neg e]
        show some (_ - 0) = _
        congr 1; omega
    have eC : ask (lkS S at_) (lineN S k ++ [lkL S at_ k, S.fl]) (mvC S) = some S.fl := by
      unfold ask
      rw [show (mvC S).lead = (S.mo.length : Int) + 1 from rfl, gi_app2 hlen]
      rw [if_neg (by show ¬ S.ca < _; omega), if_pos (by show S.fl ≤ S.fl; omega)]
      show some (S.fl - 0) = _
      congr 1; omega
    have aL : asks (lkS S at_) (lineN S k ++ [lkL S at_ k, S.fl]) (lkM S at_) = [(S.fl, at_, some (gi (lineN S k) 0)), (at_, S.ca + 1, some S.fl)] := by
      show [(S.fl, at_, mostO ((List.replicate S.le (mvL S)).map _)), (at_, S.ca + 1, mostO ((List.replicate S.le (mvC S)).map _))] = _
      rw [List.map_replicate, List.map_replicate, eL, eC, max_rep hle.1, max_rep hle.1]
    have aC : asks (lkS S at_) (lineN S k ++ [lkL S at_ k, S.fl]) (caM S) = [(S.fl, S.ca + 1, some S.fl)] := by
      show [(S.fl, S.ca + 1, mostO ((List.replicate S.le (mvC S)).map _))] = _
      rw [List.map_replicate, eC, max_rep hle.1]
    congr 1
    · exact List.map_congr_left fun M hM => by rw [ea M hM]
    · show [lineStep S.fl (asks (lkS S at_) (lineN S k ++ [lkL S at_ k, S.fl]) (lkM S at_)), lineStep S.fl (asks (lkS S at_) (lineN S k ++ [lkL S at_ k, S.fl]) (caM S))] = _
      rw [aL, aC]
      show [(if at_ < S.fl then min (S.ca + 1) S.fl else if S.fl < gi (lineN S k) 0 then min at_ (gi (lineN S k) 0) else S.fl), (if S.fl < S.fl then min (S.ca + 1) S.fl else S.fl)] = _
      rw [if_neg (show ¬ at_ < S.fl by omega), if_neg (show ¬ S.fl < S.fl by omega)]
      rfl
end
end ML
set_option Elab.async false
set_option linter.all false
set_option maxRecDepth 100000
set_option maxHeartbeats 200000
namespace ML
open PySem L2
theorem fSum_congr {C C' : Int → Int × Int} {l : List Stp} (h : ∀ p ∈ l, ∀ b, p.2 = some b → C b = C' b) : fSum C l = fSum C' l := by
  rw [fSum_eq, fSum_eq]
  congr 1
  refine List.map_congr_left fun p hp => ?_
  obtain ⟨x, o⟩ := p
  cases o with
  | none => rfl
  | some b => show (C b).1 = (C' b).1; rw [h _ hp b rfl]
theorem lSum_congr {C C' : Int → Int × Int} {l : List Stp} (h : ∀ p ∈ l, ∀ b, p.2 = some b → C b = C' b) : lSum C l = lSum C' l := by
  unfold lSum
  generalize (if l = [] then (1 : Int) else 0) = a
  induction l generalizing a with
  | nil => rfl
  | cons p l ih =>
    rw [List.foldl_cons, List.foldl_cons]
    have : lAdd C a p = lAdd C' a p := by
      obtain ⟨x, o⟩ := p
      cases o with
      | none => rfl
      | some b => show a + (C b).2 = a + (C' b).2; rw [h _ (List.mem_cons_self ..) b rfl]
    rw [this]
    exact ih (fun p hp => h p (List.mem_cons_of_mem _ hp)) _
theorem fm_congr {α β : Type} {f g : α → Option β} : ∀ {l : List α}, (∀ a ∈ l, f a = g a) → l.filterMap f = l.filterMap g
  | [], _ => rfl
  | a :: l, h => by
    rw [List.filterMap_cons, List.filterMap_cons, h a (List.mem_cons_self ..), fm_congr fun b hb => h b (List.mem_cons_of_mem _ hb)]
theorem sum_rep {g : Mv → Int} {v : Mv} : ∀ n : Nat, ((List.replicate n v).map g).sum = n * g v
  | 0 => by simp
  | n + 1 => by
    rw [List.replicate_succ, List.map_cons, List.sum_cons, sum_rep n, Int.natCast_add, Int.add_mul]
    simp
    omega
section
variable {S : Sn} {z : Int} {k n N : Nat} {v : Mv} {m nn at_ : Int} {M : Md} {ls : List Int} {x y : Int}
theorem lk_at (h0 : 0 ≤ m) (h1 : m < S.mo.length) : (lkS S at_).mo[m.toNat]? = S.mo[m.toNat]? := by
  show (S.mo ++ _)[m.toNat]? = _
  rw [List.getElem?_append_left (by omega)]
theorem lk_look : (lkS S at_).mo[((S.mo.length : Nat) : Int).toNat]? = some (lkM S at_) := by
  show (S.mo ++ [lkM S at_, caM S])[S.mo.length]? = _
  rw [List.getElem?_append_right (by omega)]
  simp
theorem lk_FS (p : Pl S z) (h1 : S.fl < at_) (h2 : at_ ≤ S.ca) (hk : k + 1 ≤ 400) (h0 : 0 ≤ m) (hm : m < S.mo.length) : FS (lkS S at_) (k + 1) m = FS S (k + 1) m := by
  obtain ⟨M, hM⟩ := mode_at h0 hm
  have hl := fun k => lineN_len S k
  unfold FS
  rw [lk_at h0 hm, hM]
  simp only [show k + 1 - 1 = k from rfl]
  rw [lk_lines p h1 h2 (k + 1) hk, lk_lines p h1 h2 k (by omega), gi_app (hl _) h0 hm]
  unfold stepsS
  split
  · rfl
  · refine fm_congr fun q hq => ?_
    have hv : q.1 ∈ cellOf M (gi (lineN S (k + 1)) m) := List.fst_mem_of_mem_zipIdx hq
    have hld := p.wf.leads M (mem_of_get hM) _ (cellOf_mem p.wf hM) q.1 hv
    unfold stepF
    rw [gi_app (hl _) hld.1 hld.2]
    rfl
theorem lk_cN (p : Pl S z) (h1 : S.fl < at_) (h2 : at_ ≤ S.ca) : ∀ k, k ≤ 400 → ∀ m, GS S k m → cN (FS (lkS S at_)) k m = cN (FS S) k m
  | 0, _, m, h => absurd h.1 (by omega)
  | k + 1, hk, m, h => by
    have e := lk_FS p h1 h2 hk h.2.1 h.2.2.1
    have hg := (goesS p.wf).next k m h
    have ih : ∀ q ∈ FS S (k + 1) m, ∀ b, q.2 = some b → cN (FS (lkS S at_)) k b = cN (FS S) k b := fun q hq b hb => lk_cN p h1 h2 k (by omega) b (hg q hq b hb)
    show (fSum (cN (FS (lkS S at_)) k) (FS (lkS S at_) (k + 1) m), lSum (cN (FS (lkS S at_)) k) (FS (lkS S at_) (k + 1) m)) = (fSum (cN (FS S) k) (FS S (k + 1) m), lSum (cN (FS S) k) (FS S (k + 1) m))
    rw [e, fSum_congr ih, lSum_congr ih]
theorem lk_gi (p : Pl S z) (h1 : S.fl < at_) (h2 : at_ ≤ S.ca) (hk : k ≤ 400) : gi (lineN (lkS S at_) k) S.mo.length = lkL S at_ k := by
  rw [lk_lines p h1 h2 k hk, gi_app1 (lineN_len S k)]
/-- the line is the threshold: a look -/
theorem lk_FSlook (p : Pl S z) (h1 : S.fl < at_) (h2 : at_ ≤ S.ca) (hk : k + 1 ≤ 400) (hl : S.fl < gi (lineN S k) 0) (ha : at_ ≤ gi (lineN S k) 0) : FS (lkS S at_) (k + 1) S.mo.length = [] := by
  unfold FS
  rw [lk_look]
  simp only
  rw [lk_gi p h1 h2 hk]
  have : lkL S at_ (k + 1) = at_ := by
    show (if _ then _ else _) = _
    rw [if_pos hl]; omega
  unfold stepsS
  rw [this, if_pos (by simp [lkM])]
/-- else it goes on by each letter -/
theorem lk_FSon (p : Pl S z) (h1 : S.fl < at_) (h2 : at_ ≤ S.ca) (hk : k + 1 ≤ 400) (hl : S.fl < gi (lineN S k) 0) (ha : gi (lineN S k) 0 < at_) :
    FS (lkS S at_) (k + 1) S.mo.length = (List.replicate S.le (mvL S)).zipIdx.filterMap fun q => some ((q.2 : Int), some 0) := by
  have hm := p.many
  unfold FS
  rw [lk_look]
  simp only [show k + 1 - 1 = k from rfl]
  rw [lk_gi p h1 h2 hk, lk_lines p h1 h2 k (by omega)]
  have e : lkL S at_ (k + 1) = gi (lineN S k) 0 := by
    show (if _ then _ else _) = _
    rw [if_pos hl]; omega
  unfold stepsS
  rw [e, if_neg (by simp [lkM]; omega)]
  have ec : cellOf (lkM S at_) (gi (lineN S k) 0) = List.replicate S.le (mvL S) := by
    unfold cellOf cnt lkM
    simp only
    rw [List.filter_cons_of_neg (by simp; omega)]
    rfl
  rw [ec]
  refine fm_congr fun q hq => ?_
  have hv : q.1 = mvL S := (List.mem_replicate.mp (List.fst_mem_of_mem_zipIdx hq)).2
  unfold stepF
  rw [hv, show (mvL S).lead = 0 from rfl, gi_app (lineN_len S k) (by omega) (by omega)]
  rw [if_neg (by show ¬ _ + 0 = S.fl; omega), if_pos ⟨by show _ + 0 = _; omega, by show S.fl < _ + 0; omega, by show S.fl < _ + 0; omega⟩]
theorem lk_cNlook (p : Pl S z) (h1 : S.fl < at_) (h2 : at_ ≤ S.ca) (hk : k + 1 ≤ 400) (hl : S.fl < gi (lineN S k) 0) (ha : at_ ≤ gi (lineN S k) 0) : cN (FS (lkS S at_)) (k + 1) S.mo.length = (0, 1) := by
  show (fSum _ (FS (lkS S at_) (k + 1) S.mo.length), lSum _ (FS (lkS S at_) (k + 1) S.mo.length)) = _
  rw [lk_FSlook p h1 h2 hk hl ha]
  rfl
theorem lk_cNon (p : Pl S z) (h1 : S.fl < at_) (h2 : at_ ≤ S.ca) (hk : k + 1 ≤ 400) (hl : S.fl < gi (lineN S k) 0) (ha : gi (lineN S k) 0 < at_) : cN (FS (lkS S at_)) (k + 1) S.mo.length = (S.le * gi (lsum S k).2 0, 0) := by
  have hm := p.many
  have hle := p.le
  have hG : GS S k 0 := by
    refine ⟨?_, by omega, by omega, hl⟩
    cases k with
    | zero => rw [gi0 (by omega) (by omega)] at hl; omega
    | succ k => omega
  have hc : cN (FS (lkS S at_)) k 0 = (gi (lsum S k).2 0, 0) := by rw [lk_cN p h1 h2 k (by omega) 0 hG, counts_ok p k (by omega) 0 hG]
  show (fSum (cN (FS (lkS S at_)) k) (FS (lkS S at_) (k + 1) S.mo.length), lSum (cN (FS (lkS S at_)) k) (FS (lkS S at_) (k + 1) S.mo.length)) = _
  have hF := lk_FSon p h1 h2 hk hl ha
  have e1 : fSum (cN (FS (lkS S at_)) k) (FS (lkS S at_) (k + 1) S.mo.length) = S.le * gi (lsum S k).2 0 := by
    rw [fSum_eq, hF, sum_filtMap]
    have : ((List.replicate S.le (mvL S)).zipIdx.map fun q => valO (cN (FS (lkS S at_)) k) (some ((q.2 : Int), some 0))) = (List.replicate S.le (mvL S)).zipIdx.map fun q => (fun _ : Mv => gi (lsum S k).2 0) q.1 := List.map_congr_left fun q hq => by
      show (cN (FS (lkS S at_)) k 0).1 = _
      rw [hc]
    rw [this, sum_idx (g := fun _ : Mv => gi (lsum S k).2 0), sum_rep]
  have e2 : lSum (cN (FS (lkS S at_)) k) (FS (lkS S at_) (k + 1) S.mo.length) = 0 := by
    refine lSum_zero (fun e => ?_) fun q hq b hb => ?_
    · rw [hF] at e
      have := congrArg List.length e
      rw [List.filterMap_eq_map'] at this
      simp at this
      omega
    · rw [hF] at hq
      obtain ⟨r, _, hr⟩ := List.mem_filterMap.mp hq
      cases hr
      cases hb
      rw [hc]
  rw [e1, e2]
end
end ML
set_option Elab.async false
set_option linter.all false
set_option maxRecDepth 100000
set_option maxHeartbeats 200000
namespace ML
open PySem L2
section
variable {c : Cs} {ws : List OO} {cs : List Int} {b : Int} {S : Sn} {z : Int} {k n N : Nat} {v : Mv} {m nn at_ : Int} {M : Md} {ls : List Int} {x y : Int}
@[simp ↓] theorem is_minL2 {i j : Int} {Q : D → Prop} : Is (gMinL [.lst [.int i, .int j]] ws) Q = Q (.int (min i j)) := Eq.trans rfl rfl
theorem fits_cnt (p : Pl S z) (hk : k ≤ 400) (h0 : 0 ≤ m) (h1 : m < S.mo.length) : fits (gi (lsum S k).2 m) = true := by
  have hb := cnt_bd p k m h0 h1
  have h4 : (4 : Int) ^ k ≤ 4 ^ 400 := by
    have := Nat.pow_le_pow_right (show 0 < 4 by decide) hk
    exact_mod_cast this
  refine fits_of ?_
  have h5 : (gi (lsum S k).2 m).natAbs ≤ 4 ^ 400 := by
    have : gi (lsum S k).2 m ≤ ((4 ^ 400 : Nat) : Int) := by push_cast; omega
    omega
  have h6 : 4 ^ 400 < 2 ^ 1000 := by
    have e : (4 : Nat) ^ 400 = 2 ^ 800 := by
      rw [show (4 : Nat) = 2 ^ 2 by decide, ← Nat.pow_mul]
    rw [e]
    exact Nat.pow_lt_pow_right (by decide) (by decide)
  omega
theorem cT_eq {F : Nat → Int → List Stp} {q : Int × Int} (h : cN F k m = q) : cT F k m = .tup [.int q.1, .int q.2] := by
  unfold cT
  rw [h]
theorem r_look77 (p : Pl S z) (hk : k + 1 ≤ 400) (hnn2 : ((k + 1 : Nat) : Int) = nn) (h : BxOk cs b) {Q : D → List OO → Prop} (q : ∀ cs b, BxOk cs b → Q (.bl true) (bx cs b)) :
    Gf (m_law_looking c [.loc 1, .tup S.house, .lst (LT S (k + 1)), .lst (CT S (k + 1)), .int nn] (bx cs b)) Q := by
  have hm := p.many
  have hle := p.le
  obtain ⟨hlc, hb⟩ := lines_ok p k (by omega)
  have hnn : nn - 1 = (k : Int) := by omega
  have e1 : ∀ Q : D → Prop, Is (atI (LT S (k + 1)) (k : Int)) Q = Q (.lst ((lsum S k).1.map D.int)) := fun Q => LT_at (by omega)
  have e2 : ∀ Q : D → Prop, Is (atI ((lsum S k).1.map D.int) 0) Q = Q (.int (gi (lsum S k).1 0)) := fun Q => at_map (by omega) (gd_of (by omega) (by rw [lsum_len1]; omega))
  have e3 : ∀ Q : D → Prop, Is (atI (CT S (k + 1)) (k : Int)) Q = Q (.lst ((lsum S k).2.map D.int)) := fun Q => CT_at (by omega)
  have e4 : ∀ Q : D → Prop, Is (atI ((lsum S k).2.map D.int) 0) Q = Q (.int (gi (lsum S k).2 0)) := fun Q => at_map (by omega) (gd_of (by omega) (by rw [lsum_len2]; omega))
  have hfc := fits_cnt p (k := k) (by omega) (m := 0) (by omega) (by omega)
  have hfl : fits (S.le : Int) = true := fits_lt (by omega) (by omega)
  have hsm : ∀ v ws Q, Gf (m_law_same c 8 [.int v, .int v] ws) Q = Q (.bl true) ws := fun v ws Q => gf_of (same_int (n := 7))
  have hs2 : ∀ v w ws Q, Gf (m_law_same c 8 [.tup [.int v, .int w], .tup [.int v, .int w]] ws) Q = Q (.bl true) ws := fun v w ws Q => gf_of (same_two (n := 6))
  have hs3 : ∀ ws Q, Gf (m_law_same c 8 [.tup [.str "look", .tup []], .tup [.str "look", .tup []]] ws) Q = Q (.bl true) ws := fun ws Q => gf_of (same_look (n := 6))
  by_cases hl : S.fl < gi (lsum S k).1 0
  · have hw := fun Q => r_with (c := c) p (N := k + 1) (by omega) hk hnn hl h (Q := Q)
    have hln : S.fl < gi (lineN S k) 0 := by rw [hlc]; exact hl
    have hup : gi (lineN S k) 0 + 1 ≤ S.ca := by
      have u0 := hb.hi 0 (by omega) (by omega)
      have h3 := hi_ca p (k := k + 1) hk
      have h4 := p.z1
      have e : 3 * z * ((k + 1 : Nat) : Int) = 3 * z * k + 3 * z := by rw [Int.natCast_add, Int.mul_add]; simp
      omega
    unfold m_law_looking
    have hl2 : ¬ gi (lsum S k).1 0 ≤ S.fl := by omega
    simp [hnn, ↓e1, ↓e2, hl2]
    refine hw _ fun at_ cs b h a1 a2 => ?_
    have a3 : at_ ≤ S.ca := by rw [← hlc] at a2; omega
    have w' := lk_wf p a1 a3
    have hlen : (lkS S at_).mo.length = S.mo.length + 2 := by simp [lkS]
    have f1 : ∀ ws Q, Gf (m_law_made c [.tup (lkS S at_).house] ws) Q = Q ((lkS S at_).d c) ws := fun ws Q => gf_of (r_madeS w')
    have f2 : ∀ ws Q, Gf (m_sure_lines c [(lkS S at_).d c, .int nn] ws) Q = Q (intsD (lineN (lkS S at_) (k + 1))) ws := fun ws Q => by
      rw [← hnn2]
      exact gf_of (r_sure w' hk)
    have hg := lk_gi p a1 a3 (k := k + 1) hk
    have hlk : lkL S at_ (k + 1) = min at_ (gi (lsum S k).1 0) := by
      show (if _ then _ else _) = _
      rw [if_pos hln, hlc]
    have f3 : ∀ Q : D → Prop, Is (atI ((lineN (lkS S at_) (k + 1)).map D.int) (S.mo.length : Int)) Q = Q (.int (min at_ (gi (lsum S k).1 0))) := fun Q => by
      rw [at_map (by omega) (gd_of (by omega) (by rw [lineN_len]; omega)), hg, hlk]
    have g1 : (0 : Int) ≤ S.mo.length := by omega
    have g2 : (S.mo.length : Int) < (lkS S at_).mo.length := by omega
    have g3 : (lkS S at_).fl < gi (lineN (lkS S at_) (k + 1)) S.mo.length := by
      rw [hg, hlk]
      show S.fl < _
      omega
    have g4 : gi (lineN (lkS S at_) (k + 1)) S.mo.length ≤ (lkS S at_).ca := by
      rw [hg, hlk]
      show _ ≤ S.ca
      omega
    have f4 : ∀ ws Q, Gf (m_chain_count c [(lkS S at_).d c, .int S.mo.length, .int nn] ws) Q = Q (cT (FS (lkS S at_)) (k + 1) S.mo.length) ws := fun ws Q => by
      rw [← hnn2]
      exact gf_of (r_countS w' hk g1 g2 g3 g4)
    by_cases ha : at_ ≤ gi (lsum S k).1 0
    · have ha2 : at_ ≤ gi (lineN S k) 0 := by rw [hlc]; exact ha
      have hc := cT_eq (lk_cNlook p a1 a3 hk hln ha2)
      have hF := lk_FSlook p a1 a3 hk hln ha2
      have hp : pathN (FS (lkS S at_)) (k + 1) S.mo.length = ([], false) := by
        unfold pathN
        rw [hF]
      have f5 : ∀ ws Q, Gf (m_chain_paper c [(lkS S at_).d c, .int S.mo.length, .int nn] ws) Q = Q (.tup [.str "look", .tup []]) ws := fun ws Q => by
        rw [← hnn2]
        have := r_paperS (c := c) (ws := ws) w' hk g1 g2 g3 g4
        rw [hp] at this
        exact gf_of this
      rw [hc] at f4
      have hmin : min at_ (gi (lsum S k).1 0) = at_ := by omega
      rw [hmin] at f3
      simp [↓f1, ↓f2, ↓f3, ↓f4, ↓f5, ↓hsm, ↓hs2, ↓hs3, hmin]
      exact q _ _ h
    · have ha2 : gi (lineN S k) 0 < at_ := by rw [hlc]; omega
      have hc := cT_eq (lk_cNon p a1 a3 hk hln ha2)
      rw [hc] at f4
      have hmin : min at_ (gi (lsum S k).1 0) = gi (lsum S k).1 0 := by omega
      have hne : ¬ gi (lsum S k).1 0 = at_ := by omega
      rw [hmin] at f3
      simp [↓f1, ↓f2, ↓f3, ↓f4, ↓hsm, ↓hs2, hmin, hne, hnn, ↓e3, ↓e4, hfl, hfc]
      exact q _ _ h
  · unfold m_law_looking
    have hl2 : gi (lsum S k).1 0 ≤ S.fl := by omega
    simp [hnn, ↓e1, ↓e2, hl2]
    exact q _ _ h
end
end ML
set_option Elab.async false
set_option linter.all false
set_option maxRecDepth 100000
set_option maxHeartbeats 200000
namespace ML
open PySem L2
section
variable {c : Cs} {ws : List OO} {cs : List Int} {b : Int} {S : Sn} {z : Int} {k n N : Nat} {v : Mv} {m nn kk : Int} {ls : List Int} {x y : Int} {fate : List Int}
theorem cut_last {ds : List D} : cutD ds none (some (-1)) = ds.dropLast := by
  unfold cutD
  cases ds with
  | nil => rfl
  | cons d ds =>
    rw [List.dropLast_eq_take]
    show ((d :: ds).drop 0).take _ = _
    rw [List.drop_zero]
    congr 1
    unfold HT.sIx
    simp
    try omega
theorem sl_last {Q : D → Prop} : Is (gSl (intsD fate) none (some (-1)) ws) Q = Q (intsD fate.dropLast) := by
  show Q (.tup (cutD (fate.map D.int) none (some (-1)))) = _
  rw [cut_last, ← List.map_dropLast]
end
/-- one turn of the law -/
def BT7 (c : Cs) : M Fl :=
 (mSeq (mPar 7 8 (mCons (mCall 2 (m_law_draw c) (mCons (mVar 0) (mCons (mCB gLen (mCons (mIxV 1 (retM (.int 3))) mNil)) mNil))) (mCons (mOp gSubI (mVar 3) (mCall 2 (m_law_draw c) (mCons (mVar 0) (mCons (mCall 2 (m_law_pick c) (mCons (mVar 0) (mCons (mFrz (mLstO (mCons (retM (.int 1)) (mCons (mVar 3) mNil)))) mNil))) mNil)))) mNil)))
 (mSeq (mAsg (mOp gIx (mIxV 4 (mVar 8)) (mVar 7)) (mgName 9))
 (mIf (mTest (mOp gGt (mVar 9) (mOp gIx (mIxV 1 (retM (.int 0))) (retM (.int 0)))))
 (mSeq (mIf (mNot (mTru (mCall 2 (m_law_same c 8) (mCons (mCall 3 (m_chain_count c) (mCons (mVar 2) (mCons (mVar 7) (mCons (mVar 8) mNil)))) (mCons (mTup (mCons (mOp gIx (mIxV 5 (mVar 8)) (mVar 7)) (mCons (retM (.int 0)) mNil))) mNil)))))
 (mRet (retM (.bl false)))
 mNext)
 (mSeq (mAsg (mCall 3 (m_chain_paper c) (mCons (mVar 2) (mCons (mVar 7) (mCons (mVar 8) mNil)))) (mgName 10))
 (mSeq (mIf (mOr (mNot (mTru (mCall 5 (m_law_is_paper c) (mCons (mVar 1) (mCons (mVar 10) (mCons (mVar 9) (mCons (mVar 7) (mCons (mVar 8) mNil)))))))) (mNot (mTru (mCall 2 (m_law_tells c) (mCons (mCall 4 (m_chain_holds c) (mCons (mVar 2) (mCons (mVar 7) (mCons (mVar 8) (mCons (mVar 10) mNil))))) (mCons (retM (.bl true)) mNil))))))
 (mRet (retM (.bl false)))
 mNext)
 (mSeq (mAsg (mIxV 10 (retM (.int 1))) (mgName 11))
 (mFor (mItems (mFrz (mLstO (mCons (mTup (mCons (retM (.str "floor")) (mCons (mSl (mVar 11) mNoPart (mPart (mUn (gU fun i => -i) (retM (.int 1))))) mNil))) (mCons (mTup (mCons (retM (.str "floor")) (mCons (mOp gAdd (mVar 11) (mTup (mCons (retM (.int 0)) mNil))) mNil))) (mCons (mTup (mCons (retM (.str "look")) (mCons (mVar 11) mNil))) (mCons (mTup (mCons (retM (.str "look")) (mCons (mSl (mVar 11) mNoPart (mPart (mUn (gU fun i => -i) (retM (.int 1))))) mNil))) (mCons (mTup (mCons (retM (.str "look")) (mCons (mTup mNil) mNil))) mNil)))))))) (mgName 12)
 (mIf (mNot (mTru (mCall 2 (m_law_tells c) (mCons (mCall 4 (m_chain_holds c) (mCons (mVar 2) (mCons (mVar 7) (mCons (mVar 8) (mCons (mVar 12) mNil))))) (mCons (retM (.bl false)) mNil)))))
 (mRet (retM (.bl false)))
 mNext))))))
 mNext)))
theorem once_eq (c : Cs) : m_law_once c = mBody 1 12 (
 (mSeq (mAsg (mCall 1 (m_law_plain c) (mCons (mVar 0) mNil)) (mgName 1))
 (mSeq (mPar 2 3 (mCons (mCall 1 (m_law_made c) (mCons (mVar 1) mNil)) (mCons (mCall 2 (m_law_pick c) (mCons (mVar 0) (mCons (mFrz (mLstO (mCons (retM (.int 6)) (mCons (retM (.int 40)) (mCons (retM (.int 100)) (mCons (mIf (mTest (mOp gLt (mCB gLen (mCons (mIxV 1 (retM (.int 3))) mNil)) (retM (.int 5)))) (retM (.int 400)) (retM (.int 60))) mNil)))))) mNil))) mNil)))
 (mSeq (mAsg (mCall 2 (m_law_sums c) (mCons (mVar 1) (mCons (mVar 3) mNil))) (mgTup 2 (mgCons (mgName 4) (mgCons (mgName 5) mgNil))))
 (mSeq (mIf (mNot (mTru (mCall 2 (m_law_same c 8) (mCons (mCall 2 (m_sure_lines c) (mCons (mVar 2) (mCons (mVar 3) mNil))) (mCons (mCB gTuple (mCons (mIxV 4 (mVar 3)) mNil)) mNil)))))
 (mRet (retM (.bl false)))
 mNext)
 (mSeq (mFor (mRng1 (mCons (retM (.int 3)) mNil)) (mgName 6)
 (BT7 c))
 (mRet (mCall 5 (m_law_looking c) (mCons (mVar 0) (mCons (mVar 1) (mCons (mVar 4) (mCons (mVar 5) (mCons (mVar 3) mNil))))))))))))) := rfl
section
variable {c : Cs} {ws : List OO} {cs : List Int} {b : Int} {S : Sn} {z : Int} {k n N : Nat} {v : Mv} {m nn kk : Int} {ls : List Int} {x y : Int} {fate : List Int}
theorem r_turn (p : Pl S z) (hn1 : 1 ≤ n) (hn : n ≤ 400) {x6 x7 x8 x9 x10 x11 x12 : Sl} (h : BxOk cs b) {Q : Fl → Env → List OO → Prop}
    (q : ∀ cs b x7 x8 x9 x10 x11 x12, BxOk cs b → Q .nx [.val (.loc 1), .val (.tup S.house), .val (S.d c), .val (.int n), .val (.lst (LT S n)), .val (.lst (CT S n)), x6, x7, x8, x9, x10, x11, x12] (bx cs b)) :
    Go (BT7 c ⟨[.val (.loc 1), .val (.tup S.house), .val (S.d c), .val (.int n), .val (.lst (LT S n)), .val (.lst (CT S n)), x6, x7, x8, x9, x10, x11, x12], bx cs b⟩) Q := by
  have hm := p.many
  unfold BT7
  simp
  refine r_draw h (by omega) (fits_lt (by omega) (by omega)) fun m cs b h m0 m1 => ?_
  try simp
  refine r_pick (some := [1, (n : Int)]) h (by simp) (by simp) fun t cs b h ht => ?_
  have ht1 : 1 ≤ t ∧ t ≤ n := by
    simp only [List.mem_cons, List.not_mem_nil, or_false] at ht
    omega
  clear ht
  try simp
  refine r_draw h (by omega) (fits_lt (by omega) (by omega)) fun r cs b h r0 r1 => ?_
  obtain ⟨k, hk⟩ : ∃ k : Nat, (n : Int) - r = ((k + 1 : Nat) : Int) := ⟨((n : Int) - r - 1).toNat, by omega⟩
  have hkn : k + 1 ≤ n := by omega
  obtain ⟨hlc, hb⟩ := lines_ok p (k + 1) (by omega)
  have e1 : ∀ Q : D → Prop, Is (atI (LT S n) ((k + 1 : Nat) : Int)) Q = Q (.lst ((lsum S (k + 1)).1.map D.int)) := fun Q => LT_at hkn
  have e2 : ∀ Q : D → Prop, Is (atI ((lsum S (k + 1)).1.map D.int) m) Q = Q (.int (gi (lineN S (k + 1)) m)) := fun Q => by
    rw [hlc]
    exact at_map m0 (gd_of m0 (by rw [lsum_len1]; exact m1))
  have e3 : ∀ Q : D → Prop, Is (atI (CT S n) ((k + 1 : Nat) : Int)) Q = Q (.lst ((lsum S (k + 1)).2.map D.int)) := fun Q => CT_at hkn
  have e4 : ∀ Q : D → Prop, Is (atI ((lsum S (k + 1)).2.map D.int) m) Q = Q (.int (gi (lsum S (k + 1)).2 m)) := fun Q => at_map m0 (gd_of m0 (by rw [lsum_len2]; exact m1))
  have hs2 : ∀ v w ws Q, Gf (m_law_same c 8 [.tup [.int v, .int w], .tup [.int v, .int w]] ws) Q = Q (.bl true) ws := fun v w ws Q => gf_of (same_two (n := 6))
  have htt : ∀ ws Q, Gf (m_law_tells c [.bl true, .bl true] ws) Q = Q (.bl true) ws := fun ws Q => gf_of r_tells
  have hff : ∀ ws Q, Gf (m_law_tells c [.bl false, .bl false] ws) Q = Q (.bl true) ws := fun ws Q => gf_of r_tells
  by_cases hl : S.fl < gi (lineN S (k + 1)) m
  · have hG : GS S (k + 1) m := ⟨by omega, m0, m1, hl⟩
    have hca : gi (lineN S (k + 1)) m ≤ S.ca := by
      have := hb.hi m m0 m1
      have := hi_ca p (k := k + 1) (by omega)
      omega
    have po := path_ok p (k + 1) (by omega) m hG
    have hw := p.wf
    have c1 := cT_eq (counts_ok p (k + 1) (by omega) m hG)
    have hpl := po.len
    have hall : (pathN (FS S) (k + 1) m).1.all (inLe S) = true := by
      rw [List.all_eq_true]
      intro a ha
      have := po.rng a ha
      unfold inLe
      simp [this.1, this.2]
    have er1 := end_path p (show k + 1 ≤ 400 by omega) hG
    have er2 := end_more p (show k + 1 ≤ 400 by omega) hG
    have er3 := end_less p (show k + 1 ≤ 400 by omega) hG
    have er4 : endR S (k + 1) m [] = none := end_nil p
    have f1 : ∀ ws Q, Gf (m_chain_count c [S.d c, .int m, .int ((k + 1 : Nat) : Int)] ws) Q = Q (.tup [.int (gi (lsum S (k + 1)).2 m), .int 0]) ws := fun ws Q => by
      have := r_countS (c := c) (ws := ws) hw (by omega) m0 m1 hl hca
      rw [c1] at this
      exact gf_of this
    have f2 : ∀ ws Q, Gf (m_chain_paper c [S.d c, .int m, .int ((k + 1 : Nat) : Int)] ws) Q = Q (.tup [.str "floor", intsD (pathN (FS S) (k + 1) m).1]) ws := fun ws Q => by
      have := r_paperS (c := c) (ws := ws) hw (by omega) m0 m1 hl hca
      rw [if_pos po.fl] at this
      exact gf_of this
    have f3 : ∀ ws Q, Gf (m_law_is_paper c [.tup S.house, .tup [.str "floor", intsD (pathN (FS S) (k + 1) m).1], .int (gi (lineN S (k + 1)) m), .int m, .int ((k + 1 : Nat) : Int)] ws) Q = Q (.bl true) ws := fun ws Q => gf_of (r_is_paper p (by omega) hG rfl)
    have hf : ∀ (fate : List Int) (fl : Bool), fate.length ≤ 1000 → ∀ ws Q, Gf (m_chain_holds c [S.d c, .int m, .int ((k + 1 : Nat) : Int), .tup [tellS fl, intsD fate]] ws) Q = Q (.bl (fate.all (inLe S) && decide (endR S (k + 1) m fate = some fl))) ws := fun fate fl hlen ws Q => gf_of (r_holdsS hw (by omega) m0 m1 hl hca hlen)
    have t0 : ∀ ws Q, Gf (m_chain_holds c [S.d c, .int m, .int ((k + 1 : Nat) : Int), .tup [.str "floor", intsD (pathN (FS S) (k + 1) m).1]] ws) Q = Q (.bl true) ws := fun ws Q => by
      have := hf (pathN (FS S) (k + 1) m).1 true (by omega) ws Q
      rw [hall, er1] at this
      exact this
    have t3 : ∀ ws Q, Gf (m_chain_holds c [S.d c, .int m, .int ((k + 1 : Nat) : Int), .tup [.str "look", intsD (pathN (FS S) (k + 1) m).1]] ws) Q = Q (.bl false) ws := fun ws Q => by
      have := hf (pathN (FS S) (k + 1) m).1 false (by omega) ws Q
      rw [hall, er1] at this
      exact this
    obtain ⟨pm, hpm⟩ : ∃ pm, pm = (pathN (FS S) (k + 1) m).1 ++ [0] := ⟨_, rfl⟩
    obtain ⟨pd, hpd⟩ : ∃ pd, pd = (pathN (FS S) (k + 1) m).1.dropLast := ⟨_, rfl⟩
    have lm : pm.length ≤ 1000 := by rw [hpm, List.length_append, List.length_singleton]; omega
    have ld : pd.length ≤ 1000 := by rw [hpd, List.length_dropLast]; omega
    rw [← hpm] at er2
    rw [← hpd] at er3
    have t1 : ∀ ws Q, Gf (m_chain_holds c [S.d c, .int m, .int ((k + 1 : Nat) : Int), .tup [.str "floor", intsD pd]] ws) Q = Q (.bl false) ws := fun ws Q => by
      have := hf pd true ld ws Q
      rw [er3, show (pd.all (inLe S) && decide ((none : Option Bool) = some true)) = false by simp] at this
      exact this
    have t4 : ∀ ws Q, Gf (m_chain_holds c [S.d c, .int m, .int ((k + 1 : Nat) : Int), .tup [.str "look", intsD pd]] ws) Q = Q (.bl false) ws := fun ws Q => by
      have := hf pd false ld ws Q
      rw [er3, show (pd.all (inLe S) && decide ((none : Option Bool) = some false)) = false by simp] at this
      exact this
    have t2 : ∀ ws Q, Gf (m_chain_holds c [S.d c, .int m, .int ((k + 1 : Nat) : Int), .tup [.str "floor", intsD pm]] ws) Q = Q (.bl false) ws := fun ws Q => by
      have := hf pm true lm ws Q
      rw [er2, show (pm.all (inLe S) && decide ((none : Option Bool) = some true)) = false by simp] at this
      exact this
    have t5 : ∀ ws Q, Gf (m_chain_holds c [S.d c, .int m, .int ((k + 1 : Nat) : Int), .tup [.str "look", .tup []]] ws) Q = Q (.bl false) ws := fun ws Q => by
      have := hf [] false (by simp) ws Q
      rw [er4, show (([] : List Int).all (inLe S) && decide ((none : Option Bool) = some false)) = false by simp] at this
      exact this
    have hcat : ∀ K : List D → Prop, Cat ((pathN (FS S) (k + 1) m).1.map D.int) [.int 0] K = K (pm.map D.int) := fun K => by
      unfold Cat
      rw [hpm, List.map_append]; rfl
    have hsl : ∀ (Q : D → Prop) ws, Is (gSl (intsD (pathN (FS S) (k + 1) m).1) none (some (-1)) ws) Q = Q (intsD pd) := fun Q ws => by rw [hpd]; exact sl_last
    clear hf
    generalize (pathN (FS S) (k + 1) m).1 = path at *
    have hlen : path.length + 1 ≤ 10000 := by omega
    have hlen2 : path.length ≤ 9999 := by omega
    simp only [is_int, is_gI, hk]
    generalize ((k + 1 : Nat) : Int) = kk at *
    simp [hk, ↓e1, ↓e2, ↓e3, ↓e4, hl, ↓hs2, ↓f1, ↓f2, ↓f3, ↓htt, ↓hff, ↓t0, ↓t1, ↓t2, ↓t3, ↓t4, ↓t5, ↓hcat, ↓hsl, hlen, hlen2]
    exact q _ _ _ _ _ _ _ _ h
  · simp only [is_int, is_gI, hk]
    generalize ((k + 1 : Nat) : Int) = kk at *
    simp [hk, ↓e1, ↓e2, hl]
    exact q _ _ _ _ _ _ _ _ h
end
end ML
set_option Elab.async false
set_option linter.all false
set_option maxRecDepth 100000
set_option maxHeartbeats 200000
namespace ML
open PySem L2
section
variable {c : Cs} {ws : List OO} {cs : List Int} {b : Int}
theorem r_turn' {S : Sn} {z nn : Int} {n : Nat} (hnn : nn = (n : Int)) (p : Pl S z) (hn1 : 1 ≤ n) (hn : n ≤ 400) {x6 x7 x8 x9 x10 x11 x12 : Sl} (h : BxOk cs b) {Q : Fl → Env → List OO → Prop}
    (q : ∀ cs b x7 x8 x9 x10 x11 x12, BxOk cs b → Q .nx [.val (.loc 1), .val (.tup S.house), .val (S.d c), .val (.int nn), .val (.lst (LT S n)), .val (.lst (CT S n)), x6, x7, x8, x9, x10, x11, x12] (bx cs b)) :
    Go (BT7 c ⟨[.val (.loc 1), .val (.tup S.house), .val (S.d c), .val (.int nn), .val (.lst (LT S n)), .val (.lst (CT S n)), x6, x7, x8, x9, x10, x11, x12], bx cs b⟩) Q := by
  subst hnn
  exact r_turn p hn1 hn h q
theorem r_once77 (h : BxOk cs b) : Gf (m_law_once c [.loc 1] (bx cs b)) fun d _ => d = .bl true := by
  rw [once_eq]
  simp
  refine r_plain h fun S z cs b h p => ?_
  have hw := p.wf
  have hm := p.many
  have f1 : ∀ ws Q, Gf (m_law_made c [.tup S.house] ws) Q = Q (S.d c) ws := fun ws Q => gf_of (r_madeS hw)
  by_cases hif : (S.mo.length : Int) < 5
  · simp [↓f1, hif]
    refine r_pick (some := [6, 40, 100, 400]) h (by simp) (by simp) fun nn cs b h hnn => ?_
    have hn1 : 2 ≤ nn ∧ nn ≤ 400 := by
      simp only [List.mem_cons, List.not_mem_nil, or_false] at hnn
      omega
    clear hnn
    obtain ⟨k, hk⟩ : ∃ k : Nat, nn = ((k + 1 : Nat) : Int) := ⟨(nn - 1).toNat, by omega⟩
    have hk4 : k + 1 ≤ 400 := by omega
    obtain ⟨hlc, hb⟩ := lines_ok p (k + 1) hk4
    have f2 : ∀ ws Q, Gf (m_law_sums c [.tup S.house, .int nn] ws) Q = Q (.tup [.lst (LT S (k + 1)), .lst (CT S (k + 1))]) ws := fun ws Q => by
      rw [hk]
      exact gf_of (r_sums p hk4)
    have f3 : ∀ ws Q, Gf (m_sure_lines c [S.d c, .int nn] ws) Q = Q (intsD (lsum S (k + 1)).1) ws := fun ws Q => by
      rw [hk, ← hlc]
      exact gf_of (r_sure hw hk4)
    have f4 : ∀ Q : D → Prop, Is (atI (LT S (k + 1)) nn) Q = Q (.lst ((lsum S (k + 1)).1.map D.int)) := fun Q => by
      rw [hk]
      exact LT_at (Nat.le_refl _)
    have f5 : ∀ ws Q, Gf (m_law_same c 8 [intsD (lsum S (k + 1)).1, intsD (lsum S (k + 1)).1] ws) Q = Q (.bl true) ws := fun ws Q => gf_of (same_ints (n := 6) (by rw [lsum_len1]; omega))
    simp [↓f2, ↓f3, ↓f4, ↓f5]
    refine r_turn' hk p (by omega) hk4 h fun cs b x7 x8 x9 x10 x11 x12 h => ?_
    simp
    refine r_turn' hk p (by omega) hk4 h fun cs b x7 x8 x9 x10 x11 x12 h => ?_
    simp
    refine r_turn' hk p (by omega) hk4 h fun cs b x7 x8 x9 x10 x11 x12 h => ?_
    simp
    exact r_look77 (c := c) p hk4 hk.symm h fun cs b h => rfl
  · simp [↓f1, hif]
    refine r_pick (some := [6, 40, 100, 60]) h (by simp) (by simp) fun nn cs b h hnn => ?_
    have hn1 : 2 ≤ nn ∧ nn ≤ 400 := by
      simp only [List.mem_cons, List.not_mem_nil, or_false] at hnn
      omega
    clear hnn
    obtain ⟨k, hk⟩ : ∃ k : Nat, nn = ((k + 1 : Nat) : Int) := ⟨(nn - 1).toNat, by omega⟩
    have hk4 : k + 1 ≤ 400 := by omega
    obtain ⟨hlc, hb⟩ := lines_ok p (k + 1) hk4
    have f2 : ∀ ws Q, Gf (m_law_sums c [.tup S.house, .int nn] ws) Q = Q (.tup [.lst (LT S (k + 1)), .lst (CT S (k + 1))]) ws := fun ws Q => by
      rw [hk]
      exact gf_of (r_sums p hk4)
    have f3 : ∀ ws Q, Gf (m_sure_lines c [S.d c, .int nn] ws) Q = Q (intsD (lsum S (k + 1)).1) ws := fun ws Q => by
      rw [hk, ← hlc]
      exact gf_of (r_sure hw hk4)
    have f4 : ∀ Q : D → Prop, Is (atI (LT S (k + 1)) nn) Q = Q (.lst ((lsum S (k + 1)).1.map D.int)) := fun Q => by
      rw [hk]
      exact LT_at (Nat.le_refl _)
    have f5 : ∀ ws Q, Gf (m_law_same c 8 [intsD (lsum S (k + 1)).1, intsD (lsum S (k + 1)).1] ws) Q = Q (.bl true) ws := fun ws Q => gf_of (same_ints (n := 6) (by rw [lsum_len1]; omega))
    simp [↓f2, ↓f3, ↓f4, ↓f5]
    refine r_turn' hk p (by omega) hk4 h fun cs b x7 x8 x9 x10 x11 x12 h => ?_
    simp
    refine r_turn' hk p (by omega) hk4 h fun cs b x7 x8 x9 x10 x11 x12 h => ?_
    simp
    refine r_turn' hk p (by omega) hk4 h fun cs b x7 x8 x9 x10 x11 x12 h => ?_
    simp
    exact r_look77 (c := c) p hk4 hk.symm h fun cs b h => rfl
theorem PL (c : Cs) (ns : List Int) (hn : ns.length ≤ 63) : ∃ ws', m_law c [.lst (ns.map D.int)] [] = some (.bl true, ws') := by
  have h : Gf (m_law c [.lst (ns.map D.int)] []) fun d _ => d = .bl true := by
    unfold m_law
    simp
    refine r_box hn fun cs b h => ?_
    have := r_once77 (c := c) h
    obtain ⟨a, s, e, h2⟩ := gf_some this
    rw [gf_of e]
    simpa using h2
  obtain ⟨a, s, e, h2⟩ := gf_some h
  exact ⟨s, by rw [e, h2]⟩
end
end ML
theorem PySem.Challenge.cw_tillnextship_k77_whole_chains_of_many_ni_holds : PySem.Challenge.rw_tillnextship_k77_whole_chains_of_many_ni.Holds :=
  ML.holds ML.PL
