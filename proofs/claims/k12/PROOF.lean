import PyProof.Rows.All
import Wide.All
import OpenK.AllK
import Wide.FinOn
import KE.KStateDown
import KE.DatumIndex
import Lean
import HandS.ForMost
import HandS.Wide
import HandS.Evl
import HandS.NoneIn
import HandS.Style
import HandS.MakeKwOnly
import HandS.WideBits
import HandS.Property
import HandS.IsInst
import HandS.Defaults
import HandS.Star
import HandS.FStr
import HandS.RaiseMore
import HandS.EndBits
import HandS.HeadEnd
import HandS.Head0
import HandS.Head1
import HandS.Head2
import HandS.HeadHook1
import HandS.HeadHook2
import HandS.HeadHook3
import HandS.HeadNt
import HandS.ForExc
import HandS.CallSlots
import HandS.TupAny
import HandS.SortInts
import PyProof.Draws
import PyProof.EnumMake
import PyProof.TupleIter
import HandS.DictComp
import HandS.Conv
import PySem.Challenge.RW_paintposts_k12_whole_common_posts_seen_f
set_option Elab.async false
set_option linter.all false
set_option maxRecDepth 100000
set_option maxHeartbeats 4000000
namespace KP
open PySem PySem.Spec PyProof.Rows L2
section
variable {X : Cx}
/-! ### numbers within a plain bound -/
abbrev Big : Int := 10 ^ 200
def CB2 (i j : Int) : Prop := -Big < i ∧ i < Big ∧ -Big < j ∧ j < Big
def CBd (_ j : Int) : Prop := 0 < j ∧ j < Big
def CBs (_ j : Int) : Prop := j ≠ 0 ∧ -Big < j ∧ j < Big
theorem big_lt {i : Int} (a : -Big < i) (b : i < Big) : i.natAbs < 2 ^ 700 := by
  have h : (10 : Int) ^ 200 < 2 ^ 700 := by decide +kernel
  have e : (2 : Nat) ^ 700 = ((2 : Int) ^ 700).toNat := by decide +kernel
  unfold Big at a b
  omega
theorem op_mulB : OpR X (binaryOp .Mult) (rI CB2 fun i j => .int (i * j)) := fun pins s σ H x y v u Q I rx ry h => by
  obtain ⟨i, j, ex, ey, ⟨c1, c2, c3, c4⟩, q⟩ := h
  exact op_mulW pins s σ H x y v u Q I rx ry ⟨i, j, ex, ey, wide_mul (big_lt c1 c2) (big_lt c3 c4) (by decide) (by decide) (by decide), q⟩
theorem op_fdivB : OpR X (binaryOp .FloorDiv) (rI CBd fun i j => .int (i / j)) := fun pins s σ H x y v u Q I rx ry h => by
  obtain ⟨i, j, ex, ey, ⟨c1, c2⟩, q⟩ := h
  exact op_fdivW pins s σ H x y v u Q I rx ry ⟨i, j, ex, ey, wide_div c1 (big_lt (by unfold Big; omega) c2) (by decide) (by decide), q⟩
theorem op_fdivS : OpR X (binaryOp .FloorDiv) (rI CBs fun i j => .int (i.fdiv j)) := opI fun i j _ _ _ _ _ hc q =>
  floordiv_int hc.1 q (.inl (PyProof.noPylong_of_log2 (Nat.lt_of_lt_of_le (PySem.Flt.log2_lt_of (by decide) (big_lt hc.2.1 hc.2.2)) (by decide))))
theorem call_divmodS : CallR X (.builtin "divmod") (fun xs H Q => ∃ i j, xs = [.int i, .int j] ∧ CBs i j ∧ ∀ p, H p = none → Q (.ref p) (upd H p (.tup [.int (i.fdiv j), .int (i.fmod j)]))) := by
  intro pins s σ H xs us Q I r h
  obtain ⟨i, j, rfl, hc, q⟩ := h
  obtain ⟨u, z, rfl, ⟨t, rfl⟩, ⟨t2, rfl⟩⟩ := vals2 r
  refine divmod_int hc.1 ?_ (.inl (PyProof.noPylong_of_log2 (Nat.lt_of_lt_of_le (PySem.Flt.log2_lt_of (by decide) (big_lt hc.2.1 hc.2.2)) (by decide))))
  refine ⟨.ref s.heap.objs.size, _, ?_, rfl, q _ (I.hok.fresh (Nat.le_refl _))⟩
  refine I.laid (fun b o e => Heap.get?_push_of_some _ e) (Nat.le_refl _) ⟨by show 2 ≤ sizeLine; rw [sizeLine_eq]; decide, [.int (i.fdiv j) s.toks, .int (i.fmod j) (s.toks + 1)], .cons ⟨_, rfl⟩ (.cons ⟨_, rfl⟩ .nil), ?_⟩
  exact ⟨_, Heap.get?_push_size s.heap rfl, rfl, 0, rfl⟩
/-- a power of two written numbers -/
theorem ppow {a b c : Int} {j1 j2 : Nat} {p1 p2 pos : Pos} (h0 : (0 ≤ b ∧ b ≤ 1000000 ∧ a.natAbs < 2 ^ 64)) (h : a ^ b.toNat = c) : PE X (.BinOp (.Constant (.int a) j1 p1) .Pow (.Constant (.int b) j2 p2) pos) (tC (.int c)) := by
  subst h
  have z : PE X (.BinOp (.Constant (.int a) j1 p1) .Pow (.Constant (.int b) j2 p2) pos) (tOp (rI CPow fun i j => .int (i ^ j.toNat)) (tC (.int a)) (tC (.int b))) := pe_op op_pow pe_int pe_int
  exact ⟨fun pins s σ H Q I q => z.run pins s σ H Q I ⟨a, b, rfl, rfl, h0, q⟩⟩
/-! ### globals -/
theorem pglobI {x : Str} {i : Int} {pos : Pos} (hg : Gl X x) (h : ∃ t, X.mg x = some (.int i t)) (hd : (x == ("__debug__" : Str)) = false := by decide) : PE X (.Name x pos) (tC (.int i)) := by
  obtain ⟨t, e⟩ := h
  exact pe_glob hg e ⟨t, rfl⟩ hd
theorem pglobS {x z : Str} {pos : Pos} (hg : Gl X x) (h : ∃ t, X.mg x = some (.str z t)) (hd : (x == ("__debug__" : Str)) = false := by decide) : PE X (.Name x pos) (tC (.str z)) := by
  obtain ⟨t, e⟩ := h
  exact pe_glob hg e ⟨t, rfl⟩ hd
/-! ### a value told by what holds of it: what follows is shown once -/
def tCutE (t : TE) : TE := fun σ H Q => ∃ M : V → Hp → Prop, t σ H M ∧ ∀ v H', M v H' → Q v H'
theorem pcutE {e : Expr} {t : TE} (h : PE X e t) : PE X e (tCutE t) := ⟨fun pins s σ H Q I ⟨M, h1, h2⟩ => thn (h.run pins s σ H M I h1) fun u s2 ⟨v, H2, I2, r, m⟩ => ⟨v, H2, I2, r, h2 v H2 m⟩⟩
def tCutT (t : TT) : TT := fun σ H Q => ∃ M : Bool → Hp → Prop, t σ H M ∧ ∀ b H', M b H' → Q b H'
theorem pcutT {e : Expr} {t : TT} (h : PT X e t) : PT X e (tCutT t) := ⟨fun pins s σ H Q I ⟨M, h1, h2⟩ => thn (h.run pins s σ H M I h1) fun u s2 ⟨H2, I2, m⟩ => ⟨H2, I2, h2 _ H2 m⟩⟩
/-! ### repr and str of data -/
def rReprD (K : PySem.W.Frag) : List V → Hp → VK → Prop := fun xs H Q => ∃ (x : V) (d : PyData), xs = [x] ∧ Dp K H x d ∧ d.showable = true ∧ d.hasDict = false ∧ d.depth < 50 ∧ d.shown.length ≤ 1000000 ∧ Q (.str d.shown) H
theorem call_reprD (hg : X.A.guards = some []) (hu : X.A.units + 64 < cLine) : CallR X (.builtin "repr") (rReprD X.K) := by
  intro pins s σ H xs us Q I r h
  obtain ⟨x, d, rfl, hd, sh, nd, dp, sz, q⟩ := h
  obtain ⟨u, rfl, rx⟩ := vals1 r
  have szL : d.shown.length ≤ sizeLine := Nat.le_trans sz (by rw [sizeLine_eq]; decide)
  have fin : ∀ (h' : Heap) (tk : Nat), (∀ b o, s.heap.get? b = some o → h'.get? b = some o) → ∀ t, EP X pins σ Q (.str d.shown t) { s with heap := h', toks := tk } := fun h' tk hk t =>
    ⟨.str d.shown, H, I.kept hk, ⟨t, rfl⟩, q⟩
  obtain ⟨as, rd⟩ := Dp.reads I d x u hd rx
  have noD : d.hasDict = true → sysModules ∉ as := fun e => by
    rw [nd] at e
    cases e
  cases rd with
  | none => exact PySem.P.repr_of_none (fin _ _ (fun _ _ e => e) _)
  | bool b => exact PySem.P.repr_of_bool (fin _ _ (fun _ _ e => e) _)
  | int i t => exact PySem.P.repr_of_int (of_decide_eq_true (show decide (i.natAbs.log2 < 1920) = true from sh)) (fin _ _ (fun _ _ e => e) _)
  | str z t => exact PySem.P.repr_of_str (fin _ _ (fun _ _ e => e) _) szL
  | list a1 a2 a3 a4 => exact repr_of_reads' (.list a1 a2 a3 a4) sh noD hg (by omega) (fun _ _ e => e) (fun h' t tk hk => fin h' tk hk t) szL
  | tuple a1 a2 a3 a4 => exact repr_of_reads' (.tuple a1 a2 a3 a4) sh noD hg (by omega) (fun _ _ e => e) (fun h' t tk hk => fin h' tk hk t) szL
  | dict _ _ _ _ _ => cases nd
end
/-! ### loops and comprehensions over anything that goes n turns -/
section
variable {J : It} {n : Nat} {g : TG} {tt : TT} {te : TE} {tb : TS} {vs : List Nat} {σ : L2.St} {H H1 : Hp} {Dl : Addr} {Qd : Hp → Prop} {D : Ends}
theorem lc_by (Pv : Nat → Hp → Prop) (h0 : Pv 0 (upd H1 Dl (.lst []))) (hgo : ∀ i H, i < n → Pv i H → J.go i H) (hst : ∀ H, Pv n H → J.stop n H)
    (hs : ∀ i H x H', i < n → Pv i H → J.yld i H x H' → g x (wipe σ vs) H' fun σ2 H2 => wipe σ2 vs = wipe σ vs ∧ tt σ2 H2 fun b H3 => if b = true then te σ2 H3 fun y H4 => ∃ acc, H4 Dl = some (.lst acc) ∧ acc.length < sizeLine ∧ Pv (i + 1) (upd H4 Dl (.lst (acc ++ [y]))) else Pv (i + 1) H3)
    (hd : ∀ H, Pv n H → Qd H) : ∃ W : Nat → Nat → Hp → Prop, (∃ m, W 0 m (upd H1 Dl (.lst []))) ∧ ∀ i m H, W i m H → (J.stop i H ∧ Qd H) ∨ (J.go i H ∧ ∃ Nx : Hp → Prop, (∀ H', Nx H' → ∃ m', m' < m ∧ W (i + 1) m' H') ∧
      ∀ x H', J.yld i H x H' → g x (wipe σ vs) H' fun σ2 H2 => wipe σ2 vs = wipe σ vs ∧ tt σ2 H2 fun b H3 => if b = true then te σ2 H3 fun y H4 => ∃ acc, H4 Dl = some (.lst acc) ∧ acc.length < sizeLine ∧ Nx (upd H4 Dl (.lst (acc ++ [y]))) else Nx H3) := by
  refine ⟨fun i m H => m = n - i ∧ i ≤ n ∧ Pv i H, ⟨n, by omega, Nat.zero_le _, h0⟩, fun i m H ⟨hm, hi, pv⟩ => ?_⟩
  by_cases lt : i < n
  · exact .inr ⟨hgo i H lt pv, Pv (i + 1), fun H' z => ⟨n - (i + 1), by omega, rfl, lt, z⟩, fun x H' y => hs i H x H' lt pv y⟩
  · have e : i = n := by omega
    subst e
    exact .inl ⟨hst H pv, hd H pv⟩
theorem for_by (Pv : Nat → L2.St → Hp → Prop) (h0 : Pv 0 σ H) (hgo : ∀ i σ H, i < n → Pv i σ H → J.go i H) (hst : ∀ σ H, Pv n σ H → J.stop n H)
    (hs : ∀ i σ H x H', i < n → Pv i σ H → J.yld i H x H' → g x σ H' fun σ2 H2 => tb { D with nx := Pv (i + 1), ct := Pv (i + 1), bk := D.nx } σ2 H2) (hd : ∀ σ H, Pv n σ H → D.nx σ H) :
    ∃ W : Nat → Nat → L2.St → Hp → Prop, (∃ m, W 0 m σ H) ∧ ∀ i m σ H, W i m σ H → (J.stop i H ∧ D.nx σ H) ∨ (J.go i H ∧ ∃ N : L2.St → Hp → Prop, (∀ σ' H', N σ' H' → ∃ m', m' < m ∧ W (i + 1) m' σ' H') ∧
      ∀ x H', J.yld i H x H' → g x σ H' fun σ2 H2 => tb { D with nx := N, ct := N, bk := D.nx } σ2 H2) := by
  refine ⟨fun i m σ H => m = n - i ∧ i ≤ n ∧ Pv i σ H, ⟨n, by omega, Nat.zero_le _, h0⟩, fun i m σ H ⟨hm, hi, pv⟩ => ?_⟩
  by_cases lt : i < n
  · exact .inr ⟨hgo i σ H lt pv, Pv (i + 1), fun σ' H' z => ⟨n - (i + 1), by omega, rfl, lt, z⟩, fun x H' y => hs i σ H x H' lt pv y⟩
  · have e : i = n := by omega
    subst e
    exact .inl ⟨hst σ H pv, hd σ H pv⟩
end
/-! ### promises kept where no repr is under way -/
structure FnG (P : Program) (w : World) (K : PySem.W.Frag) (mg : Str → Option Value) (base : Heap) (k : Nat) (f : Addr) (fd : FuncData) (ps : List Str) (sp : Sp) : Prop where
  lenG : ∀ vs H Q E, sp vs H Q E → vs.length = ps.length
  runG : ∀ (A : Around) (out : List Env) (s : Shared) (H : Hp) (ar : Args) (us : List Value) (vs : List V) (Q : VK) (E : XK), A.guards = some [] → Room k A → Env0 P w K mg base A out s H →
    BindsTo s fd ar (ps.zip us) → Vals vs us → sp vs H Q E → codeAny (model P w) A (.call (.ref f) ar) (CR CX0 out P w H s Q E) s
section
variable {P : Program} {w : World} {K : PySem.W.Frag} {mg : Str → Option Value} {base : Heap} {k : Nat} {f : Addr} {fd : FuncData} {ps : List Str} {sp : Sp}
theorem FnG.of (F : FnOk P w K mg base CX0 k f fd ps sp) : FnG P w K mg base k f fd ps sp := ⟨F.len, fun A o s H ar us vs Q E _ => F.run A o s H ar us vs Q E⟩
theorem FnG.mk' {x qual : Str} {pm : Arguments} {bd : List Stmt} {sc : Scope} {dvs : List V} {kws : List (Str × V)} {N : List Str} (F : FunD K x qual pm bd sc dvs kws f fd) (S : FnScope N ps sc) (ln : ∀ vs H Q E, sp vs H Q E → vs.length = ps.length)
    (hbody : ∀ (cdv : Value) (A : Around) (out : List Env) (s : Shared) (H : Hp) (vs : List V) (Q : VK) (E : XK), A.guards = some [] → Room k (A.deeper (envOfC qual sc s.heap.objs.size f cdv)) → sp vs H Q E →
      ∃ t, PSs (cxOf CX0 P w K mg base N qual sc f cdv A out s H E) bd t ∧ t { nx := fun _ H' => Q .non H', rt := Q } (start N vs) H) : FnG P w K mg base (k + 1) f fd ps sp := by
  obtain ⟨oc, od, dV, kV, doc, pmv, an, cdv, ct, osl, rfl, lk, hcd, _, _⟩ := F.ex
  refine ⟨ln, fun A out s H ar us vs Q E gd rm en bn rel hsp => ?_⟩
  have len1 := ln _ _ _ _ hsp
  have Kin : K.In s.heap := en.mod.kin.keeps fun b o z => (en.bs b o z).1
  have lim1 : s.heap.NoLimit := en.mod.nolimit.keeps fun b o z => (en.bs b o z).1
  refine codeAny_call_function rm.depth (Kin _ _ lk) rfl S.co S.gen rfl (PySem.W.codeRec_of Kin hcd) (bn _ _ _ _ ?_)
  refine wpAny_newFunctionEnv_cells S.kind (fun ⟨n, v⟩ hy => ?_) fun env he s1 x => ?_
  · rcases S.par n (List.of_mem_zip hy).1 with z | z
    · exact .inl z
    · exact .inr ⟨z, PySem.W.cellsFrom_some _ _ _ (.inl z)⟩
  subst he
  refine ⟨lim1.keeps x.toInCall.keep, codeAny_func ?_⟩
  obtain ⟨t, ht, hq⟩ := hbody cdv A out s H vs Q E gd (rm.deeper _) hsp
  have J0 := inv_start (CX := CX0) (E := E) S rm.hd en len1 rel x
  refine wpAny_mono (ht.run [] s1 (start N vs) H _ J0 hq) (fun fl s2 hs => ?_) fun e s2 hs => hs
  cases fl with
  | ret u =>
    obtain ⟨v, _, H2, J, rv, z⟩ := hs
    exact ⟨v, H2, J.os, J.bare, J.base, J.hok, rv, z⟩
  | next =>
    obtain ⟨_, H2, J, z⟩ := hs
    exact ⟨.non, H2, J.os, J.bare, J.base, J.hok, rfl, z⟩
  | brk =>
    obtain ⟨_, _, _, z⟩ := hs
    exact z.elim
  | cont =>
    obtain ⟨_, _, _, z⟩ := hs
    exact z.elim
/-- the law's def at its one caller -/
theorem law_end {l : PySem.W.OpenLaw} {k : Nat} {q : Program} {loose : List Str} {XP : (Str → Option Value) → Heap → Prop} {YP : World → Heap → Prop} {d : DefRec} {x : Str} (hn : l.most = some 63) (hdf : d.params.defaults = []) (hr : Room k callerA)
    (F : ∀ (w : World) (mg : Str → Option Value) (fa : Addr) (h : Heap), YP w h → h.Ns mainGlobals mg → mg d.name = some (.ref fa) →
      ∃ (K : PySem.W.Frag) (fd : FuncData) (sp : Sp), K.In h ∧ (∀ (s : Shared) (u : Value), BindsTo s fd ⟨[u], []⟩ [(x, u)]) ∧
        (∀ (H : Hp) (a : Addr) (ns : List Int), ns.length ≤ 63 → (∀ z ∈ ns, Builtin.Int.intBits z ≤ 1048576) → SqL K H a (ns.map V.int) → sp [.ref a] H (fun v _ => v = .bl true) fun _ _ _ => False) ∧
        ∀ base : Heap, K.In base → base.Ns mainGlobals mg → FnG l.prog w K mg base k fa fd [x] sp) : PySem.W.WalkO q loose XP YP l.row.toRowW d [] (fun f vs => PySem.call f vs) := by
  refine Att.attach_callB hn hdf fun w s₀ s₁ mg mb fa o pm cd doc a vs ns G Y ho hd hcd hmg hobj hints hlen hbits hg => ?_
  obtain ⟨K, fd, sp, KX, hbind, hsp, hF⟩ := F w mg fa _ Y G.T.g hmg
  have rv := vals_ints hints
  have lenV := hints.length
  have lenS : ns.length ≤ sizeLine := Nat.le_trans hlen (by rw [sizeLine_eq]; decide)
  have main : ∀ H : Hp, Only H → SqL K H a (ns.map V.int) → HOk l.prog w H s₁.heap → (∀ b, H b ≠ none → b = a) → (H a ≠ none → K.lookup a = none) →
      codeAny (model l.prog w) callerA (.call (.ref fa) ⟨[.ref a], []⟩) (fun r s' => r = .ok (.ret (.bool true)) ∧ OldK s₁.heap s'.heap ∧ s'.os = s₁.os ∧ AllBare s'.gens) s₁ := by
    intro H onl sq hok only look
    have free : ∀ b, b ≠ a → H b = none := fun b nb => by
      cases z : H b with
      | none => rfl
      | some u => exact absurd (only b (by rw [z]; exact fun y => nomatch y)) nb
    have ns1 : ∀ {b : Addr} {m : Str → Option Value}, s₁.heap.Ns b m → (hidT s₁.heap H).Ns b m := fun {b m} ⟨ob, es, ep, e, dd, r⟩ =>
      ⟨ob, es, ep, hidT_get e (free b fun z => by
        subst z
        rw [hobj] at e
        cases e
        cases dd), dd, r⟩
    have Kb : K.In (hidT s₁.heap H) := fun b ob e => hidT_get (KX b ob e) (by
      cases z : H b with
      | none => rfl
      | some u =>
        have eb := only b (by rw [z]; exact fun y => nomatch y)
        subst eb
        have e3 := (look (by rw [z]; exact fun y => nomatch y)).symm.trans e
        cases e3)
    have md : Mod K mg (hidT s₁.heap H) := ⟨Kb, ns1 G.T.g, ⟨mb, ns1 G.T.b, G.T.builtins⟩, let ⟨mc, l1, l2⟩ := G.T.nolimit; ⟨mc, ns1 l1, l2⟩⟩
    have en : Env0 l.prog w K mg (hidT s₁.heap H) callerA [] s₁ H := ⟨rfl, md, fun b o e => of_hidT e, Nat.le_of_eq (hidT_size _ _), trivial, fun b hb => (List.not_mem_nil hb).elim, hok, .of_eq hg⟩
    refine codeAny_mono ((hF _ Kb (ns1 G.T.g)).runG callerA [] s₁ H ⟨[.ref a], []⟩ [.ref a] [.ref a] _ _ rfl hr en (hbind s₁ (.ref a)) (.cons rfl .nil) (hsp H a ns hlen hbits sq)) fun r s2 z => ?_
    cases r with
    | error e => exact z.elim
    | ok fl =>
      cases fl with
      | ret u =>
        obtain ⟨v, H2, os2, bare2, un2, hok2, r2, q2⟩ := z
        obtain rfl : v = .bl true := q2
        obtain rfl : u = Value.bool true := r2
        refine ⟨rfl, OldK.of_keep fun b o e => ?_, os2, bare2⟩
        cases hb : H b with
        | none => exact un2.keep b o e hb (fun y => (List.not_mem_nil y).elim) (fun y => (List.not_mem_nil y).elim)
        | some u =>
          rcases onl b with y | ⟨ob, xs, y⟩
          · rw [hb] at y
            cases y
          · obtain ⟨e1, _⟩ := hok b _ y
            obtain ⟨e2, _⟩ := hok2 b _ (un2.frzs b ob _ y)
            rw [e] at e1
            cases e1
            exact e2
      | next => exact z.elim
      | brk => exact z.elim
      | cont => exact z.elim
  cases hk : K.lookup a with
  | some ob =>
    have e := KX a ob hk
    rw [hobj] at e
    cases e
    exact main (fun _ => none) (fun _ => .inl rfl) (.inr ⟨_, vs.toArray, _, hk, rfl, rfl, rfl, by rw [List.size_toArray, lenV]; exact lenS, by simpa using rv⟩) (fun b u z => nomatch z) (fun b z => (z rfl).elim) fun z => (z rfl).elim
  | none =>
    refine main (fun b => if b = a then some (.frz { cls := .type "list", data := .seq vs.toArray } (.lst (ns.map V.int))) else none) (fun b => ?_) (.inl (.inr ⟨_, if_pos rfl⟩)) (fun b u z => ?_) (fun b z => Classical.byContradiction fun nb => z (if_neg nb)) fun _ => hk
    · by_cases hb : b = a
      · exact .inr ⟨_, _, if_pos hb⟩
      · exact .inl (if_neg hb)
    · by_cases hb : b = a
      · subst hb
        have y := (if_pos rfl).symm.trans z
        cases y
        exact ⟨hobj, by rw [List.length_map]; exact lenS, vs, _, rv, hobj⟩
      · exact nomatch (if_neg hb).symm.trans z
end
end KP

namespace KP
open PySem PySem.Spec PyProof.Rows L2
/-! ### the head's facts: any look that answers true or false, and defs at any address -/
abbrev Fct := PySem.W.Frag → Bool
def obsM (ex : List Fct) (fn : List He5.DefA) (K : PySem.W.Frag) : He.AlD := (ex.all (fun f => f K) && fn.all (fun d => d.ok K), fn.map fun d => He5.fnA K (d.at_ K))
def valM (fn : List He5.DefA) : He.AlD := (true, fn.map He5.DefA.val)
def SaysM (ex : List Fct) (fn : List He5.DefA) (K : PySem.W.Frag) : Prop := obsM ex fn K = valM fn
def obsMG (n : Nat) (ex : List Fct) (fn : List He5.DefA) (g : Addr → Option Obj) : He.AlD := obsM ex fn (He.frG g (He5.asA g n))
def hookM (n : Nat) (ex : List Fct) (fn : List He5.DefA) : PySem.W.Hook where
  α := He.AlD
  obs := fun s => obsMG n ex fn s.heap.get?
  val := fun _ => valM fn
  says := fun _ h => ∃ K : PySem.W.Frag, K.In h ∧ SaysM ex fn K
  of := fun _ _ e => ⟨_, He.frG_in, e⟩
  keeps := fun _ _ _ ⟨K, hK, c⟩ k => ⟨K, PySem.W.Frag.In.keeps hK k, c⟩
theorem obsMG_eq {n : Nat} {ex : List Fct} {fn : List He5.DefA} {g : Addr → Option Obj} {s : Shared} (h : ∀ a, g a = s.heap.get? a) : obsMG n ex fn g = (hookM n ex fn).obs s := by
  rw [show g = s.heap.get? from funext h] <;> rfl
section
variable {ex : List Fct} {fn : List He5.DefA} {K : PySem.W.Frag}
theorem SaysM.fact (c : SaysM ex fn K) (i : Nat) {f : Fct} (h : ex[i]? = some f := by rfl) : f K = true :=
  List.all_eq_true.mp (He.ba (congrArg (fun z : He.AlD => z.1) c)).1 f (List.mem_of_getElem? h)
theorem SaysM.fn_ (c : SaysM ex fn K) (i : Nat) {d : He5.DefA} (h : fn[i]? = some d := by rfl) : ∃ fd, FunD K d.name d.qual d.params d.body d.scope (d.dvs K) (d.kws K) (d.at_ K) fd := by
  have e1 : fn.map (fun d => He5.fnA K (d.at_ K)) = fn.map He5.DefA.val := congrArg (fun z : He.AlD => z.2) c
  have e2 := congrArg (fun l => l[i]?) e1
  simp only [List.getElem?_map, h, Option.map_some, Option.some.injEq] at e2
  exact He5.DefA.funD e2 (List.all_eq_true.mp (He.ba (congrArg (fun z : He.AlD => z.1) c)).2 d (List.mem_of_getElem? h))
end
/-! ### a property's getter -/
def pgA (K : PySem.W.Frag) (C : Addr) (f : Str) : Addr := match PySem.W.recIn K (He.ma K C f) "property" with
  | some (.ref g :: _) => g
  | _ => 0
def propB (C f : Str) : Fct := fun K => He.eqO (PySem.W.findIn K (.ref (He.ga K C)) f) (some (some (.ref (He.ma K (He.ga K C) f)))) &&
  (He.eqO (PySem.W.specialIn K (.ref (He.ma K (He.ga K C) f)) "__get__") (some (some (.builtin "property.__get__"))) && (decide (PySem.W.takesIn K (.ref (He.ma K (He.ga K C) f)) = some true) &&
    (match PySem.W.recIn K (He.ma K (He.ga K C) f) "property" with
      | some (.ref _ :: _) => true
      | _ => false)))
theorem propB_ok {K : PySem.W.Frag} {C f : Str} (h : propB C f K = true) : PropOf K (He.ga K C) f (He.ma K (He.ga K C) f) (pgA K (He.ga K C) f) := by
  obtain ⟨h1, h⟩ := He.ba h
  obtain ⟨h2, h⟩ := He.ba h
  obtain ⟨h3, h4⟩ := He.ba h
  refine ⟨He.eqO_ok h1, He.eqO_ok h2, of_decide_eq_true h3, ?_⟩
  unfold pgA
  cases e : PySem.W.recIn K (He.ma K (He.ga K C) f) "property" with
  | none =>
    rw [e] at h4
    cases h4
  | some l =>
    rw [e] at h4
    cases l with
    | nil => cases h4
    | cons v r =>
      cases v with
      | ref g => exact ⟨r, rfl⟩
      | _ => cases h4
/-- a def, as its callers want it -/
structure Cal (P : Program) (w : World) (K : PySem.W.Frag) (mg : Str → Option Value) (base : Heap) (k : Nat) (f : Addr) (fd : FuncData) (ps : List Str) (sp : Sp) : Prop where
  F : FnOk P w K mg base CX0 k f fd ps sp
  kp : PySem.W.keepIn K (.ref f) = true
  b : Binds K fd ps []
/-- the same for a call that leaves out defaults -/
structure CalD (P : Program) (w : World) (K : PySem.W.Frag) (mg : Str → Option Value) (base : Heap) (k : Nat) (f : Addr) (fd : FuncData) (ps : List Str) (sp : Sp) (dvs : List V) (ds : List Value) : Prop where
  F : FnOk P w K mg base CX0 k f fd ps sp
  kp : PySem.W.keepIn K (.ref f) = true
  bd : Binds K fd ps ds
  vd : Vals dvs ds
/-- the class constant's fact -/
theorem con_of {K : PySem.W.Frag} {C f : Str} {i : Int} (h : He.conB K C f (.int i) = true) (hc : PySem.W.copiedNames.contains f = false := by decide) : ∃ u, Con K (He.ga K C) f (.int i) u := He.conB_ok h hc
/-- an empty tuple of the written part -/
def tup0B (a : PySem.W.Frag → Addr) : Fct := fun K => match K.lookup (a K) with
  | some ⟨.type c, _, .seq its _, _⟩ => decide (c = "tuple") && its.isEmpty
  | _ => false
theorem tup0B_ok {K : PySem.W.Frag} {a : PySem.W.Frag → Addr} (h : tup0B a K = true) (H : Hp) : SqT K H (a K) [] := by
  unfold tup0B at h
  cases q : K.lookup (a K) with
  | none =>
    rw [q] at h
    cases h
  | some o =>
    obtain ⟨oc, od, dt, osl⟩ := o
    rw [q] at h
    cases oc with
    | type c =>
      cases dt with
      | seq its n =>
        obtain ⟨h1, h2⟩ := He.ba h
        have e := Array.isEmpty_iff.mp h2
        subst e
        exact .inr ⟨_, #[], n, q, congrArg Value.type (of_decide_eq_true h1), rfl, Nat.zero_le _, .nil⟩
      | _ => cases h
    | _ => cases dt <;> cases h
/-! ### heaps: all but the pen is kept -/
structure Ext (p : Addr) (H H' : Hp) : Prop where
  was : ∃ kvs, H p = some (.dK kvs)
  is_ : ∃ kvs, H' p = some (.dK kvs)
  keep : ∀ a o, a ≠ p → H a = some o → H' a = some o
section
variable {p q a : Addr} {H H1 H2 H' : Hp} {K : PySem.W.Frag} {xs : List V} {o : HO}
theorem Ext.trans (a : Ext p H H1) (b : Ext p H1 H2) : Ext p H H2 := ⟨a.was, b.is_, fun x o n h => b.keep x o n (a.keep x o n h)⟩
theorem Ext.refl (h : ∃ kvs, H p = some (.dK kvs)) : Ext p H H := ⟨h, h, fun _ _ _ h => h⟩
theorem Ext.at (e : Ext p H H') (h : H a = some o) (n : ∀ kvs, o ≠ .dK kvs) : H' a = some o := by
  obtain ⟨kvs, hp⟩ := e.was
  exact e.keep a o (ne_of h hp (n kvs)) h
theorem Ext.l (e : Ext p H H') (h : SqL K H a xs) : SqL K H' a xs := by
  rcases h with (h | ⟨o, h⟩) | h
  · exact .inl (.inl (e.at h fun _ z => nomatch z))
  · exact .inl (.inr ⟨o, e.at h fun _ z => nomatch z⟩)
  · exact .inr h
theorem Ext.t (e : Ext p H H') (h : SqT K H a xs) : SqT K H' a xs := by
  rcases h with (h | ⟨o, h⟩) | h
  · exact .inl (.inl (e.at h fun _ z => nomatch z))
  · exact .inl (.inr ⟨o, e.at h fun _ z => nomatch z⟩)
  · exact .inr h
theorem Ext.ins {C dx : Addr} {fs : List (Str × V)} (e : Ext p H H') (h : H a = some (.ins C dx fs)) : H' a = some (.ins C dx fs) := e.at h fun _ z => nomatch z
theorem Ext.new (w : ∃ kvs, H p = some (.dK kvs)) (h : H q = none) : Ext p H (upd H q o) := by
  obtain ⟨kvs, hp⟩ := w
  have n : p ≠ q := ne_of_none hp h
  exact ⟨⟨kvs, hp⟩, ⟨kvs, by rw [upd_ne n]; exact hp⟩, fun b u _ hb => by rw [upd_ne (ne_of_none hb h)]; exact hb⟩
theorem Ext.put {kvs kvs' : List (Key × V)} (h : H p = some (.dK kvs)) : Ext p H (upd H p (.dK kvs')) := ⟨⟨_, h⟩, ⟨_, upd_same⟩, fun b u n hb => by rw [upd_ne n]; exact hb⟩
theorem Ext.back (e : Ext p H H') (h : H' q = none) : H q = none := by
  cases z : H q with
  | none => rfl
  | some u =>
    by_cases n : q = p
    · obtain ⟨kvs, hp⟩ := e.is_
      rw [n, hp] at h
      cases h
    · rw [e.keep q u n z] at h
      cases h
/-- an object that H does not know may change -/
theorem Ext.mut (e : Ext p H H') (h : H q = none) : Ext p H (upd H' q o) := by
  obtain ⟨kvs, hp⟩ := e.was
  obtain ⟨kvs', hp'⟩ := e.is_
  have n : p ≠ q := ne_of_none hp h
  exact ⟨⟨kvs, hp⟩, ⟨kvs', by rw [upd_ne n]; exact hp'⟩, fun b u nb hb => by rw [upd_ne (ne_of_none hb h)]; exact e.keep b u nb hb⟩
theorem Ext.same (w : ∃ kvs, H p = some (.dK kvs)) (s : Same H H') : Ext p H H' := by
  obtain ⟨kvs, hp⟩ := w
  exact ⟨⟨kvs, hp⟩, ⟨kvs, s _ _ hp⟩, fun b u _ hb => s b u hb⟩
theorem Same.new (h : H q = none) : Same H (upd H q o) := fun b u hb => by
  rw [upd_ne (ne_of_none hb h)]
  exact hb
theorem Same.mut (e : Same H H') (h : H q = none) : Same H (upd H' q o) := fun b u hb => by
  rw [upd_ne (ne_of_none hb h)]
  exact e b u hb
theorem Same.tup (e : Same H H') (h : SqT K H a xs) : SqT K H' a xs := by
  rcases h with (h | ⟨o, h⟩) | h
  · exact .inl (.inl (e _ _ h))
  · exact .inl (.inr ⟨o, e _ _ h⟩)
  · exact .inr h
end
/-! ### the pen -/
def penO (c : Addr) (b r : Int) : HO := .dK [(.inr "cells", .ref c), (.inr "begun", .int b), (.inr "rest", .int r)]
/-- a pen: where it stands, where its cells stand, what they are -/
structure Pid where
  a : Addr
  c : Addr
  cs : List Int
def Pen (K : PySem.W.Frag) (H : Hp) (p : Pid) (b : Int) : Prop := ∃ r : Int, H p.a = some (penO p.c b r) ∧ SqL K H p.c (p.cs.map V.int) ∧ p.cs.length ≤ 63 ∧ 0 ≤ b ∧ 0 ≤ r
section
variable {K : PySem.W.Frag} {H H' H1 : Hp} {p c : Addr} {b b1 r : Int} {π : Pid}
theorem Pen.is_ (h : Pen K H π b) : ∃ kvs, H π.a = some (.dK kvs) := let ⟨_, e, _⟩ := h; ⟨_, e⟩
theorem Pen.nn (h : Pen K H π b) : 0 ≤ b := let ⟨_, _, _, _, e, _⟩ := h; e
/-- what keeps all tracked things keeps the pen -/
theorem Pen.same (h : Pen K H π b) (s : Same H H') : Pen K H' π b := by
  obtain ⟨r, e, l, x⟩ := h
  exact ⟨r, s _ _ e, s.seq l, x⟩
theorem Pen.new {q : Addr} {o : HO} (h : Pen K H π b) (n : H q = none) : Pen K (upd H q o) π b := h.same (Same.new n)
/-- a thing that came behind an older state of the pen may change -/
theorem Pen.mut {q : Addr} {o : HO} (h : Pen K H π b) (h1 : Pen K H1 π b1) (n : H1 q = none) : Pen K (upd H q o) π b := by
  obtain ⟨r, e, l, x⟩ := h
  obtain ⟨r1, e1, l1, x1⟩ := h1
  refine ⟨r, by rw [upd_ne (ne_of_none e1 n)]; exact e, ?_, x⟩
  rcases l1 with (l1 | ⟨o1, l1⟩) | l1
  · have nq := ne_of_none l1 n
    rcases l with (l | ⟨o2, l⟩) | l
    · exact .inl (.inl (by rw [upd_ne nq]; exact l))
    · exact .inl (.inr ⟨o2, by rw [upd_ne nq]; exact l⟩)
    · exact .inr l
  · have nq := ne_of_none l1 n
    rcases l with (l | ⟨o2, l⟩) | l
    · exact .inl (.inl (by rw [upd_ne nq]; exact l))
    · exact .inl (.inr ⟨o2, by rw [upd_ne nq]; exact l⟩)
    · exact .inr l
  · exact .inr l1
theorem pen_cells (h : H p = some (penO c b r)) : DGet H p (.str "cells") (some (.ref c)) := DGet.k (k := Sum.inr "cells") h
theorem pen_begun (h : H p = some (penO c b r)) : DGet H p (.str "begun") (some (.int b)) := DGet.k (k := Sum.inr "begun") h
theorem pen_rest (h : H p = some (penO c b r)) : DGet H p (.str "rest") (some (.int r)) := DGet.k (k := Sum.inr "rest") h
theorem put_begun (h : H p = some (penO c b r)) (x : Int) : DPut H p (.str "begun") (.int x) (upd H p (penO c x r)) := DPut.k (k := Sum.inr "begun") h (show 3 < sizeLine by rw [sizeLine_eq]; decide)
theorem put_rest (h : H p = some (penO c b r)) (x : Int) : DPut H p (.str "rest") (.int x) (upd H p (penO c b x)) := DPut.k (k := Sum.inr "rest") h (show 3 < sizeLine by rw [sizeLine_eq]; decide)
end
end KP

namespace KP
open PySem PySem.Spec PyProof.Rows L2
/-! ### constants read off a class -/
def CvOf (K : PySem.W.Frag) (C : Addr) (f : Str) (v : Int) : Prop := ClX.CRead K C (.type "type") ∧ ∃ u, ClX.CVal K C (.type "type") f (.int v) u
def cvB (C f : Str) (v : Int) : Fct := fun K => PySem.W.readsIn K (He.ga K C) (.type "type") && (He.eqO (PySem.W.specialIn K (.ref (He.ga K C)) "__getattribute__") (some (some (.builtin "type.__getattribute__"))) &&
  (match PySem.W.findCls K (.ref (He.ga K C)) (.type "type") f with
    | some (.val (.int i _)) => decide (i = v)
    | _ => false))
theorem cvB_ok {K : PySem.W.Frag} {C f : Str} {v : Int} (h : cvB C f v K = true) : CvOf K (He.ga K C) f v := by
  obtain ⟨h1, h⟩ := He.ba h
  obtain ⟨h2, h3⟩ := He.ba h
  refine ⟨⟨h1, He.eqO_ok h2⟩, ?_⟩
  split at h3
  · rename_i i t e
    have := of_decide_eq_true h3
    subst this
    exact ⟨_, e, ⟨t, rfl⟩⟩
  · cases h3
structure IsC (K : PySem.W.Frag) (C : Addr) : Prop where
  ha : PySem.W.findIn K (.ref C) "__class__" = some (some (.builtin "object.__class__"))
  hn : PySem.W.specialIn K (.builtin "object.__class__") "__get__" = some (some (.builtin "getset_descriptor.__get__"))
  htk : PySem.W.takesIn K (.builtin "object.__class__") = some true
  hm : PySem.W.mroIn K C (.type "object") = some true
  ic : ((PySem.W.clsIn K C).isSome && PySem.W.typeIn K (.ref C) == some (.type "type")) = true
def isCB (C : Str) : Fct := fun K => He.eqO (PySem.W.findIn K (.ref (He.ga K C)) "__class__") (some (some (.builtin "object.__class__"))) && (He.eqO (PySem.W.specialIn K (.builtin "object.__class__") "__get__") (some (some (.builtin "getset_descriptor.__get__"))) &&
  (PySem.W.takesIn K (.builtin "object.__class__") == some true && (PySem.W.mroIn K (He.ga K C) (.type "object") == some true && ((PySem.W.clsIn K (He.ga K C)).isSome && PySem.W.typeIn K (.ref (He.ga K C)) == some (.type "type")))))
theorem isCB_ok {K : PySem.W.Frag} {C : Str} (h : isCB C K = true) : IsC K (He.ga K C) := by
  obtain ⟨h1, h⟩ := He.ba h
  obtain ⟨h2, h⟩ := He.ba h
  obtain ⟨h3, h⟩ := He.ba h
  obtain ⟨h4, h5⟩ := He.ba h
  exact ⟨He.eqO_ok h1, He.eqO_ok h2, beq_iff_eq.mp h3, beq_iff_eq.mp h4, h5⟩
def subB (c2 c1 : Str) : Fct := fun K => PySem.W.subIn K (.ref (He.ga K c2)) (.ref (He.ga K c1)) == some false && !(Value.ref (He.ga K c1) == Value.ref (He.ga K c2))
theorem subB_ok {K : PySem.W.Frag} {c2 c1 : Str} (h : subB c2 c1 K = true) : PySem.W.subIn K (.ref (He.ga K c2)) (.ref (He.ga K c1)) = some false ∧ (Value.ref (He.ga K c1) == Value.ref (He.ga K c2)) = false := by
  obtain ⟨h1, h2⟩ := He.ba h
  exact ⟨beq_iff_eq.mp h1, by simpa using h2⟩
end KP

namespace KP
open PySem PySem.Spec PyProof.Rows L2
/-! ### texts of data are not long -/
theorem slen_tl (x : Str) : x.length = x.cps.toList.length := by
  show x.cps.size = _
  rw [Array.length_toList]
theorem slen_add (x y : Str) : (x ++ y).length = x.length + y.length := by
  have e : (x ++ y).cps.toList = x.cps.toList ++ y.cps.toList := TL.tl_append x y
  rw [slen_tl, e, List.length_append, ← slen_tl, ← slen_tl]
theorem join_le (y : Str) : ∀ ts : List Str, (Str.join y ts).length ≤ (ts.map (·.length)).sum + y.length * ts.length
  | [] => Nat.zero_le _
  | [x] => by
    show x.length ≤ x.length + 0 + y.length * 1
    omega
  | x :: z :: r => by
    show (x ++ y ++ Str.join y (z :: r)).length ≤ _
    have ih := join_le y (z :: r)
    rw [slen_add, slen_add, List.map_cons, List.sum_cons, List.length_cons, Nat.mul_add, Nat.mul_one]
    omega
theorem tupleText_le (ts : List Str) : (tupleText ts).length ≤ (ts.map (·.length)).sum + 2 * ts.length + 3 := by
  unfold tupleText
  rw [slen_add, slen_add]
  have h := join_le ", " ts
  have h1 : (", " : Str).length = 2 := rfl
  have h2 : ("(" : Str).length = 1 := rfl
  rw [h1] at h
  have h3 : (Str.ofString (if ts.length == 1 then ",)" else ")")).length ≤ 2 := by
    split <;> decide
  omega
theorem textFrom_le : ∀ (ts : List Str) (k : Nat) (acc : Str), (textFrom k acc ts).length ≤ acc.length + (ts.map (·.length)).sum + 2 * ts.length
  | [], k, acc => by
    show acc.length ≤ _
    simp
  | t :: r, k, acc => by
    have ih := textFrom_le r (k + 1) ((acc ++ (if k > 0 then ", " else "" : String)) ++ t)
    have e : textFrom k acc (t :: r) = textFrom (k + 1) ((acc ++ (if k > 0 then ", " else "" : String)) ++ t) r := rfl
    rw [e]
    have h3 : (Str.ofString (if k > 0 then ", " else "")).length ≤ 2 := by
      split <;> decide
    rw [slen_add, slen_add] at ih
    rw [List.map_cons, List.sum_cons, List.length_cons]
    omega
theorem listText_le (ts : List Str) : (listText ts).length ≤ (ts.map (·.length)).sum + 2 * ts.length + 2 := by
  unfold listText
  rw [slen_add]
  have h := textFrom_le ts 0 "["
  have h1 : ("[" : Str).length = 1 := rfl
  have h2 : ("]" : Str).length = 1 := rfl
  omega
/-- data whose repr is at most n signs long -/
structure Shw (n d : Nat) (x : PyData) : Prop where
  s : x.showable = true
  h : x.hasDict = false
  d : x.depth ≤ d
  l : x.shown.length ≤ n
structure ShwA (n d : Nat) (xs : List PyData) : Prop where
  s : PyData.showableAll xs = true
  h : PyData.hasDictAll xs = false
  d : PyData.depthAll xs ≤ d
  l : ((PyData.shownAll xs).map (·.length)).sum + 2 * xs.length ≤ n
theorem shw_none : Shw 10 0 .none := ⟨rfl, rfl, Nat.le_refl _, by decide⟩
theorem shw_bool (b : Bool) : Shw 10 0 (.bool b) := ⟨rfl, rfl, Nat.le_refl _, by cases b <;> decide⟩
theorem shw_int {i : Int} (a : -Big < i) (b : i < Big) : Shw 1000 0 (.int i) := by
  have h := big_lt a b
  have h2 : i.natAbs.log2 < 700 := PySem.Flt.log2_lt_of (by decide) h
  refine ⟨decide_eq_true (by omega), rfl, Nat.le_refl _, ?_⟩
  have := PySem.int_text_length_le (a := i) (k := 700) (by decide) h2
  show (Str.ofString (toString i)).length ≤ 1000
  rw [PySem.ofString_length]
  omega
theorem ShwA.nil : ShwA 0 0 [] := ⟨rfl, rfl, Nat.le_refl _, Nat.le_refl _⟩
theorem ShwA.cons {n m c d : Nat} {x : PyData} {xs : List PyData} (h : Shw n c x) (r : ShwA m d xs) : ShwA (n + 2 + m) (max c d) (x :: xs) := by
  refine ⟨?_, ?_, ?_, ?_⟩
  · show (x.showable && PyData.showableAll xs) = true
    rw [h.s, r.s]
    rfl
  · show (x.hasDict || PyData.hasDictAll xs) = false
    rw [h.h, r.h]
    rfl
  · show max x.depth (PyData.depthAll xs) ≤ max c d
    have := h.d
    have := r.d
    omega
  · show ((x.shown :: PyData.shownAll xs).map (·.length)).sum + 2 * (xs.length + 1) ≤ _
    rw [List.map_cons, List.sum_cons]
    have := h.l
    have := r.l
    omega
theorem shownAll_len : ∀ xs : List PyData, (PyData.shownAll xs).length = xs.length
  | [] => rfl
  | x :: r => by
    show (PyData.shownAll r).length + 1 = r.length + 1
    rw [shownAll_len r]
theorem shw_tup {n d : Nat} {xs : List PyData} (r : ShwA n d xs) : Shw (n + 3) (d + 1) (.tuple xs) := by
  refine ⟨r.s, r.h, Nat.succ_le_succ r.d, ?_⟩
  have h := tupleText_le (PyData.shownAll xs)
  rw [shownAll_len] at h
  have := r.l
  show (tupleText (PyData.shownAll xs)).length ≤ _
  omega
theorem shw_lst {n d : Nat} {xs : List PyData} (r : ShwA n d xs) : Shw (n + 3) (d + 1) (.list xs) := by
  refine ⟨r.s, r.h, Nat.succ_le_succ r.d, ?_⟩
  have h := listText_le (PyData.shownAll xs)
  rw [shownAll_len] at h
  have := r.l
  show (listText (PyData.shownAll xs)).length ≤ _
  omega
theorem Shw.up {n m c d : Nat} {x : PyData} (h : Shw n c x) (hn : n ≤ m) (hd : c ≤ d) : Shw m d x := ⟨h.s, h.h, Nat.le_trans h.d hd, Nat.le_trans h.l hn⟩
end KP

/-! Data without a heap: what a value stands for, what a def's names stand for. -/
namespace KD
open PySem PySem.Spec PyProof.Rows L2 KP
/-- data -/
inductive D where
  | non | bl (b : Bool) | int (i : Int) | str (x : Str) | ty (n : String) | cls (C : Str)
  | lst (xs : List D) | tup (xs : List D)
  | dic (kvs : List (Key × D)) | dit (kvs : List (List Key × D))
  | obj (C : Str) (fs : List (Str × D))
/-- an exception: its class and its fields -/
structure XC where
  c : Str
  fs : List (Str × D)
/-- a field of an object that changes: data, or a list, a dict, a list of dicts of its own -/
inductive MF where
  | d (x : D) | lst (xs : List D) | dk (kvs : List (Key × D)) | dt (kvs : List (List Key × D)) | ldk (ds : List (List (Key × D)))
/-- what a name stands for: data that stays as it is; a list, a dict of its own; the pen -/
inductive B where
  | d (x : D) | own (xs : List D) | odk (kvs : List (Key × D)) | odt (kvs : List (List Key × D)) | pen | scr (n : Nat) | slf (C : Str) (fs : List (Str × D)) | mob (C : Str) (ms : List (Str × MF))
structure En where
  sl : List (Option B)
  b : Int
mutual
/-- a value that stands for data, in a heap that only grows -/
inductive Rep (K : PySem.W.Frag) (G : Hp) : V → D → Prop
  | non : Rep K G .non .non
  | bl (b : Bool) : Rep K G (.bl b) (.bl b)
  | int (i : Int) : Rep K G (.int i) (.int i)
  | str (x : Str) : Rep K G (.str x) (.str x)
  | ty (n : String) : Rep K G (.ty n) (.ty n)
  | cls (C : Str) : Rep K G (.ref (He.ga K C)) (.cls C)
  | lst {a : Addr} {vs : List V} {xs : List D} : G a = some (.lst vs) → Reps K G vs xs → Rep K G (.ref a) (.lst xs)
  | tup {a : Addr} {vs : List V} {xs : List D} : SqT K G a vs → Reps K G vs xs → Rep K G (.ref a) (.tup xs)
  | dic {a : Addr} {vs : List (Key × V)} {xs : List (Key × D)} : G a = some (.dK vs) → RepK K G vs xs → Rep K G (.ref a) (.dic xs)
  | dit {a : Addr} {vs : List (List Key × V)} {xs : List (List Key × D)} : G a = some (.dT vs) → RepT K G vs xs → Rep K G (.ref a) (.dit xs)
  | obj {a dx : Addr} {C : Str} {vs : List (Str × V)} {xs : List (Str × D)} : G a = some (.ins (He.ga K C) dx vs) → RepF K G vs xs → Rep K G (.ref a) (.obj C xs)
inductive Reps (K : PySem.W.Frag) (G : Hp) : List V → List D → Prop
  | nil : Reps K G [] []
  | cons {v : V} {x : D} {vs : List V} {xs : List D} : Rep K G v x → Reps K G vs xs → Reps K G (v :: vs) (x :: xs)
inductive RepK (K : PySem.W.Frag) (G : Hp) : List (Key × V) → List (Key × D) → Prop
  | nil : RepK K G [] []
  | cons {k : Key} {v : V} {x : D} {vs : List (Key × V)} {xs : List (Key × D)} : Rep K G v x → RepK K G vs xs → RepK K G ((k, v) :: vs) ((k, x) :: xs)
inductive RepT (K : PySem.W.Frag) (G : Hp) : List (List Key × V) → List (List Key × D) → Prop
  | nil : RepT K G [] []
  | cons {k : List Key} {v : V} {x : D} {vs : List (List Key × V)} {xs : List (List Key × D)} : Rep K G v x → RepT K G vs xs → RepT K G ((k, v) :: vs) ((k, x) :: xs)
inductive RepF (K : PySem.W.Frag) (G : Hp) : List (Str × V) → List (Str × D) → Prop
  | nil : RepF K G [] []
  | cons {k : Str} {v : V} {x : D} {vs : List (Str × V)} {xs : List (Str × D)} : Rep K G v x → RepF K G vs xs → RepF K G ((k, v) :: vs) ((k, x) :: xs)
end
section
variable {K : PySem.W.Frag} {G G' H H' : Hp}
mutual
theorem Rep.mono (s : Same G G') : ∀ {v : V} {x : D}, Rep K G v x → Rep K G' v x
  | _, _, .non => .non
  | _, _, .bl b => .bl b
  | _, _, .int i => .int i
  | _, _, .str x => .str x
  | _, _, .ty n => .ty n
  | _, _, .cls C => .cls C
  | _, _, .lst h r => .lst (s _ _ h) (Reps.mono s r)
  | _, _, .tup h r => .tup (Same.tup s h) (Reps.mono s r)
  | _, _, .dic h r => .dic (s _ _ h) (RepK.mono s r)
  | _, _, .dit h r => .dit (s _ _ h) (RepT.mono s r)
  | _, _, .obj h r => .obj (s _ _ h) (RepF.mono s r)
theorem Reps.mono (s : Same G G') : ∀ {vs : List V} {xs : List D}, Reps K G vs xs → Reps K G' vs xs
  | _, _, .nil => .nil
  | _, _, .cons h r => .cons (Rep.mono s h) (Reps.mono s r)
theorem RepK.mono (s : Same G G') : ∀ {vs : List (Key × V)} {xs : List (Key × D)}, RepK K G vs xs → RepK K G' vs xs
  | _, _, .nil => .nil
  | _, _, .cons h r => .cons (Rep.mono s h) (RepK.mono s r)
theorem RepT.mono (s : Same G G') : ∀ {vs : List (List Key × V)} {xs : List (List Key × D)}, RepT K G vs xs → RepT K G' vs xs
  | _, _, .nil => .nil
  | _, _, .cons h r => .cons (Rep.mono s h) (RepT.mono s r)
theorem RepF.mono (s : Same G G') : ∀ {vs : List (Str × V)} {xs : List (Str × D)}, RepF K G vs xs → RepF K G' vs xs
  | _, _, .nil => .nil
  | _, _, .cons h r => .cons (Rep.mono s h) (RepF.mono s r)
end
theorem Reps.length : ∀ {vs : List V} {xs : List D}, Reps K G vs xs → vs.length = xs.length
  | _, _, .nil => rfl
  | _, _, .cons _ r => by simp [Reps.length r]
theorem Reps.append : ∀ {vs ws : List V} {xs ys : List D}, Reps K G vs xs → Reps K G ws ys → Reps K G (vs ++ ws) (xs ++ ys)
  | _, _, _, _, .nil, s => s
  | _, _, _, _, .cons h r, s => .cons h (Reps.append r s)
theorem Reps.snoc {vs : List V} {xs : List D} {v : V} {x : D} (r : Reps K G vs xs) (h : Rep K G v x) : Reps K G (vs ++ [v]) (xs ++ [x]) := r.append (.cons h .nil)
theorem Reps.get : ∀ {vs : List V} {xs : List D} {i : Nat} {v : V}, Reps K G vs xs → vs[i]? = some v → ∃ x, xs[i]? = some x ∧ Rep K G v x
  | _, _, _, _, .nil, e => by simp at e
  | _, _, 0, _, .cons h _, e => by simp at e; subst e; exact ⟨_, rfl, h⟩
  | _, _, i + 1, _, .cons _ r, e => by
    obtain ⟨x, h1, h2⟩ := Reps.get (i := i) r (by simpa using e)
    exact ⟨x, by simpa using h1, h2⟩
theorem Reps.at : ∀ {vs : List V} {xs : List D} {i : Nat} {x : D}, Reps K G vs xs → xs[i]? = some x → ∃ v, vs[i]? = some v ∧ Rep K G v x
  | _, _, _, _, .nil, e => by simp at e
  | _, _, 0, _, .cons h _, e => by simp at e; subst e; exact ⟨_, rfl, h⟩
  | _, _, i + 1, _, .cons _ r, e => by
    obtain ⟨v, h1, h2⟩ := Reps.at (i := i) r (by simpa using e)
    exact ⟨v, by simpa using h1, h2⟩
theorem Reps.set {v : V} {x : D} (h : Rep K G v x) : ∀ {vs : List V} {xs : List D} (i : Nat), Reps K G vs xs → Reps K G (vs.set i v) (xs.set i x)
  | _, _, _, .nil => .nil
  | _, _, 0, .cons _ r => .cons h r
  | _, _, i + 1, .cons q r => .cons q (Reps.set h i r)
theorem Reps.take : ∀ {vs : List V} {xs : List D} (n : Nat), Reps K G vs xs → Reps K G (vs.take n) (xs.take n)
  | _, _, 0, _ => by simp; exact .nil
  | _, _, _ + 1, .nil => .nil
  | _, _, n + 1, .cons h r => .cons h (Reps.take n r)
theorem Reps.drop : ∀ {vs : List V} {xs : List D} (n : Nat), Reps K G vs xs → Reps K G (vs.drop n) (xs.drop n)
  | _, _, 0, r => r
  | _, _, _ + 1, .nil => .nil
  | _, _, n + 1, .cons _ r => Reps.drop n r
theorem Reps.rep {v : V} {x : D} (h : Rep K G v x) : ∀ n : Nat, Reps K G (List.replicate n v) (List.replicate n x)
  | 0 => .nil
  | n + 1 => .cons h (Reps.rep h n)
theorem RepF.lookup : ∀ {vs : List (Str × V)} {xs : List (Str × D)} {f : Str} {x : D}, RepF K G vs xs → xs.lookup f = some x → ∃ v, vs.lookup f = some v ∧ Rep K G v x
  | _, _, _, _, .nil, e => by simp at e
  | _, _, f, x, .cons (k := k) h r, e => by
    rw [List.lookup_cons] at e ⊢
    cases q : f == k with
    | true => rw [q] at e; cases e; exact ⟨_, rfl, h⟩
    | false => rw [q] at e; exact RepF.lookup r e
theorem RepF.lookup0 : ∀ {vs : List (Str × V)} {xs : List (Str × D)} {f : Str}, RepF K G vs xs → xs.lookup f = none → vs.lookup f = none
  | _, _, _, .nil, _ => rfl
  | _, _, f, .cons (k := k) h r, e => by
    rw [List.lookup_cons] at e ⊢
    cases q : f == k with
    | true => rw [q] at e; cases e
    | false => rw [q] at e; exact RepF.lookup0 r e
end
/-! ### what stays and what may change -/
structure Ctx where
  π : Option Pid
  μ : List Addr
  an : Hp
  hk : Hp
  G0 : Hp
  H0 : Hp
/-! ### objects that change -/
def MFR (K : PySem.W.Frag) (G H : Hp) (v : V) : MF → Prop
  | .d x => Rep K G v x
  | .lst xs => ∃ a vs, v = .ref a ∧ H a = some (.lst vs) ∧ Reps K G vs xs
  | .dk xs => ∃ a vs, v = .ref a ∧ H a = some (.dK vs) ∧ RepK K G vs xs
  | .dt xs => ∃ a vs, v = .ref a ∧ H a = some (.dT vs) ∧ RepT K G vs xs
  | .ldk ds => ∃ a us, v = .ref a ∧ H a = some (.lst us) ∧ Paired (fun (u : V) (kvs : List (Key × D)) => ∃ c vs, u = .ref c ∧ H c = some (.dK vs) ∧ RepK K G vs kvs) us ds
abbrev MFs (K : PySem.W.Frag) (G H : Hp) : List (Str × V) → List (Str × MF) → Prop := Paired fun x y => x.1 = y.1 ∧ MFR K G H x.2 y.2
def adL : V → List Addr
  | .ref a => [a]
  | _ => []
def itL (H : Hp) : V → List Addr
  | .ref a => match H a with
    | some (.lst us) => us.flatMap adL
    | _ => []
  | _ => []
def fpF (H : Hp) (v : V) : MF → List Addr
  | .d _ => []
  | .lst _ => adL v
  | .dk _ => adL v
  | .dt _ => adL v
  | .ldk _ => adL v ++ itL H v
def fpFs (H : Hp) : List (Str × V) → List (Str × MF) → List Addr
  | x :: vs, y :: ms => fpF H x.2 y.2 ++ fpFs H vs ms
  | _, _ => []
def fpO (H : Hp) (ms : List (Str × MF)) : V → List Addr
  | .ref a => a :: (match H a with
    | some (.ins _ _ vs) => fpFs H vs ms
    | _ => [])
  | _ => []
/-- what a name's own object consists of -/
def fpV (H : Hp) (v : V) : B → List Addr
  | .own _ => adL v
  | .odk _ => adL v
  | .odt _ => adL v
  | .slf _ _ => adL v
  | .mob _ ms => fpO H ms v
  | _ => []
def fpB (H : Hp) : Option (Option V) → Option (Option B) → List Addr
  | some (some v), some (some b) => fpV H v b
  | _, _ => []
section
variable {K : PySem.W.Frag} {G G' H H' : Hp}
theorem itL_ref {a : Addr} {us : List V} (h : H a = some (.lst us)) : itL H (.ref a) = us.flatMap adL := by simp only [itL, h]
theorem fpO_ref {a C dx : Addr} {vs : List (Str × V)} {ms : List (Str × MF)} (h : H a = some (.ins C dx vs)) : fpO H ms (.ref a) = a :: fpFs H vs ms := by simp only [fpO, h]
theorem MFR.frame (gg : Same G G') {v : V} {m : MF} (kp : ∀ c ∈ fpF H v m, H' c = H c) (h : MFR K G H v m) : MFR K G' H' v m ∧ fpF H' v m = fpF H v m := by
  cases m with
  | d x => exact ⟨Rep.mono gg h, rfl⟩
  | lst x => obtain ⟨a, vs, rfl, h1, h2⟩ := h; exact ⟨⟨a, vs, rfl, by rw [kp a (List.mem_cons_self ..)]; exact h1, h2.mono gg⟩, rfl⟩
  | dk x => obtain ⟨a, vs, rfl, h1, h2⟩ := h; exact ⟨⟨a, vs, rfl, by rw [kp a (List.mem_cons_self ..)]; exact h1, h2.mono gg⟩, rfl⟩
  | dt x => obtain ⟨a, vs, rfl, h1, h2⟩ := h; exact ⟨⟨a, vs, rfl, by rw [kp a (List.mem_cons_self ..)]; exact h1, h2.mono gg⟩, rfl⟩
  | ldk x =>
    obtain ⟨a, us, rfl, h1, h2⟩ := h
    have ea : H' a = H a := kp a (List.mem_append_left _ (List.mem_cons_self ..))
    have ei : itL H' (.ref a) = itL H (.ref a) := by rw [itL_ref h1, itL_ref (ea.trans h1)]
    refine ⟨⟨a, us, rfl, by rw [ea]; exact h1, ?_⟩, by show adL (.ref a) ++ itL H' (.ref a) = _; rw [ei]; rfl⟩
    have hu : ∀ c, V.ref c ∈ us → H' c = H c := fun c hc => kp c (List.mem_append_right _ (by show c ∈ itL H (.ref a); rw [itL_ref h1]; exact List.mem_flatMap.mpr ⟨_, hc, List.mem_cons_self ..⟩))
    clear h1 ea ei kp
    induction h2 with
    | nil => exact .nil
    | cons h r ih =>
      obtain ⟨c, vs, rfl, q1, q2⟩ := h
      exact .cons ⟨c, vs, rfl, by rw [hu c (List.mem_cons_self ..)]; exact q1, q2.mono gg⟩ (ih fun c hc => hu c (List.mem_cons_of_mem _ hc))
theorem MFs.frame (gg : Same G G') {vs : List (Str × V)} {ms : List (Str × MF)} (kp : ∀ c ∈ fpFs H vs ms, H' c = H c) (h : MFs K G H vs ms) : MFs K G' H' vs ms ∧ fpFs H' vs ms = fpFs H vs ms := by
  induction h with
  | nil => exact ⟨.nil, rfl⟩
  | @cons x y vs ms h r ih =>
    obtain ⟨h1, h2⟩ := MFR.frame gg (fun c hc => kp c (List.mem_append_left _ hc)) h.2
    obtain ⟨r1, r2⟩ := ih fun c hc => kp c (List.mem_append_right _ hc)
    exact ⟨.cons ⟨h.1, h1⟩ r1, by show fpF H' x.2 y.2 ++ _ = fpF H x.2 y.2 ++ _; rw [h2, r2]⟩
/-- what is tracked there -/
def Trk (H : Hp) (c : Addr) : Prop := ∃ o, H c = some o ∧ ∀ xs, o ≠ .tup xs
theorem MFR.trk {v : V} {m : MF} (h : MFR K G H v m) : ∀ c ∈ fpF H v m, Trk H c := fun c hc => by
  cases m with
  | d x => cases hc
  | lst x => obtain ⟨a, vs, rfl, h1, h2⟩ := h; cases List.mem_singleton.mp hc; exact ⟨_, h1, fun _ z => nomatch z⟩
  | dk x => obtain ⟨a, vs, rfl, h1, h2⟩ := h; cases List.mem_singleton.mp hc; exact ⟨_, h1, fun _ z => nomatch z⟩
  | dt x => obtain ⟨a, vs, rfl, h1, h2⟩ := h; cases List.mem_singleton.mp hc; exact ⟨_, h1, fun _ z => nomatch z⟩
  | ldk x =>
    obtain ⟨a, us, rfl, h1, h2⟩ := h
    rcases List.mem_append.mp hc with z | z
    · cases List.mem_singleton.mp z; exact ⟨_, h1, fun _ z => nomatch z⟩
    · have z : c ∈ us.flatMap adL := by
        have : itL H (.ref a) = us.flatMap adL := itL_ref h1
        rw [← this]; exact z
      obtain ⟨u, hu, hcu⟩ := List.mem_flatMap.mp z
      clear h1 hc z
      induction h2 with
      | nil => cases hu
      | cons h r ih =>
        rcases List.mem_cons.mp hu with rfl | hu
        · obtain ⟨c', vs, rfl, q1, q2⟩ := h
          cases List.mem_singleton.mp hcu
          exact ⟨_, q1, fun _ z => nomatch z⟩
        · exact ih hu
theorem MFs.trk {vs : List (Str × V)} {ms : List (Str × MF)} (h : MFs K G H vs ms) : ∀ c ∈ fpFs H vs ms, Trk H c := by
  induction h with
  | nil => exact fun _ hc => nomatch hc
  | cons h r ih =>
    intro c hc
    rcases List.mem_append.mp hc with z | z
    · exact h.2.trk c z
    · exact ih c z
end
def SlotR (K : PySem.W.Frag) (C : Ctx) (G H : Hp) (v : Option V) : Option B → Prop
  | none => True
  | some (.d x) => ∃ u, v = some u ∧ Rep K G u x
  | some (.own xs) => ∃ a vs, v = some (.ref a) ∧ H a = some (.lst vs) ∧ G a = none ∧ C.H0 a = none ∧ Reps K G vs xs
  | some (.odk xs) => ∃ a vs, v = some (.ref a) ∧ H a = some (.dK vs) ∧ G a = none ∧ C.H0 a = none ∧ RepK K G vs xs
  | some (.odt xs) => ∃ a vs, v = some (.ref a) ∧ H a = some (.dT vs) ∧ G a = none ∧ C.H0 a = none ∧ RepT K G vs xs
  | some .pen => ∃ p, C.π = some p ∧ v = some (.ref p.a)
  | some (.scr n) => ∃ a vs, v = some (.ref a) ∧ SqL K G a vs ∧ vs.length = n
  | some (.slf N fs) => ∃ a dx vs, C.μ = [a] ∧ v = some (.ref a) ∧ H a = some (.ins (He.ga K N) dx vs) ∧ G a = none ∧ RepF K G vs fs
  | some (.mob N ms) => ∃ a dx vs, v = some (.ref a) ∧ H a = some (.ins (He.ga K N) dx vs) ∧ MFs K G H vs ms ∧ (fpO H ms (.ref a)).Nodup ∧ ∀ c ∈ fpO H ms (.ref a), G c = none ∧ (c ∈ C.μ ∨ C.H0 c = none)
/-- nothing was tracked there, or a tuple -/
def NewA (H : Hp) (a : Addr) : Prop := H a = none ∨ ∃ xs, H a = some (.tup xs)
theorem NewA.no {H : Hp} {a : Addr} {o : HO} (n : NewA H a) (h : H a = some o) (t : ∀ xs, o ≠ .tup xs) : False := by
  rcases n with n | ⟨xs, n⟩
  · rw [n] at h; cases h
  · rw [n] at h; cases h; exact t xs rfl
/-- all but the pen and some objects is kept; the data grows by new objects -/
structure Fr (K : PySem.W.Frag) (π : Option Pid) (μ : List Addr) (G H G' H' : Hp) (b' : Int) : Prop where
  gg : Same G G'
  sub : Same G' H'
  new : ∀ a, G' a ≠ none → G a = none → NewA H a
  keep : ∀ a o, H a = some o → (∀ p, π = some p → a ≠ p.a) → a ∉ μ → H' a = some o
  pen : ∀ p, π = some p → Pen K H' p b' ∧ G' p.a = none
  slf : ∀ x ∈ μ, G' x = none ∧ Trk H' x
/-- nothing of a name's own there -/
abbrev Free (H : Hp) (σ : L2.St) (en : En) (a : Addr) : Prop := ∀ j : Nat, a ∉ fpB H σ[j]? en.sl[j]?
structure Rel (K : PySem.W.Frag) (C : Ctx) (G H : Hp) (σ : L2.St) (en : En) : Prop where
  fr : Fr K C.π C.μ C.G0 C.H0 G H en.b
  pen0 : ∀ p, C.π = some p → ∃ b0, Pen K C.H0 p b0
  npn : ∀ p x, C.π = some p → x ∈ C.μ → x ≠ p.a ∧ (x ≠ p.c ∨ ∃ Z dx fs, C.H0 x = some (.ins Z dx fs))
  slf0 : ∀ x ∈ C.μ, C.H0 x ≠ none
  anc : Same C.an G
  hkk : ∀ a o, C.hk a = some o → H a = some o ∧ (∀ xs, o ≠ .tup xs) ∧ G a = none ∧ C.H0 a = none ∧ Free H σ en a
  len : σ.length = en.sl.length
  slot : ∀ (i : Nat) (v : Option V) (b : Option B), σ[i]? = some v → en.sl[i]? = some b → SlotR K C G H v b
  dist : ∀ (i j : Nat) (a : Addr), a ∈ fpB H σ[i]? en.sl[i]? → a ∈ fpB H σ[j]? en.sl[j]? → i = j
/-- only new objects, all of them data -/
structure Gr (G H G' H' : Hp) : Prop where
  gg : Same G G'
  sub : Same G' H'
  hh : Same H H'
  new : ∀ a, G' a ≠ none → G a = none → H a = none
theorem Pen.mutM {K : PySem.W.Frag} {H H0 : Hp} {p : Pid} {b b0 : Int} {x : Addr} {o : HO} (h : Pen K H p b) (h0 : Pen K H0 p b0) (na : x ≠ p.a) (nc : x ≠ p.c ∨ ∃ Z dx fs, H0 x = some (.ins Z dx fs)) : Pen K (upd H x o) p b := by
  obtain ⟨r, e, l, y⟩ := h
  obtain ⟨r1, e1, l1, y1⟩ := h0
  refine ⟨r, by rw [upd_ne (Ne.symm na)]; exact e, ?_, y⟩
  by_cases q : x = p.c
  · rcases nc with nc | ⟨Z, dx, fs, nc⟩
    · exact absurd q nc
    · rw [q] at nc
      rcases l1 with (l1 | ⟨o1, l1⟩) | l1
      · rw [nc] at l1; cases l1
      · rw [nc] at l1; cases l1
      · exact .inr l1
  · rcases l with (l | ⟨o2, l⟩) | l
    · exact .inl (.inl (by rw [upd_ne (Ne.symm q)]; exact l))
    · exact .inl (.inr ⟨o2, by rw [upd_ne (Ne.symm q)]; exact l⟩)
    · exact .inr l
section
variable {K : PySem.W.Frag} {C : Ctx} {G H G' H' G2 H2 : Hp} {σ : L2.St} {en : En} {π : Option Pid} {b b' b2 : Int}
theorem Gr.refl (s : Same G H) : Gr G H G H := ⟨Same.refl G, s, Same.refl H, fun _ h n => absurd n h⟩
theorem Gr.new1 (s : Same G H) {p : Addr} {o : HO} (n : H p = none) : Gr G H (upd G p o) (upd H p o) := by
  have ng : G p = none := s.free n
  refine ⟨KP.Same.new ng, fun a u e => ?_, KP.Same.new n, fun a h g => ?_⟩
  · by_cases q : a = p
    · subst q; rw [upd_same] at e ⊢; exact e
    · rw [upd_ne q] at e ⊢; exact s _ _ e
  · by_cases q : a = p
    · subst q; exact n
    · rw [upd_ne q] at h; exact absurd g h
theorem Gr.fr (g : Gr G H G' H') (sub : ∀ p, π = some p → Pen K H p b ∧ G p.a = none) : Fr K π [] G H G' H' b := by
  refine ⟨g.gg, g.sub, fun a h1 h2 => .inl (g.new a h1 h2), fun a o h _ _ => g.hh _ _ h, fun p e => ?_, fun x e => nomatch e⟩
  obtain ⟨h1, h2⟩ := sub p e
  refine ⟨h1.same g.hh, ?_⟩
  cases q : G' p.a with
  | none => rfl
  | some o =>
    have := g.new p.a (by rw [q]; exact fun z => nomatch z) h2
    obtain ⟨kvs, e'⟩ := h1.is_
    rw [e'] at this; cases this
theorem Fr.trk (x : Fr K π [] G H G' H' b') {c : Addr} (np : ∀ p, π = some p → c ≠ p.a) (t : Trk H c) (g : G c = none) : H' c = H c ∧ G' c = none := by
  obtain ⟨o, h, nt⟩ := t
  refine ⟨(x.keep c o h np (fun q => nomatch q)).trans h.symm, ?_⟩
  cases q : G' c with
  | none => rfl
  | some u => exact ((x.new c (by rw [q]; exact fun z => nomatch z) g).no h nt).elim
theorem Fr.trans {μ : List Addr} (x : Fr K π μ G H G' H' b') (y : Fr K π [] G' H' G2 H2 b2) (npn : ∀ p x, π = some p → x ∈ μ → x ≠ p.a) : Fr K π μ G H G2 H2 b2 := by
  have sl : ∀ z ∈ μ, G2 z = none ∧ Trk H2 z := fun z e => by
    obtain ⟨g1, t⟩ := x.slf z e
    obtain ⟨h2, g2⟩ := y.trk (fun p hp => npn p z hp e) t g1
    obtain ⟨o, h, nt⟩ := t
    exact ⟨g2, o, h2.trans h, nt⟩
  refine ⟨x.gg.trans y.gg, y.sub, fun a h g => ?_, fun a o h n m => y.keep _ _ (x.keep _ _ h n m) n (fun q => nomatch q), y.pen, sl⟩
  cases q : G' a with
  | some o => exact x.new a (by rw [q]; exact fun z => nomatch z) g
  | none =>
    have e := y.new a h q
    cases r : H a with
    | none => exact .inl r
    | some o =>
      by_cases z : ∀ p, π = some p → a ≠ p.a
      · by_cases z2 : a ∈ μ
        · exact absurd (sl a z2).1 h
        · have hk := x.keep _ _ r z z2
          rcases e with e | ⟨xs, e⟩
          · rw [hk] at e; cases e
          · rw [hk] at e; cases e; exact .inr ⟨xs, r⟩
      · exact absurd (fun p hp eq => by
          subst eq
          exact h (y.pen p hp).2) z
theorem Rel.sub (R : Rel K C G H σ en) : Same G H := R.fr.sub
theorem Rel.penG (R : Rel K C G H σ en) : ∀ p, C.π = some p → Pen K H p en.b ∧ G p.a = none := R.fr.pen
theorem Rel.pnH (R : Rel K C G H σ en) : ∀ p, C.π = some p → C.H0 p.a ≠ none := fun p e => by
  obtain ⟨b0, h⟩ := R.pen0 p e
  obtain ⟨kvs, q⟩ := h.is_
  rw [q]; exact fun z => nomatch z
/-- what is one's own is tracked, no data, and old or new -/
theorem SlotR.trk {v : Option V} {b : Option B} (sl : ∀ x ∈ C.μ, C.H0 x ≠ none) (s : SlotR K C G H v b) : ∀ c ∈ fpB H (some v) (some b), Trk H c ∧ G c = none ∧ (c ∈ C.μ ∨ C.H0 c = none) := fun c hc => by
  cases v with
  | none => cases b <;> cases hc
  | some v =>
    cases b with
    | none => cases hc
    | some b =>
      have hc : c ∈ fpV H v b := hc
      cases b with
      | d x => cases hc
      | pen => cases hc
      | scr n => cases hc
      | own xs => obtain ⟨a, vs, e, h1, h2, h3, _⟩ := s; cases e; cases List.mem_singleton.mp hc; exact ⟨⟨_, h1, fun _ z => nomatch z⟩, h2, .inr h3⟩
      | odk xs => obtain ⟨a, vs, e, h1, h2, h3, _⟩ := s; cases e; cases List.mem_singleton.mp hc; exact ⟨⟨_, h1, fun _ z => nomatch z⟩, h2, .inr h3⟩
      | odt xs => obtain ⟨a, vs, e, h1, h2, h3, _⟩ := s; cases e; cases List.mem_singleton.mp hc; exact ⟨⟨_, h1, fun _ z => nomatch z⟩, h2, .inr h3⟩
      | slf N fs => obtain ⟨a, dx, vs, m, e, h1, h2, _⟩ := s; cases e; cases List.mem_singleton.mp hc; exact ⟨⟨_, h1, fun _ z => nomatch z⟩, h2, .inl (by rw [m]; exact List.mem_cons_self ..)⟩
      | mob N ms =>
        obtain ⟨a, dx, vs, e, h1, h2, h3, h4⟩ := s
        cases e
        refine ⟨?_, h4 c hc⟩
        have e0 : fpO H ms (.ref a) = a :: fpFs H vs ms := fpO_ref h1
        have hc : c ∈ fpO H ms (.ref a) := hc
        rw [e0] at hc
        rcases List.mem_cons.mp hc with rfl | hc
        · exact ⟨_, h1, fun _ z => nomatch z⟩
        · exact h2.trk c hc
theorem SlotR.frame {v : Option V} {b : Option B} (gg : Same G G') (kp : ∀ c ∈ fpB H (some v) (some b), H' c = H c ∧ G' c = none) (s : SlotR K C G H v b) : SlotR K C G' H' v b ∧ fpB H' (some v) (some b) = fpB H (some v) (some b) := by
  cases v with
  | none =>
    cases b with
    | none => exact ⟨trivial, rfl⟩
    | some b =>
      cases b with
      | d x => obtain ⟨u, e, _⟩ := s; cases e
      | pen => obtain ⟨u, _, e⟩ := s; cases e
      | scr n => obtain ⟨u, _, e, _⟩ := s; cases e
      | own xs => obtain ⟨a, vs, e, _⟩ := s; cases e
      | odk xs => obtain ⟨a, vs, e, _⟩ := s; cases e
      | odt xs => obtain ⟨a, vs, e, _⟩ := s; cases e
      | slf N fs => obtain ⟨a, dx, vs, m, e, _⟩ := s; cases e
      | mob N ms => obtain ⟨a, dx, vs, e, _⟩ := s; cases e
  | some v =>
    cases b with
    | none => exact ⟨trivial, rfl⟩
    | some b =>
      have kp : ∀ c ∈ fpV H v b, H' c = H c ∧ G' c = none := kp
      cases b with
      | d x => obtain ⟨u, e, h⟩ := s; exact ⟨⟨u, e, Rep.mono gg h⟩, rfl⟩
      | pen => exact ⟨s, rfl⟩
      | scr n => obtain ⟨a, vs, e, h, l⟩ := s; exact ⟨⟨a, vs, e, gg.seq h, l⟩, rfl⟩
      | own xs => obtain ⟨a, vs, e, h1, h2, h3, r⟩ := s; cases e; have k := kp a (List.mem_cons_self ..); exact ⟨⟨a, vs, rfl, k.1.trans h1, k.2, h3, r.mono gg⟩, rfl⟩
      | odk xs => obtain ⟨a, vs, e, h1, h2, h3, r⟩ := s; cases e; have k := kp a (List.mem_cons_self ..); exact ⟨⟨a, vs, rfl, k.1.trans h1, k.2, h3, r.mono gg⟩, rfl⟩
      | odt xs => obtain ⟨a, vs, e, h1, h2, h3, r⟩ := s; cases e; have k := kp a (List.mem_cons_self ..); exact ⟨⟨a, vs, rfl, k.1.trans h1, k.2, h3, r.mono gg⟩, rfl⟩
      | slf N fs => obtain ⟨a, dx, vs, m, e, h1, h2, r⟩ := s; cases e; have k := kp a (List.mem_cons_self ..); exact ⟨⟨a, dx, vs, m, rfl, k.1.trans h1, k.2, r.mono gg⟩, rfl⟩
      | mob N ms =>
        obtain ⟨a, dx, vs, e, h1, h2, h3, h4⟩ := s
        cases e
        have e0 : fpO H ms (.ref a) = a :: fpFs H vs ms := fpO_ref h1
        have kp : ∀ c ∈ fpO H ms (.ref a), H' c = H c ∧ G' c = none := kp
        rw [e0] at kp
        have ka := kp a (List.mem_cons_self ..)
        obtain ⟨f1, f2⟩ := MFs.frame gg (fun c hc => (kp c (List.mem_cons_of_mem _ hc)).1) h2
        have e1 : fpO H' ms (.ref a) = fpO H ms (.ref a) := by
          rw [e0, fpO_ref (ka.1.trans h1), f2]
        refine ⟨⟨a, dx, vs, rfl, ka.1.trans h1, f1, by rw [e1]; exact h3, fun c hc => ?_⟩, e1⟩
        rw [e1] at hc
        exact ⟨(kp c (by rw [← e0]; exact hc)).2, (h4 c hc).2⟩
theorem fpB_none {j : Nat} {l : List (Option B)} (h : l[j]? = none) {v : Option (Option V)} : fpB H v l[j]? = [] := by rw [h]; cases v with | none => rfl | some v => cases v <;> rfl
/-- where a name's own object is, there the name is -/
theorem Rel.at_ (R : Rel K C G H σ en) {j : Nat} {c : Addr} (h : c ∈ fpB H σ[j]? en.sl[j]?) : ∃ v b, σ[j]? = some v ∧ en.sl[j]? = some b ∧ SlotR K C G H v b ∧ Trk H c ∧ G c = none ∧ (c ∈ C.μ ∨ C.H0 c = none) := by
  cases q1 : σ[j]? with
  | none => rw [q1] at h; cases h
  | some v =>
    cases q2 : en.sl[j]? with
    | none => rw [fpB_none q2] at h; cases h
    | some b =>
      have s := R.slot j v b q1 q2
      rw [q1, q2] at h
      exact ⟨v, b, rfl, rfl, s, s.trk R.slf0 c h⟩
theorem Rel.notPen (R : Rel K C G H σ en) {c : Addr} (h : c ∈ C.μ ∨ C.H0 c = none) : ∀ p, C.π = some p → c ≠ p.a := fun p hp z => by
  rcases h with h | h
  · exact (R.npn p c hp h).1 z
  · exact R.pnH p hp (by rw [← z]; exact h)
/-- all names stay, the heap changes elsewhere -/
theorem Rel.chg (R : Rel K C G H σ en) (f : Fr K C.π C.μ C.G0 C.H0 G' H' b') (gg : Same G G') (kp : ∀ (i : Nat) (c : Addr), c ∈ fpB H σ[i]? en.sl[i]? → H' c = H c ∧ G' c = none) (hk : ∀ a o, C.hk a = some o → H' a = some o ∧ G' a = none) : Rel K C G' H' σ { en with b := b' } := by
  have fp : ∀ i : Nat, fpB H' σ[i]? en.sl[i]? = fpB H σ[i]? en.sl[i]? := fun i => by
    cases q1 : σ[i]? with
    | none => rfl
    | some v =>
      cases q2 : en.sl[i]? with
      | none => cases v <;> rfl
      | some b =>
        have k := kp i
        rw [q1, q2] at k
        exact ((R.slot i v b q1 q2).frame gg k).2
  refine ⟨f, R.pen0, R.npn, R.slf0, R.anc.trans gg, fun a o h => ?_, R.len, fun i v b h1 h2 => ?_, fun i j a h1 h2 => ?_⟩
  · obtain ⟨h1, ht, h2, h3, h4⟩ := R.hkk a o h
    exact ⟨(hk a o h).1, ht, (hk a o h).2, h3, fun j => by show a ∉ fpB H' σ[j]? en.sl[j]?; rw [fp j]; exact h4 j⟩
  · have k := kp i
    rw [h1, show en.sl[i]? = some b from h2] at k
    exact ((R.slot i v b h1 h2).frame gg k).1
  · exact R.dist i j a (by rw [← fp i]; exact h1) (by rw [← fp j]; exact h2)
theorem Rel.hkc (R : Rel K C G H σ en) (x : Fr K C.π [] G H G' H' b') : ∀ a o, C.hk a = some o → H' a = some o ∧ G' a = none := fun a o h => by
  obtain ⟨h1, ht, h2, h3, h4⟩ := R.hkk a o h
  have k := x.trk (R.notPen (.inr h3)) ⟨o, h1, ht⟩ h2
  exact ⟨k.1.trans h1, k.2⟩
theorem Rel.call (R : Rel K C G H σ en) (x : Fr K C.π [] G H G' H' b') : Rel K C G' H' σ { en with b := b' } :=
  R.chg (R.fr.trans x fun p x h1 h2 => (R.npn p x h1 h2).1) x.gg (fun i c hc => by
    obtain ⟨v, b, _, _, _, t, g, z⟩ := R.at_ hc
    exact x.trk (R.notPen z) t g) (R.hkc x)
theorem Rel.grow (R : Rel K C G H σ en) (x : Gr G H G' H') : Rel K C G' H' σ en := R.call (x.fr R.penG)
theorem Rel.newF (R : Rel K C G H σ en) {p : Addr} {o : HO} (n : H p = none) : Rel K C (upd G p o) (upd H p o) σ en := R.grow (Gr.new1 R.sub n)
theorem Rel.var (R : Rel K C G H σ en) {i : Nat} {b : B} (h : en.sl[i]? = some (some b)) : ∃ v, σ[i]? = some (some v) ∧ SlotR K C G H (some v) (some b) := by
  have hi : i < σ.length := by
    rw [R.len]
    exact (List.getElem?_eq_some_iff.mp h).1
  have e : σ[i]? = some σ[i] := List.getElem?_eq_getElem hi
  have s := R.slot i _ _ e h
  cases b with
  | d x => obtain ⟨u, q, r⟩ := s; rw [q] at e; exact ⟨u, e, u, rfl, r⟩
  | own x => obtain ⟨u, vs, q, r⟩ := s; rw [q] at e; exact ⟨_, e, u, vs, rfl, r⟩
  | odk x => obtain ⟨u, vs, q, r⟩ := s; rw [q] at e; exact ⟨_, e, u, vs, rfl, r⟩
  | odt x => obtain ⟨u, vs, q, r⟩ := s; rw [q] at e; exact ⟨_, e, u, vs, rfl, r⟩
  | pen => obtain ⟨p, q1, q⟩ := s; rw [q] at e; exact ⟨_, e, p, q1, rfl⟩
  | scr n => obtain ⟨u, vs, q, r⟩ := s; rw [q] at e; exact ⟨_, e, u, vs, rfl, r⟩
  | slf N fs => obtain ⟨u, dx, vs, m, q, r⟩ := s; rw [q] at e; exact ⟨_, e, u, dx, vs, m, rfl, r⟩
  | mob N ms => obtain ⟨u, dx, vs, q, r⟩ := s; rw [q] at e; exact ⟨_, e, u, dx, vs, rfl, r⟩
/-- the end of a def -/
theorem Rel.out (R : Rel K C G H σ en) : Fr K C.π C.μ C.G0 C.H0 G H en.b := R.fr
def En.set (en : En) (i : Nat) (b : Option B) : En := { en with sl := en.sl.set i b }
theorem get_set {α : Type} {l : List α} {i j : Nat} {x y : α} (h : (l.set i x)[j]? = some y) : (i = j ∧ y = x) ∨ (i ≠ j ∧ l[j]? = some y) := by
  by_cases e : i = j
  · subst e
    rw [List.getElem?_set] at h
    simp at h
    exact .inl ⟨rfl, h.2.symm⟩
  · rw [List.getElem?_set_ne e] at h
    exact .inr ⟨e, h⟩
/-- a name gets a value; the heap may have changed, where the other names have nothing -/
theorem Rel.put (R : Rel K C G H σ en) {i : Nat} {w : Option V} {c : Option B} (f : Fr K C.π C.μ C.G0 C.H0 G' H' b') (gg : Same G G') (kp : ∀ (j : Nat) (d : Addr), j ≠ i → d ∈ fpB H σ[j]? en.sl[j]? → H' d = H d ∧ G' d = none) (hk : ∀ a o, C.hk a = some o → H' a = some o ∧ G' a = none)
    (hb : SlotR K C G' H' w c) (dj : ∀ d ∈ fpB H' (some w) (some c), C.hk d = none ∧ ∀ j : Nat, j ≠ i → d ∉ fpB H σ[j]? en.sl[j]?) : Rel K C G' H' (σ.set i w) ⟨en.sl.set i c, b'⟩ := by
  have ne : ∀ j : Nat, j ≠ i → (σ.set i w)[j]? = σ[j]? ∧ (en.sl.set i c)[j]? = en.sl[j]? := fun j h => ⟨List.getElem?_set_ne (Ne.symm h), List.getElem?_set_ne (Ne.symm h)⟩
  have fp : ∀ j : Nat, j ≠ i → fpB H' (σ.set i w)[j]? (en.sl.set i c)[j]? = fpB H σ[j]? en.sl[j]? := fun j h => by
    rw [(ne j h).1, (ne j h).2]
    cases q1 : σ[j]? with
    | none => rfl
    | some v =>
      cases q2 : en.sl[j]? with
      | none => cases v <;> rfl
      | some b =>
        have k := fun d => kp j d h
        rw [q1, q2] at k
        exact ((R.slot j v b q1 q2).frame gg k).2
  have fi : ∀ d, d ∈ fpB H' (σ.set i w)[i]? (en.sl.set i c)[i]? → d ∈ fpB H' (some w) (some c) := fun d h => by
    rw [List.getElem?_set, List.getElem?_set] at h
    simp only [if_true] at h
    by_cases l1 : i < σ.length
    · rw [if_pos l1, if_pos (by rw [← R.len]; exact l1)] at h; exact h
    · rw [if_neg l1] at h; cases h
  refine ⟨f, R.pen0, R.npn, R.slf0, R.anc.trans gg, fun a o h => ?_, by simp [R.len], fun j v b h1 h2 => ?_, fun j k a h1 h2 => ?_⟩
  · obtain ⟨h1, ht, h2, h3, h4⟩ := R.hkk a o h
    refine ⟨(hk a o h).1, ht, (hk a o h).2, h3, fun j z => ?_⟩
    by_cases e : j = i
    · subst e
      have := (dj a (fi a z)).1
      rw [h] at this; cases this
    · have z : a ∈ fpB H' (σ.set i w)[j]? (en.sl.set i c)[j]? := z
      rw [fp j e] at z; exact h4 j z
  · rcases get_set h1 with ⟨e, rfl⟩ | ⟨e, z1⟩
    · rcases get_set (show (en.sl.set i c)[j]? = some b from h2) with ⟨_, rfl⟩ | ⟨e', _⟩
      · exact hb
      · exact absurd e e'
    · rcases get_set (show (en.sl.set i c)[j]? = some b from h2) with ⟨e', _⟩ | ⟨_, z2⟩
      · exact absurd e' e
      · have k := fun d => kp j d (Ne.symm e)
        rw [z1, z2] at k
        exact ((R.slot j v b z1 z2).frame gg k).1
  · have h1 : a ∈ fpB H' (σ.set i w)[j]? (en.sl.set i c)[j]? := h1
    have h2 : a ∈ fpB H' (σ.set i w)[k]? (en.sl.set i c)[k]? := h2
    by_cases e1 : j = i
    · by_cases e2 : k = i
      · exact e1.trans e2.symm
      · subst e1
        rw [fp k e2] at h2
        exact absurd h2 ((dj a (fi a h1)).2 k e2)
    · by_cases e2 : k = i
      · subst e2
        rw [fp j e1] at h1
        exact absurd h1 ((dj a (fi a h2)).2 j e1)
      · rw [fp j e1] at h1
        rw [fp k e2] at h2
        exact R.dist j k a h1 h2
theorem Rel.hkH (R : Rel K C G H σ en) : ∀ a o, C.hk a = some o → H a = some o ∧ G a = none := fun a o h => ⟨(R.hkk a o h).1, (R.hkk a o h).2.2.1⟩
theorem Rel.kp0 (R : Rel K C G H σ en) {i : Nat} : ∀ (j : Nat) (d : Addr), j ≠ i → d ∈ fpB H σ[j]? en.sl[j]? → H d = H d ∧ G d = none := fun j d _ h => by
  obtain ⟨_, _, _, _, _, _, g, _⟩ := R.at_ h
  exact ⟨rfl, g⟩
/-- what owns nothing -/
def isOwn : Option (Option B) → Bool
  | some (some (.own _)) => true
  | some (some (.odk _)) => true
  | some (some (.odt _)) => true
  | some (some (.slf _ _)) => true
  | some (some (.mob _ _)) => true
  | _ => false
theorem fpV_no {v : V} {b : B} (no : isOwn (some (some b)) = false) : fpV H v b = [] := by cases b <;> first | rfl | cases no
theorem Rel.setD (R : Rel K C G H σ en) {i : Nat} {v : V} {b : B} (hb : SlotR K C G H (some v) (some b)) (no : isOwn (some (some b)) = false) : Rel K C G H (σ.set i (some v)) (en.set i (some b)) :=
  R.put R.fr (Same.refl G) R.kp0 R.hkH hb fun d hd => by
    have hd : d ∈ fpV H v b := hd
    rw [fpV_no no] at hd; cases hd
/-- a name gets a new object of its own -/
theorem Rel.setO (R : Rel K C G H σ en) {i : Nat} {a : Addr} {b : B} (hb : SlotR K C G H (some (.ref a)) (some b)) (sg : fpV H (.ref a) b = [a]) (fresh : Free H σ en a) (hn : C.hk a = none) : Rel K C G H (σ.set i (some (.ref a))) (en.set i (some b)) :=
  R.put R.fr (Same.refl G) R.kp0 R.hkH hb fun d hd => by
    have hd : d ∈ fpV H (.ref a) b := hd
    rw [sg] at hd
    cases List.mem_singleton.mp hd
    exact ⟨hn, fun j _ => fresh j⟩
/-- an own object is tracked, so a new one is none of them -/
theorem Rel.freshO (R : Rel K C G H σ en) {a : Addr} (n : H a = none) : Free H σ en a := fun j h => by
  obtain ⟨_, _, _, _, _, ⟨o, t, _⟩, _⟩ := R.at_ h
  rw [n] at t; cases t
theorem Rel.freeN (R : Rel K C G H σ en) {a : Addr} {o : HO} (n : H a = none) : Free (upd H a o) σ en a := fun j h => by
  have kp : ∀ c, c ∈ fpB H σ[j]? en.sl[j]? → upd H a o c = H c ∧ G c = none := fun c hc => by
    obtain ⟨_, _, _, _, _, ⟨u, t, _⟩, g, _⟩ := R.at_ hc
    exact ⟨by rw [upd_ne (ne_of_none t n)], g⟩
  have e : fpB (upd H a o) σ[j]? en.sl[j]? = fpB H σ[j]? en.sl[j]? := by
    cases q1 : σ[j]? with
    | none => rfl
    | some v =>
      cases q2 : en.sl[j]? with
      | none => cases v <;> rfl
      | some b => rw [q1, q2] at kp; exact ((R.slot j v b q1 q2).frame (Same.refl G) kp).2
  rw [e] at h
  exact R.freshO n j h
/-- a new object that is not data yet -/
theorem Rel.newH (R : Rel K C G H σ en) {p : Addr} {o : HO} (n : H p = none) : Rel K C G (upd H p o) σ en := by
  have f : Fr K C.π [] G H G (upd H p o) en.b := by
    refine ⟨Same.refl G, fun a u e => KP.Same.new n a u (R.sub a u e), fun a h g => absurd g h, fun a u e _ _ => KP.Same.new n a u e, fun q e => ⟨(R.penG q e).1.new n, (R.penG q e).2⟩, fun _ q => nomatch q⟩
  exact R.call f
theorem Rel.H0 (R : Rel K C G H σ en) {p : Addr} (n : H p = none) : C.H0 p = none := by
  cases q : C.H0 p with
  | none => rfl
  | some o =>
    by_cases z : ∀ r, C.π = some r → p ≠ r.a
    · by_cases z2 : p ∈ C.μ
      · obtain ⟨o2, e, _⟩ := (R.fr.slf p z2).2
        rw [n] at e; cases e
      · rw [R.fr.keep _ _ q z z2] at n; cases n
    · exact absurd (fun r hr eq => by
        subst eq
        obtain ⟨kvs, e⟩ := (R.penG r hr).1.is_
        rw [n] at e; cases e) z
/-- the frame behind a change of what is one's own -/
theorem Rel.frU (R : Rel K C G H σ en) {a : Addr} {o : HO} (ga : G a = none) (ht : ∀ xs, o ≠ .tup xs) (h0 : a ∈ C.μ ∨ C.H0 a = none) : Fr K C.π C.μ C.G0 C.H0 G (upd H a o) en.b := by
  have nd : ∀ c u, G c = some u → c ≠ a := fun c u e z => by subst z; rw [ga] at e; cases e
  refine ⟨R.fr.gg, fun c u e => by rw [upd_ne (nd c u e)]; exact R.sub c u e, R.fr.new, fun c u e n m => ?_, fun p e => ⟨?_, (R.penG p e).2⟩, fun x e => ⟨(R.fr.slf x e).1, ?_⟩⟩
  · have : c ≠ a := fun z => by
      subst z
      rcases h0 with h0 | h0
      · exact m h0
      · rw [h0] at e; cases e
    rw [upd_ne this]; exact R.fr.keep c u e n m
  · obtain ⟨b0, p0⟩ := R.pen0 p e
    rcases h0 with h0 | h0
    · exact Pen.mutM (R.penG p e).1 p0 (R.npn p a e h0).1 (R.npn p a e h0).2
    · exact (R.penG p e).1.mut p0 h0
  · by_cases q : x = a
    · subst q; exact ⟨o, upd_same, ht⟩
    · obtain ⟨u, h1, h2⟩ := (R.fr.slf x e).2
      exact ⟨u, by rw [upd_ne q]; exact h1, h2⟩
/-- an own object changes: H at a -/
theorem Rel.updO (R : Rel K C G H σ en) {i : Nat} {a : Addr} {o : HO} {v : V} {b0 b : B} (hi : σ[i]? = some (some v)) (hs : en.sl[i]? = some (some b0)) (ha : a ∈ fpV H v b0) (ht : ∀ xs, o ≠ .tup xs)
    (hb : SlotR K C G (upd H a o) (some v) (some b)) (fp : ∀ d ∈ fpV (upd H a o) v b, d ∈ fpV H v b0) : Rel K C G (upd H a o) σ (en.set i (some b)) := by
  have hm : ∀ d ∈ fpV H v b0, d ∈ fpB H σ[i]? en.sl[i]? := fun d h => by rw [hi, hs]; exact h
  obtain ⟨_, _, _, _, _, _, ga, h0⟩ := R.at_ (hm a ha)
  have z := R.put (i := i) (w := some v) (c := some b) (R.frU ga ht h0) (Same.refl G) (fun j d ne hd => ?_) (fun c u h => ?_) hb fun d hd => ⟨?_, fun j ne hd' => ?_⟩
  · rw [show σ.set i (some v) = σ from by
      apply List.ext_getElem?
      intro k
      by_cases e : i = k
      · subst e
        rw [List.getElem?_set, hi]
        simp
        exact (List.getElem?_eq_some_iff.mp hi).1
      · rw [List.getElem?_set_ne e]] at z
    exact z
  · have : d ≠ a := fun q => ne (R.dist j i a (by rw [← q]; exact hd) (hm a ha))
    obtain ⟨_, _, _, _, _, _, g, _⟩ := R.at_ hd
    exact ⟨by rw [upd_ne this], g⟩
  · obtain ⟨h1, ht, h2, h3, h4⟩ := R.hkk c u h
    have : c ≠ a := fun q => h4 i (by rw [q]; exact hm a ha)
    exact ⟨by rw [upd_ne this]; exact h1, h2⟩
  · cases q : C.hk d with
    | none => rfl
    | some u => exact absurd (hm d (fp d hd)) ((R.hkk d u q).2.2.2.2 i)
  · exact ne (R.dist j i d hd' (hm d (fp d hd)))
theorem Rel.mutH (R : Rel K C G H σ en) {i : Nat} {a : Addr} {o : HO} {b0 b : B} (hi : σ[i]? = some (some (.ref a))) (hs : en.sl[i]? = some (some b0)) (s0 : fpV H (.ref a) b0 = [a]) (ht : ∀ xs, o ≠ .tup xs)
    (hb : SlotR K C G (upd H a o) (some (.ref a)) (some b)) (s1 : fpV (upd H a o) (.ref a) b = [a]) : Rel K C G (upd H a o) σ (en.set i (some b)) :=
  R.updO hi hs (by rw [s0]; exact List.mem_cons_self ..) ht hb (by rw [s0, s1]; exact fun d h => h)
/-- own objects become data -/
theorem Rel.frG (R : Rel K C G H σ en) {a : Addr} {o : HO} (ho : H a = some o) (ga : G a = none) (h0 : C.H0 a = none) : Fr K C.π C.μ C.G0 C.H0 (upd G a o) H en.b := by
  have sg : Same G (upd G a o) := KP.Same.new ga
  refine ⟨R.fr.gg.trans sg, fun c u e => ?_, fun c h g => ?_, R.fr.keep, fun p e => ⟨(R.penG p e).1, ?_⟩, fun x e => ⟨?_, (R.fr.slf x e).2⟩⟩
  · by_cases q : c = a
    · subst q; rw [upd_same] at e; cases e; exact ho
    · rw [upd_ne q] at e; exact R.sub c u e
  · by_cases q : c = a
    · subst q; exact .inl h0
    · rw [upd_ne q] at h; exact R.fr.new c h g
  · have : p.a ≠ a := fun z => R.pnH p e (by rw [z]; exact h0)
    rw [upd_ne this]; exact (R.penG p e).2
  · have : x ≠ a := fun z => R.slf0 x e (by rw [z]; exact h0)
    rw [upd_ne this]; exact (R.fr.slf x e).1
theorem Rel.freeze (R : Rel K C G H σ en) {i : Nat} {a : Addr} {o : HO} {b0 : B} {x : D} (hi : σ[i]? = some (some (.ref a))) (ho : H a = some o) (ga : G a = none) (h0 : C.H0 a = none) (hb : Rep K (upd G a o) (.ref a) x) (hs : en.sl[i]? = some (some b0)) (s0 : fpV H (.ref a) b0 = [a]) :
    Rel K C (upd G a o) H σ (en.set i (some (.d x))) := by
  have hm : a ∈ fpB H σ[i]? en.sl[i]? := by rw [hi, hs]; show a ∈ fpV H (.ref a) b0; rw [s0]; exact List.mem_cons_self ..
  have z := R.put (i := i) (w := some (.ref a)) (c := some (.d x)) (R.frG ho ga h0) (KP.Same.new ga) (fun j d ne hd => ?_) (fun c u h => ?_) ⟨_, rfl, hb⟩ fun d hd => nomatch hd
  · rw [show σ.set i (some (V.ref a)) = σ from by
      apply List.ext_getElem?
      intro k
      by_cases e : i = k
      · subst e
        rw [List.getElem?_set, hi]
        simp
        exact (List.getElem?_eq_some_iff.mp hi).1
      · rw [List.getElem?_set_ne e]] at z
    exact z
  · have : d ≠ a := fun q => ne (R.dist j i a (by rw [← q]; exact hd) hm)
    obtain ⟨_, _, _, _, _, _, g, _⟩ := R.at_ hd
    exact ⟨rfl, by rw [upd_ne this]; exact g⟩
  · obtain ⟨h1, ht, h2, h3, h4⟩ := R.hkk c u h
    have : c ≠ a := fun q => h4 i (by rw [q]; exact hm)
    exact ⟨h1, by rw [upd_ne this]; exact h2⟩
/-- an object is kept in sight -/
theorem Rel.hold (R : Rel K C G H σ en) {a : Addr} {o : HO} (h1 : H a = some o) (ht : ∀ xs, o ≠ .tup xs) (h2 : G a = none) (h3 : C.H0 a = none) (h4 : Free H σ en a) : Rel K { C with hk := upd C.hk a o } G H σ en :=
  ⟨R.fr, R.pen0, R.npn, R.slf0, R.anc, fun c u h => by
    have h : upd C.hk a o c = some u := h
    by_cases q : c = a
    · subst q
      rw [upd_same] at h; cases h
      exact ⟨h1, ht, h2, h3, h4⟩
    · rw [upd_ne q] at h; exact R.hkk c u h, R.len, R.slot, R.dist⟩
theorem Rel.unhold {a : Addr} {o : HO} (R : Rel K { C with hk := upd C.hk a o } G H σ en) (n : C.hk a = none) : Rel K C G H σ en :=
  ⟨R.fr, R.pen0, R.npn, R.slf0, R.anc, fun c u h => R.hkk c u (by show upd C.hk a o c = some u; rw [upd_ne (ne_of_none h n)]; exact h), R.len, R.slot, R.dist⟩
theorem Rel.hk0 (R : Rel K C G H σ en) {a : Addr} (n : H a = none) : C.hk a = none := by
  cases q : C.hk a with
  | none => rfl
  | some o => rw [(R.hkk a o q).1] at n; cases n
theorem Rel.weak {A : Hp} (R : Rel K { C with an := A } G H σ en) (h : Same C.an A) : Rel K C G H σ en := ⟨R.fr, R.pen0, R.npn, R.slf0, h.trans R.anc, R.hkk, R.len, R.slot, R.dist⟩
theorem Rel.anchor (R : Rel K C G H σ en) : Rel K { C with an := G } G H σ en := ⟨R.fr, R.pen0, R.npn, R.slf0, Same.refl G, R.hkk, R.len, R.slot, R.dist⟩
/-- a name is forgotten -/
theorem Rel.forget (R : Rel K C G H σ en) {i : Nat} (v : Option V) : Rel K C G H (σ.set i v) (en.set i none) :=
  R.put R.fr (Same.refl G) R.kp0 R.hkH (w := v) (c := none) trivial fun d hd => by cases v <;> cases hd
end
end KD

/-! Expressions over data. -/
namespace KD
open PySem PySem.Spec PyProof.Rows L2 KP
abbrev EK := XC → En → Prop
abbrev WE := En → (D → En → Prop) → EK → Prop
abbrev WT := En → (Bool → En → Prop) → EK → Prop
abbrev WA := En → (List B → En → Prop) → EK → Prop
def RepX (K : PySem.W.Frag) (G H : Hp) (cls : Value) (od : Option Addr) (x : XC) : Prop :=
  cls = .ref (He.ga K x.c) ∧ ((x.fs = [] ∧ od = none) ∨ ∃ a vs, od = some a ∧ H a = some (.xd vs) ∧ RepF K G vs x.fs)
def XOk (K : PySem.W.Frag) (W : WX) (C : Ctx) (E : EK) : Prop :=
  ∀ x en σ G H cls od, Rel K C G H σ en → RepX K G H cls od x → E x en → W cls od σ H
/-- an expression's reading over data -/
def Rl (K : PySem.W.Frag) (W : WX) (w : WE) : TE := fun σ H Z => ∃ C G en Q E, Rel K C G H σ en ∧ XOk K W C E ∧ w en Q E ∧
  ∀ v x G' H' en', Rel K C G' H' σ en' → Same G G' → Rep K G' v x → Q x en' → Z v H'
def RlT (K : PySem.W.Frag) (W : WX) (w : WT) : TT := fun σ H Z => ∃ C G en Q E, Rel K C G H σ en ∧ XOk K W C E ∧ w en Q E ∧
  ∀ c G' H' en', Rel K C G' H' σ en' → Same G G' → Q c en' → Z c H'
/-- arguments: data, or the pen -/
def ArgR (K : PySem.W.Frag) (C : Ctx) (G : Hp) (v : V) : B → Prop
  | .d x => Rep K G v x
  | .pen => ∃ p, C.π = some p ∧ v = .ref p.a
  | _ => False
def ArgsR (K : PySem.W.Frag) (C : Ctx) (G : Hp) : List V → List B → Prop := Paired (ArgR K C G)
def RlA (K : PySem.W.Frag) (W : WX) (w : WA) : TA := fun σ H Z => ∃ C G en Q E, Rel K C G H σ en ∧ XOk K W C E ∧ w en Q E ∧
  ∀ vs bs G' H' en', Rel K C G' H' σ en' → Same G G' → ArgsR K C G' vs bs → Q bs en' → Z vs H'
abbrev DE (X : Cx) (W : WX) (e : Expr) (w : WE) : Prop := PE X e (Rl X.K W w)
abbrev DT (X : Cx) (W : WX) (e : Expr) (w : WT) : Prop := PT X e (RlT X.K W w)
abbrev DW (X : Cx) (W : WX) (e : Expr) (w : WT) : Prop := PW X e (RlT X.K W w)
abbrev DA (X : Cx) (W : WX) (es : List Expr) (w : WA) : Prop := PA X es (RlA X.K W w)
section
variable {X : Cx} {W : WX} {e a b : Expr} {w wa wb : WE} {pos : Pos}
theorem PE.of {t t' : TE} (h : PE X e t) (k : ∀ σ H Z, t' σ H Z → t σ H Z) : PE X e t' := ⟨fun pins s σ H Q I q => h.run pins s σ H Q I (k σ H Q q)⟩
theorem PT.of {t t' : TT} (h : PT X e t) (k : ∀ σ H Z, t' σ H Z → t σ H Z) : PT X e t' := ⟨fun pins s σ H Q I q => h.run pins s σ H Q I (k σ H Q q)⟩
theorem PW.of {t t' : TT} (h : PW X e t) (k : ∀ σ H Z, t' σ H Z → t σ H Z) : PW X e t' := ⟨fun wh pins s σ H Q I q => h.run wh pins s σ H Q I (k σ H Q q)⟩
theorem PA.of {es : List Expr} {t t' : TA} (h : PA X es t) (k : ∀ σ H Z, t' σ H Z → t σ H Z) : PA X es t' := ⟨fun p pins s σ H Q I q => h.run p pins s σ H Q I (k σ H Q q)⟩
theorem OpR.or {f : Value → Value → Sem Value} {r r' : R2} (h : OpR X f r) (h' : OpR X f r') : OpR X f (fun x y H Q => r x y H Q ∨ r' x y H Q) := fun pins s σ H x y v u Q I rx ry q => by
  rcases q with q | q
  · exact h pins s σ H x y v u Q I rx ry q
  · exact h' pins s σ H x y v u Q I rx ry q
theorem CallR.or {f : Value} {r r' : List V → Hp → VK → Prop} (h : CallR X f r) (h' : CallR X f r') : CallR X f (fun x H Q => r x H Q ∨ r' x H Q) := fun pins s σ H xs us Q I rx q => by
  rcases q with q | q
  · exact h pins s σ H xs us Q I rx q
  · exact h' pins s σ H xs us Q I rx q
/-! ### names and constants -/
def eK (x : D) : WE := fun en Q _ => Q x en
def eVar (i : Nat) : WE := fun en Q _ => match en.sl[i]? with
  | some (some (.d x)) => Q x en
  | some (some (.own xs)) => Q (.lst xs) (en.set i (some (.d (.lst xs))))
  | some (some (.odk xs)) => Q (.dic xs) (en.set i (some (.d (.dic xs))))
  | some (some (.odt xs)) => Q (.dit xs) (en.set i (some (.d (.dit xs))))
  | _ => False
theorem d_const {v : V} {x : D} (h : PE X e (tC v)) (r : ∀ G, Rep X.K G v x) : DE X W e (eK x) := PE.of h fun σ H Z ⟨C, G, en, Q, E, R, xo, q, k⟩ => k v x G H en R (Same.refl G) (r G) q
theorem d_int {i j} : DE X W (.Constant (.int i) j pos) (eK (.int i)) := d_const pe_int fun _ => .int i
theorem d_bl {i j} : DE X W (.Constant (.bool i) j pos) (eK (.bl i)) := d_const pe_bl fun _ => .bl i
theorem d_non {j} : DE X W (.Constant .none j pos) (eK .non) := d_const pe_non fun _ => .non
theorem d_str {x j} : DE X W (.Constant (.str x) j pos) (eK (.str x)) := d_const pe_str fun _ => .str x
theorem d_gI {x : Str} {i : Int} (hg : Gl X x) (h : ∃ t, X.mg x = some (.int i t)) (hd : (x == ("__debug__" : Str)) = false := by decide) : DE X W (.Name x pos) (eK (.int i)) := d_const (pglobI hg h hd) fun _ => .int i
theorem d_gS {x z : Str} (hg : Gl X x) (h : ∃ t, X.mg x = some (.str z t)) (hd : (x == ("__debug__" : Str)) = false := by decide) : DE X W (.Name x pos) (eK (.str z)) := d_const (pglobS hg h hd) fun _ => .str z
theorem d_gC {x C : Str} (hg : Gl X x) (h : X.mg x = some (.ref (He.ga X.K C))) (hd : (x == ("__debug__" : Str)) = false := by decide) : DE X W (.Name x pos) (eK (.cls C)) := d_const (pe_glob hg h (v := .ref (He.ga X.K C)) rfl hd) fun _ => .cls C
theorem d_ty {x : Str} {n : String} (hg : Gl X x) (hm : X.mg x = none) (hv : bootBuiltins x = some (.type n)) (hn : x ≠ "__name__" := by decide) (hd : (x == ("__debug__" : Str)) = false := by decide) : DE X W (.Name x pos) (eK (.ty n)) :=
  d_const (pe_bltn (v := .ty n) hg hm hv rfl hn hd) fun _ => .ty n
theorem d_pow {a b c : Int} {j1 j2 : Nat} {p1 p2 : Pos} (h0 : (0 ≤ b ∧ b ≤ 1000000 ∧ a.natAbs < 2 ^ 64)) (h : a ^ b.toNat = c) : DE X W (.BinOp (.Constant (.int a) j1 p1) .Pow (.Constant (.int b) j2 p2) pos) (eK (.int c)) := d_const (ppow h0 h) fun _ => .int c
theorem d_var' {i : Nat} {x : Str} (h : PE X (.Name x pos) (tVar i)) : DE X W (.Name x pos) (eVar i) := PE.of h fun σ H Z ⟨C, G, en, Q, E, R, xo, q, k⟩ => by
  unfold eVar at q
  split at q
  · rename_i y e
    obtain ⟨v, e1, u, e2, r⟩ := R.var e
    cases e2
    exact ⟨_, e1, k _ _ G H en R (Same.refl G) r q⟩
  · rename_i y e
    obtain ⟨v, e1, a, vs, e2, h1, h2, h3, r⟩ := R.var e
    cases e2
    have sg : Same G (upd G a (.lst vs)) := KP.Same.new h2
    have r2 : Rep X.K (upd G a (.lst vs)) (.ref a) (.lst y) := .lst upd_same (r.mono sg)
    exact ⟨_, e1, k _ _ _ H _ (R.freeze e1 h1 h2 h3 r2 e rfl) sg r2 q⟩
  · rename_i y e
    obtain ⟨v, e1, a, vs, e2, h1, h2, h3, r⟩ := R.var e
    cases e2
    have sg : Same G (upd G a (.dK vs)) := KP.Same.new h2
    have r2 : Rep X.K (upd G a (.dK vs)) (.ref a) (.dic y) := .dic upd_same (r.mono sg)
    exact ⟨_, e1, k _ _ _ H _ (R.freeze e1 h1 h2 h3 r2 e rfl) sg r2 q⟩
  · rename_i y e
    obtain ⟨v, e1, a, vs, e2, h1, h2, h3, r⟩ := R.var e
    cases e2
    have sg : Same G (upd G a (.dT vs)) := KP.Same.new h2
    have r2 : Rep X.K (upd G a (.dT vs)) (.ref a) (.dit y) := .dit upd_same (r.mono sg)
    exact ⟨_, e1, k _ _ _ H _ (R.freeze e1 h1 h2 h3 r2 e rfl) sg r2 q⟩
  · exact q.elim
theorem dv (i : Nat) {x : Str} (hN : X.N[i]? = some x := by rfl) (hv : Vis X.env.scope x := by first | exact Or.inl rfl | exact Or.inr (Or.inl rfl) | exact Or.inr (Or.inr rfl)) (hd : (x == ("__debug__" : Str)) = false := by decide)
    (hcd : (x == ("__classdict__" : Str)) = false := by decide) : DE X W (.Name x pos) (eVar i) := d_var' (pe_var hN hv hd hcd)
/-! ### operators -/
abbrev O2 := D → D → (D → Prop) → Prop
abbrev O1 := D → (D → Prop) → Prop
def RD2 (K : PySem.W.Frag) (r : R2) (o : O2) : Prop := ∀ G H v u x y Q Z, Same G H → Rep K G v x → Rep K G u y → o x y Q → (∀ z w G' H', Gr G H G' H' → Rep K G' w z → Q z → Z w H') → r v u H Z
def RD1 (K : PySem.W.Frag) (r : V → Hp → VK → Prop) (o : O1) : Prop := ∀ G H v x Q Z, Same G H → Rep K G v x → o x Q → (∀ z w G' H', Gr G H G' H' → Rep K G' w z → Q z → Z w H') → r v H Z
def OpD (X : Cx) (f : Value → Value → Sem Value) (o : O2) : Prop := ∃ r, OpR X f r ∧ RD2 X.K r o
def UnD (X : Cx) (f : Value → Sem Value) (o : O1) : Prop := ∃ r, UnR X f r ∧ RD1 X.K r o
def eOp (o : O2) (wa wb : WE) : WE := fun en Q E => wa en (fun x en1 => wb en1 (fun y en2 => o x y fun z => Q z en2) E) E
def eUn (o : O1) (wa : WE) : WE := fun en Q E => wa en (fun x en1 => o x fun z => Q z en1) E
theorem rl_op {K : PySem.W.Frag} {r : R2} {o : O2} (hr : RD2 K r o) {σ : L2.St} {H : Hp} {Z : VK} (h : Rl K W (eOp o wa wb) σ H Z) : tOp r (Rl K W wa) (Rl K W wb) σ H Z := by
  obtain ⟨C, G, en, Q, E, R, xo, q, k⟩ := h
  refine ⟨C, G, en, _, E, R, xo, q, fun v x G1 H1 en1 R1 s1 r1 q1 => ?_⟩
  refine ⟨C, G1, en1, _, E, R1, xo, q1, fun u y G2 H2 en2 R2 s2 r2 q2 => ?_⟩
  exact hr G2 H2 v u x y _ Z R2.sub (r1.mono s2) r2 q2 fun z w G3 H3 g r3 q3 => k w z G3 H3 en2 (R2.grow g) ((s1.trans s2).trans g.gg) r3 q3
theorem d_op {op : Operator} {o : O2} (ho : OpD X (binaryOp op) o) (ha : DE X W a wa) (hb : DE X W b wb) : DE X W (.BinOp a op b pos) (eOp o wa wb) := by
  obtain ⟨r, h1, h2⟩ := ho
  exact PE.of (pe_op h1 ha hb) fun σ H Z => rl_op h2
theorem d_cmp {op : CmpOp} {o : O2} (ho : OpD X (compareOp op) o) (ha : DE X W a wa) (hb : DE X W b wb) (hm : behindInMarks op b = false := by rfl) : DE X W (.Compare a [op] [b] pos) (eOp o wa wb) := by
  obtain ⟨r, h1, h2⟩ := ho
  exact PE.of (pe_cmpR h1 ha hb hm) fun σ H Z => rl_op h2
theorem d_un {op : UnaryOp} {o : O1} (ho : UnD X (unaryOp op) o) (ha : DE X W a wa) : DE X W (.UnaryOp op a pos) (eUn o wa) := by
  obtain ⟨r, h1, h2⟩ := ho
  refine PE.of (pe_un h1 ha) fun σ H Z h => ?_
  obtain ⟨C, G, en, Q, E, R, xo, q, k⟩ := h
  refine ⟨C, G, en, _, E, R, xo, q, fun v x G1 H1 en1 R1 s1 r1 q1 => ?_⟩
  exact h2 G1 H1 v x _ Z R1.sub r1 q1 fun z w G3 H3 g r3 q3 => k w z G3 H3 en1 (R1.grow g) (s1.trans g.gg) r3 q3
/-- chain a op b op' c -/
def eChain (o o' : O2) (wa wb wc : WE) : WE := fun en Q E => wa en (fun x en1 => wb en1 (fun y en2 => o x y fun z => match z with
  | .bl true => wc en2 (fun u en3 => o' y u fun t => Q t en3) E
  | .bl false => Q (.bl false) en2
  | _ => False) E) E
theorem rl_chain {K : PySem.W.Frag} {wc : WE} {r r' : R2} {o o' : O2} (h2 : RD2 K r o) (h2' : RD2 K r' o') {σ : L2.St} {H : Hp} {Z : VK} (h : Rl K W (eChain o o' wa wb wc) σ H Z) : tChain r r' (Rl K W wa) (Rl K W wb) (Rl K W wc) σ H Z := by
  obtain ⟨C, G, en, Q, E, R, xo, q, k⟩ := h
  refine ⟨C, G, en, _, E, R, xo, q, fun v x G1 H1 en1 R1 s1 r1 q1 => ?_⟩
  refine ⟨C, G1, en1, _, E, R1, xo, q1, fun u y G2 H2 en2 R2 s2 r2 q2 => ?_⟩
  refine h2 G2 H2 v u x y _ _ R2.sub (r1.mono s2) r2 q2 fun z w G3 H3 g r3 q3 => ?_
  cases r3 with
  | bl c =>
    refine ⟨c, rfl, ?_⟩
    cases c with
    | true =>
      rw [if_pos rfl]
      refine ⟨C, G3, en2, _, E, R2.grow g, xo, q3, fun u4 y4 G4 H4 en4 R4 s4 r4 q4 => ?_⟩
      exact h2' G4 H4 u u4 y y4 _ Z R4.sub ((r2.mono g.gg).mono s4) r4 q4 fun z5 w5 G5 H5 g5 r5 q5 => k w5 z5 G5 H5 en4 (R4.grow g5) ((((s1.trans s2).trans g.gg).trans s4).trans g5.gg) r5 q5
    | false =>
      rw [if_neg (by decide)]
      exact k _ _ G3 H3 en2 (R2.grow g) ((s1.trans s2).trans g.gg) (.bl false) q3
  | _ => exact q3.elim
theorem d_chain {c : Expr} {wc : WE} {op op' : CmpOp} {o o' : O2} (ho : OpD X (compareOp op) o) (ho' : OpD X (compareOp op') o') (ha : DE X W a wa) (hb : DE X W b wb) (hc : DE X W c wc)
    (hm : lastMarks [op, op'] [b, c] = false := by with_unfolding_all rfl) : DE X W (.Compare a [op, op'] [b, c] pos) (eChain o o' wa wb wc) := by
  obtain ⟨r, h1, h2⟩ := ho
  obtain ⟨r', h1', h2'⟩ := ho'
  exact PE.of (pe_chain h1 h1' ha hb hc hm) fun σ H Z h => rl_chain h2 h2' h
/-! ### tests -/
def tOf (w : WE) : WT := fun en Q E => w en (fun x en1 => match x with | .bl c => Q c en1 | _ => False) E
theorem dt_val (h : DE X W e w) (hv : PT X e (tB (Rl X.K W w))) : DT X W e (tOf w) := PT.of hv fun σ H Z ⟨C, G, en, Q, E, R, xo, q, k⟩ => by
  refine ⟨C, G, en, _, E, R, xo, q, fun v x G1 H1 en1 R1 s1 r1 q1 => ?_⟩
  cases r1 with
  | bl c => exact ⟨c, rfl, k c G1 H1 en1 R1 s1 q1⟩
  | _ => exact q1.elim
theorem dt_cmp {op : CmpOp} {o : O2} (ho : OpD X (compareOp op) o) (ha : DE X W a wa) (hb : DE X W b wb) (hm : behindInMarks op b = false := by rfl) : DT X W (.Compare a [op] [b] pos) (tOf (eOp o wa wb)) := by
  obtain ⟨r, h1, h2⟩ := ho
  refine PT.of (pt_cmpR h1 ha hb hm) fun σ H Z ⟨C, G, en, Q, E, R, xo, q, k⟩ => ?_
  refine rl_op h2 ⟨C, G, en, _, E, R, xo, q, fun v x G1 H1 en1 R1 s1 r1 q1 => ?_⟩
  cases r1 with
  | bl c => exact ⟨c, rfl, k c G1 H1 en1 R1 s1 q1⟩
  | _ => exact q1.elim
def tAndD (a b : WT) : WT := fun en Q E => a en (fun c en1 => if c = true then b en1 Q E else Q false en1) E
def tOrD (a b : WT) : WT := fun en Q E => a en (fun c en1 => if c = true then Q true en1 else b en1 Q E) E
def tNotD (a : WT) : WT := fun en Q E => a en (fun c en1 => Q (!c) en1) E
section
variable {vs : List Expr} {t u : WT}
theorem rlt_and {σ : L2.St} {H : Hp} {Z : Bool → Hp → Prop} (h : RlT X.K W (tAndD t u) σ H Z) : tAnd (RlT X.K W t) (RlT X.K W u) σ H Z := by
  obtain ⟨C, G, en, Q, E, R, xo, q, k⟩ := h
  refine ⟨C, G, en, _, E, R, xo, q, fun c G1 H1 en1 R1 s1 q1 => ?_⟩
  cases c with
  | true => rw [if_pos rfl] at q1 ⊢; exact ⟨C, G1, en1, _, E, R1, xo, q1, fun c2 G2 H2 en2 R2 s2 q2 => k c2 G2 H2 en2 R2 (s1.trans s2) q2⟩
  | false => rw [if_neg (by decide)] at q1 ⊢; exact k false G1 H1 en1 R1 s1 q1
theorem rlt_or {σ : L2.St} {H : Hp} {Z : Bool → Hp → Prop} (h : RlT X.K W (tOrD t u) σ H Z) : tOr (RlT X.K W t) (RlT X.K W u) σ H Z := by
  obtain ⟨C, G, en, Q, E, R, xo, q, k⟩ := h
  refine ⟨C, G, en, _, E, R, xo, q, fun c G1 H1 en1 R1 s1 q1 => ?_⟩
  cases c with
  | true => rw [if_pos rfl] at q1 ⊢; exact k true G1 H1 en1 R1 s1 q1
  | false => rw [if_neg (by decide)] at q1 ⊢; exact ⟨C, G1, en1, _, E, R1, xo, q1, fun c2 G2 H2 en2 R2 s2 q2 => k c2 G2 H2 en2 R2 (s1.trans s2) q2⟩
theorem dw_and1 (ha : DT X W a t) : DW X W (.BoolOp .And [a] pos) t := pw_and1 ha
theorem dw_or1 (ha : DT X W a t) : DW X W (.BoolOp .Or [a] pos) t := pw_or1 ha
theorem dw_and {rest : List Expr} (ha : DT X W a t) (hb : DW X W (.BoolOp .And (b :: rest) pos) u) : DW X W (.BoolOp .And (a :: b :: rest) pos) (tAndD t u) := PW.of (pw_and ha hb) fun _ _ _ => rlt_and
theorem dw_or {rest : List Expr} (ha : DT X W a t) (hb : DW X W (.BoolOp .Or (b :: rest) pos) u) : DW X W (.BoolOp .Or (a :: b :: rest) pos) (tOrD t u) := PW.of (pw_or ha hb) fun _ _ _ => rlt_or
theorem dt_not (ha : DT X W a t) : DT X W (.UnaryOp .Not a pos) (tNotD t) := PT.of (pt_not ha) fun σ H Z ⟨C, G, en, Q, E, R, xo, q, k⟩ => ⟨C, G, en, _, E, R, xo, q, fun c G1 H1 en1 R1 s1 q1 => k _ G1 H1 en1 R1 s1 q1⟩
theorem dt_chain {c : Expr} {wc : WE} {op op' : CmpOp} {o o' : O2} (ho : OpD X (compareOp op) o) (ho' : OpD X (compareOp op') o') (ha : DE X W a wa) (hb : DE X W b wb) (hc : DE X W c wc)
    (hm : lastMarks [op, op'] [b, c] = false := by with_unfolding_all rfl) : DT X W (.Compare a [op, op'] [b, c] pos) (tOf (eChain o o' wa wb wc)) := by
  obtain ⟨r, h1, h2⟩ := ho
  obtain ⟨r', h1', h2'⟩ := ho'
  refine PT.of (pt_chain h1 h1' ha hb hc hm) fun σ H Z ⟨C, G, en, Q, E, R, xo, q, k⟩ => ?_
  refine rl_chain h2 h2' ⟨C, G, en, _, E, R, xo, q, fun v x G1 H1 en1 R1 s1 r1 q1 => ?_⟩
  cases r1 with
  | bl c => exact ⟨c, rfl, k c G1 H1 en1 R1 s1 q1⟩
  | _ => exact q1.elim
theorem dt_bool (h : DE X W e w) (he : ∀ whole, isTrue e X.env whole = (do let v ← whole; standAt e.pos; holding [v] (truthy v)) := by intro _; rfl) : DT X W e (tOf w) := dt_val h (pt_val h he)
/-- and, or, not as values of bools -/
def eAnd (wa wb : WE) : WE := fun en Q E => wa en (fun x en1 => match x with | .bl true => wb en1 Q E | .bl false => Q (.bl false) en1 | _ => False) E
def eOr (wa wb : WE) : WE := fun en Q E => wa en (fun x en1 => match x with | .bl true => Q (.bl true) en1 | .bl false => wb en1 Q E | _ => False) E
def eNot (wa : WE) : WE := fun en Q E => wa en (fun x en1 => match x with | .bl c => Q (.bl (!c)) en1 | _ => False) E
theorem d_one {op} (h : DE X W a wa) : DE X W (.BoolOp op [a] pos) wa := pe_one h
theorem d_and {rest : List Expr} (ha : DE X W a wa) (hb : DE X W (.BoolOp .And (b :: rest) pos) wb) : DE X W (.BoolOp .And (a :: b :: rest) pos) (eAnd wa wb) := PE.of (pe_and ha hb) fun σ H Z ⟨C, G, en, Q, E, R, xo, q, k⟩ => by
  refine ⟨C, G, en, _, E, R, xo, q, fun v x G1 H1 en1 R1 s1 r1 q1 => ?_⟩
  cases r1 with
  | bl c =>
    refine ⟨c, rfl, ?_⟩
    cases c with
    | true => rw [if_pos rfl]; exact ⟨C, G1, en1, _, E, R1, xo, q1, fun v2 c2 G2 H2 en2 R2 s2 r2 q2 => k v2 c2 G2 H2 en2 R2 (s1.trans s2) r2 q2⟩
    | false => rw [if_neg (by decide)]; exact k _ _ G1 H1 en1 R1 s1 (.bl false) q1
  | _ => exact q1.elim
theorem d_or {rest : List Expr} (ha : DE X W a wa) (hb : DE X W (.BoolOp .Or (b :: rest) pos) wb) : DE X W (.BoolOp .Or (a :: b :: rest) pos) (eOr wa wb) := PE.of (pe_or ha hb) fun σ H Z ⟨C, G, en, Q, E, R, xo, q, k⟩ => by
  refine ⟨C, G, en, _, E, R, xo, q, fun v x G1 H1 en1 R1 s1 r1 q1 => ?_⟩
  cases r1 with
  | bl c =>
    refine ⟨c, rfl, ?_⟩
    cases c with
    | true => rw [if_pos rfl]; exact k _ _ G1 H1 en1 R1 s1 (.bl true) q1
    | false => rw [if_neg (by decide)]; exact ⟨C, G1, en1, _, E, R1, xo, q1, fun v2 c2 G2 H2 en2 R2 s2 r2 q2 => k v2 c2 G2 H2 en2 R2 (s1.trans s2) r2 q2⟩
  | _ => exact q1.elim
theorem d_not (ha : DE X W a wa) : DE X W (.UnaryOp .Not a pos) (eNot wa) := PE.of (pe_not ha) fun σ H Z ⟨C, G, en, Q, E, R, xo, q, k⟩ => by
  refine ⟨C, G, en, _, E, R, xo, q, fun v x G1 H1 en1 R1 s1 r1 q1 => ?_⟩
  cases r1 with
  | bl c => exact ⟨c, rfl, k _ _ G1 H1 en1 R1 s1 (.bl _) q1⟩
  | _ => exact q1.elim
/-- a if c else b; the value is told by what holds of it (M) -/
def eIf (t : WT) (wa wb : WE) : WE := fun en Q E => t en (fun c en1 => if c = true then wa en1 Q E else wb en1 Q E) E
theorem d_if {c : Expr} (hc : DT X W c t) (ha : DE X W a wa) (hb : DE X W b wb) : DE X W (.IfExp c a b pos) (eIf t wa wb) := PE.of (pe_ifExp hc ha hb) fun σ H Z ⟨C, G, en, Q, E, R, xo, q, k⟩ => by
  refine ⟨C, G, en, _, E, R, xo, q, fun c G1 H1 en1 R1 s1 q1 => ?_⟩
  cases c with
  | true => rw [if_pos rfl] at q1 ⊢; exact ⟨C, G1, en1, _, E, R1, xo, q1, fun v2 c2 G2 H2 en2 R2 s2 r2 q2 => k v2 c2 G2 H2 en2 R2 (s1.trans s2) r2 q2⟩
  | false => rw [if_neg (by decide)] at q1 ⊢; exact ⟨C, G1, en1, _, E, R1, xo, q1, fun v2 c2 G2 H2 en2 R2 s2 r2 q2 => k v2 c2 G2 H2 en2 R2 (s1.trans s2) r2 q2⟩
def eCut (w : WE) : WE := fun en Q E => ∃ M : D → En → Prop, w en M E ∧ ∀ x en', M x en' → Q x en'
theorem d_cut (h : DE X W e w) : DE X W e (eCut w) := PE.of h fun σ H Z ⟨C, G, en, Q, E, R, xo, ⟨M, q, m⟩, k⟩ => ⟨C, G, en, M, E, R, xo, q, fun v x G1 H1 en1 R1 s1 r1 q1 => k v x G1 H1 en1 R1 s1 r1 (m x en1 q1)⟩
def tCut (w : WT) : WT := fun en Q E => ∃ M : Bool → En → Prop, w en M E ∧ ∀ x en', M x en' → Q x en'
theorem dt_cut (h : DT X W e t) : DT X W e (tCut t) := PT.of h fun σ H Z ⟨C, G, en, Q, E, R, xo, ⟨M, q, m⟩, k⟩ => ⟨C, G, en, M, E, R, xo, q, fun x G1 H1 en1 R1 s1 q1 => k x G1 H1 en1 R1 s1 (m x en1 q1)⟩
/-! ### arguments, displays -/
def aNil : WA := fun en Q _ => Q [] en
def aCons (w : WE) (r : WA) : WA := fun en Q E => w en (fun x en1 => r en1 (fun bs en2 => Q (.d x :: bs) en2) E) E
def aPen (i : Nat) (r : WA) : WA := fun en Q E => match en.sl[i]? with
  | some (some .pen) => r en (fun bs en2 => Q (.pen :: bs) en2) E
  | _ => False
theorem ArgR.mono {K : PySem.W.Frag} {C : Ctx} {G G' : Hp} (s : Same G G') {v : V} : ∀ {b : B}, ArgR K C G v b → ArgR K C G' v b
  | .d x, h => Rep.mono s h
  | .pen, h => h
theorem ArgsR.mono {K : PySem.W.Frag} {C : Ctx} {G G' : Hp} (s : Same G G') : ∀ {vs : List V} {bs : List B}, ArgsR K C G vs bs → ArgsR K C G' vs bs
  | _, _, .nil => .nil
  | _, _, .cons h r => .cons (h.mono s) (ArgsR.mono s r)
theorem da_nil : DA X W [] aNil := PA.of pa_nil fun σ H Z ⟨C, G, en, Q, E, R, xo, q, k⟩ => k [] [] G H en R (Same.refl G) .nil q
theorem da_cons {es : List Expr} {r : WA} (ha : DE X W e w) (hr : DA X W es r) (hs : starEach (e :: es) X.env = (false, eval e X.env) :: starEach es X.env := by rfl) : DA X W (e :: es) (aCons w r) := PA.of (pa_cons ha hr hs) fun σ H Z ⟨C, G, en, Q, E, R, xo, q, k⟩ => by
  refine ⟨C, G, en, _, E, R, xo, q, fun v x G1 H1 en1 R1 s1 r1 q1 => ?_⟩
  exact ⟨C, G1, en1, _, E, R1, xo, q1, fun vs bs G2 H2 en2 R2 s2 r2 q2 => k (v :: vs) (.d x :: bs) G2 H2 en2 R2 (s1.trans s2) (.cons (r1.mono s2) r2) q2⟩
theorem da_pen {i : Nat} {x : Str} {es : List Expr} {r : WA} (ha : PE X (.Name x pos) (tVar i)) (hr : DA X W es r) (hs : starEach (.Name x pos :: es) X.env = (false, eval (.Name x pos) X.env) :: starEach es X.env := by rfl) : DA X W (.Name x pos :: es) (aPen i r) := PA.of (pa_cons ha hr hs) fun σ H Z ⟨C, G, en, Q, E, R, xo, q, k⟩ => by
  unfold aPen at q
  split at q
  · rename_i e
    obtain ⟨v, e1, p, e2, e3⟩ := R.var e
    cases e3
    refine ⟨_, e1, C, G, en, _, E, R, xo, q, fun vs bs G2 H2 en2 R2 s2 r2 q2 => k _ _ G2 H2 en2 R2 s2 (.cons (show ArgR X.K C G2 _ .pen from ⟨p, e2, rfl⟩) r2) q2⟩
  · exact q.elim
/-- the items of a display: data alone -/
def allD : List B → Option (List D)
  | [] => some []
  | .d x :: r => (allD r).map (x :: ·)
  | _ :: _ => none
theorem ArgsR.reps {K : PySem.W.Frag} {C : Ctx} {G : Hp} : ∀ {vs : List V} {bs : List B} {xs : List D}, ArgsR K C G vs bs → allD bs = some xs → Reps K G vs xs
  | _, _, _, .nil, e => by cases e; exact .nil
  | _, _, _, .cons (b := b) h r, e => by
    cases b with
    | d x =>
      cases q : allD _ with
      | none => rw [allD, q] at e; cases e
      | some ys =>
        rw [allD, q] at e
        cases e
        exact .cons h (ArgsR.reps r q)
    | _ => cases e
/-- display items as data -/
def aD (r : WA) : En → (List D → En → Prop) → EK → Prop := fun en Q E => r en (fun bs en1 => match allD bs with | some xs => Q xs en1 | none => False) E
def eTup (r : WA) : WE := fun en Q E => aD r en (fun xs en1 => xs.length ≤ 100000 ∧ Q (.tup xs) en1) E
def eLst (r : WA) : WE := fun en Q E => aD r en (fun xs en1 => xs.length ≤ 100000 ∧ Q (.lst xs) en1) E
theorem sz5 {n : Nat} (h : n ≤ 100000) : n ≤ sizeLine := Nat.le_trans h (by decide)
theorem sz5l {n : Nat} (h : n < 100000) : n < sizeLine := Nat.lt_of_lt_of_le h (by decide)
theorem d_tup {es : List Expr} {r : WA} {x1} (h : DA X W es r) : DE X W (.Tuple es x1 pos) (eTup r) := PE.of (pe_tup h) fun σ H Z ⟨C, G, en, Q, E, R, xo, q, k⟩ => by
  refine ⟨C, G, en, _, E, R, xo, q, fun vs bs G1 H1 en1 R1 s1 r1 q1 => ?_⟩
  cases qb : allD bs with
  | none => rw [qb] at q1; exact q1.elim
  | some xs =>
    rw [qb] at q1
    have rr := r1.reps qb
    refine ⟨by rw [rr.length]; exact sz5 q1.1, fun p np => ?_⟩
    have g := Gr.new1 (o := .tup vs) R1.sub np
    exact k (.ref p) (.tup xs) _ _ en1 (R1.grow g) (s1.trans g.gg) (.tup (SqT.of upd_same) (rr.mono g.gg)) q1.2
theorem d_lst {es : List Expr} {r : WA} (h : DA X W es r) : DE X W (.List es pos) (eLst r) := PE.of (pe_lst h) fun σ H Z ⟨C, G, en, Q, E, R, xo, q, k⟩ => by
  refine ⟨C, G, en, _, E, R, xo, q, fun vs bs G1 H1 en1 R1 s1 r1 q1 => ?_⟩
  cases qb : allD bs with
  | none => rw [qb] at q1; exact q1.elim
  | some xs =>
    rw [qb] at q1
    have rr := r1.reps qb
    refine ⟨by rw [rr.length]; exact sz5 q1.1, fun p np => ?_⟩
    have g := Gr.new1 (o := .lst vs) R1.sub np
    exact k (.ref p) (.lst xs) _ _ en1 (R1.grow g) (s1.trans g.gg) (.lst upd_same (rr.mono g.gg)) q1.2
end
end
end KD

/-! Statements, loops, comprehensions, defs over data. -/
namespace KD
open PySem PySem.Spec PyProof.Rows L2 KP
section
variable {K : PySem.W.Frag} {C : Ctx} {G H G' H' : Hp} {σ : L2.St} {en : En}
/-- a new object that no name holds becomes data -/
theorem Rel.adopt (R : Rel K C G H σ en) {a : Addr} {o : HO} (ho : H a = some o) (ga : G a = none) (h0 : C.H0 a = none) (fresh : Free H σ en a) (hn : C.hk a = none) : Rel K C (upd G a o) H σ en :=
  R.chg (R.frG ho ga h0) (KP.Same.new ga) (fun i c hc => by
    obtain ⟨_, _, _, _, _, _, g, _⟩ := R.at_ hc
    exact ⟨rfl, by rw [upd_ne (fun z => fresh i (by rw [← z]; exact hc))]; exact g⟩) fun c u h => ⟨(R.hkk c u h).1, by rw [upd_ne (ne_of_none h hn)]; exact (R.hkk c u h).2.2.1⟩
/-- an object that neither the data nor a name knows changes -/
theorem Rel.mutN (R : Rel K C G H σ en) {a : Addr} {o : HO} (ga : G a = none) (h0 : C.H0 a = none) (ht : ∀ xs, o ≠ .tup xs) (fresh : Free H σ en a) (hn : C.hk a = none) : Rel K C G (upd H a o) σ en :=
  R.chg (R.frU ga ht (.inr h0)) (Same.refl G) (fun i c hc => by
    obtain ⟨_, _, _, _, _, _, g, _⟩ := R.at_ hc
    exact ⟨by rw [upd_ne (fun z => fresh i (by rw [← z]; exact hc))], g⟩) fun c u h => ⟨by rw [upd_ne (ne_of_none h hn)]; exact (R.hkk c u h).1, (R.hkk c u h).2.2.1⟩
end
/-! ### new lists -/
abbrev WF := En → (List D → En → Prop) → EK → Prop
def Nw (C : Ctx) (G H : Hp) (σ : L2.St) (en : En) (a : Addr) : Prop := G a = none ∧ C.H0 a = none ∧ Free H σ en a ∧ C.hk a = none
def RlF (K : PySem.W.Frag) (W : WX) (w : WF) : TE := fun σ H Z => ∃ C G en Q E, Rel K C G H σ en ∧ XOk K W C E ∧ w en Q E ∧
  ∀ a vs xs G' H' en', Rel K C G' H' σ en' → Same G G' → H' a = some (.lst vs) → Nw C G' H' σ en' a → Reps K G' vs xs → Q xs en' → Z (.ref a) H'
abbrev DF (X : Cx) (W : WX) (e : Expr) (w : WF) : Prop := PE X e (RlF X.K W w)
def eF (w : WF) : WE := fun en Q E => w en (fun xs en1 => Q (.lst xs) en1) E
section
variable {X : Cx} {W : WX} {e a b : Expr} {w wa wb : WE} {pos : Pos}
theorem rlF {K : PySem.W.Frag} {wf : WF} {σ : L2.St} {H : Hp} {Z : VK} (h : Rl K W (eF wf) σ H Z) : RlF K W wf σ H Z := by
  obtain ⟨C, G, en, Q, E, R, xo, q, k⟩ := h
  refine ⟨C, G, en, _, E, R, xo, q, fun a vs xs G1 H1 en1 R1 s1 h1 n r1 q1 => ?_⟩
  have sg : Same G1 (upd G1 a (.lst vs)) := KP.Same.new n.1
  exact k (.ref a) (.lst xs) _ H1 en1 (R1.adopt h1 n.1 n.2.1 n.2.2.1 n.2.2.2) (s1.trans sg) (.lst upd_same (r1.mono sg)) q1
theorem DF.de {wf : WF} (h : DF X W e wf) : DE X W e (eF wf) := PE.of h fun _ _ _ => rlF
def fLst (r : WA) : WF := fun en Q E => aD r en (fun xs en1 => xs.length ≤ 100000 ∧ Q xs en1) E
theorem df_lst {es : List Expr} {r : WA} (h : DA X W es r) : DF X W (.List es pos) (fLst r) := PE.of (pe_lst h) fun σ H Z ⟨C, G, en, Q, E, R, xo, q, k⟩ => by
  refine ⟨C, G, en, _, E, R, xo, q, fun vs bs G1 H1 en1 R1 s1 r1 q1 => ?_⟩
  cases qb : allD bs with
  | none => rw [qb] at q1; exact q1.elim
  | some xs =>
    rw [qb] at q1
    have rr := r1.reps qb
    refine ⟨by rw [rr.length]; exact sz5 q1.1, fun p np => ?_⟩
    exact k p vs xs G1 _ en1 (R1.newH np) s1 upd_same ⟨R1.sub.free np, R1.H0 np, R1.freeN np, R1.hk0 np⟩ rr q1.2
end
/-! ### statements -/
structure DN where
  nx : En → Prop
  rt : D → En → Prop
  bk : En → Prop := fun _ => False
  ct : En → Prop := fun _ => False
  ex : EK
abbrev WS := DN → En → Prop
structure Lk (K : PySem.W.Frag) (C : Ctx) (N : DN) (Ds : Ends) : Prop where
  nx : ∀ G H σ en, Rel K C G H σ en → N.nx en → Ds.nx σ H
  rt : ∀ v x G H σ en, Rel K C G H σ en → Rep K G v x → N.rt x en → Ds.rt v H
  bk : ∀ G H σ en, Rel K C G H σ en → N.bk en → Ds.bk σ H
  ct : ∀ G H σ en, Rel K C G H σ en → N.ct en → Ds.ct σ H
def RlS (K : PySem.W.Frag) (W : WX) (w : WS) : TS := fun Ds σ H => ∃ C G en N, Rel K C G H σ en ∧ XOk K W C N.ex ∧ w N en ∧ Lk K C N Ds
abbrev DS (X : Cx) (W : WX) (st : Stmt) (w : WS) : Prop := PS X st (RlS X.K W w)
abbrev DSs (X : Cx) (W : WX) (ss : List Stmt) (w : WS) : Prop := PSs X ss (RlS X.K W w)
def sNil : WS := fun N en => N.nx en
def sSeq (a b : WS) : WS := fun N en => a { N with nx := fun en1 => b N en1 } en
def sExpr (w : WE) : WS := fun N en => w en (fun _ en1 => N.nx en1) N.ex
def sRet (w : WE) : WS := fun N en => w en N.rt N.ex
def sRetN : WS := fun N en => N.rt .non en
def sSet (i : Nat) (w : WE) : WS := fun N en => w en (fun x en1 => N.nx (en1.set i (some (.d x)))) N.ex
def sSetF (i : Nat) (w : WF) : WS := fun N en => w en (fun xs en1 => N.nx (en1.set i (some (.own xs)))) N.ex
def sIf (t : WT) (a b : WS) : WS := fun N en => t en (fun c en1 => if c = true then a N en1 else b N en1) N.ex
def sCut (w : WS) : WS := fun N en => ∃ M : En → Prop, w { N with nx := M } en ∧ ∀ en1, M en1 → N.nx en1
def sBreak : WS := fun N en => N.bk en
def sCont : WS := fun N en => N.ct en
section
variable {X : Cx} {W : WX} {e a b : Expr} {w wa wb : WE} {pos : Pos} {st : Stmt} {rest : List Stmt} {t u : WS}
theorem PS.of {t t' : TS} (h : PS X st t) (k : ∀ D σ H, t' D σ H → t D σ H) : PS X st t' := ⟨fun pins s σ H D I q => h.run pins s σ H D I (k D σ H q)⟩
theorem PSs.of {t t' : TS} (h : PSs X rest t) (k : ∀ D σ H, t' D σ H → t D σ H) : PSs X rest t' := ⟨fun pins s σ H D I q => h.run pins s σ H D I (k D σ H q)⟩
theorem ds_nil : DSs X W [] sNil := PSs.of pss_nil fun D σ H ⟨C, G, en, N, R, xo, q, L⟩ => L.nx G H σ en R q
theorem ds_one (h : DS X W st t) : DSs X W [st] t := pss_one h
theorem ds_cons (h : DS X W st t) (hr : DSs X W rest u) : DSs X W (st :: rest) (sSeq t u) := PSs.of (pss_cons h hr) fun D σ H ⟨C, G, en, N, R, xo, q, L⟩ =>
  ⟨C, G, en, { N with nx := fun en1 => u N en1 }, R, xo, q, ⟨fun G1 H1 σ1 en1 R1 q1 => ⟨C, G1, en1, N, R1, xo, q1, L⟩, L.rt, L.bk, L.ct⟩⟩
theorem ds_cut (h : DS X W st t) : DS X W st (sCut t) := PS.of h fun D σ H ⟨C, G, en, N, R, xo, ⟨M, q, m⟩, L⟩ => ⟨C, G, en, { N with nx := M }, R, xo, q, ⟨fun G1 H1 σ1 en1 R1 q1 => L.nx G1 H1 σ1 en1 R1 (m en1 q1), L.rt, L.bk, L.ct⟩⟩
theorem ds_expr (h : PS X st (tDrop (Rl X.K W w))) : DS X W st (sExpr w) := PS.of h fun D σ H ⟨C, G, en, N, R, xo, q, L⟩ => ⟨C, G, en, _, _, R, xo, q, fun v x G1 H1 en1 R1 s1 r1 q1 => L.nx G1 H1 σ en1 R1 q1⟩
theorem ds_ret (h : DE X W e w) : DS X W (.Return (some e) pos) (sRet w) := PS.of (ps_ret h) fun D σ H ⟨C, G, en, N, R, xo, q, L⟩ => ⟨C, G, en, _, _, R, xo, q, fun v x G1 H1 en1 R1 s1 r1 q1 => L.rt v x G1 H1 σ en1 R1 r1 q1⟩
theorem ds_retN : DS X W (.Return none pos) sRetN := PS.of ps_retN fun D σ H ⟨C, G, en, N, R, xo, q, L⟩ => L.rt .non .non G H σ en R .non q
theorem ds_pass : DS X W (.Pass pos) sNil := PS.of ps_pass fun D σ H ⟨C, G, en, N, R, xo, q, L⟩ => L.nx G H σ en R q
theorem ds_break : DS X W (.Break pos) sBreak := PS.of ps_break fun D σ H ⟨C, G, en, N, R, xo, q, L⟩ => L.bk G H σ en R q
theorem ds_cont : DS X W (.Continue pos) sCont := PS.of ps_continue fun D σ H ⟨C, G, en, N, R, xo, q, L⟩ => L.ct G H σ en R q
theorem ds_never : DS X W st (fun _ _ => False) := PS.of ps_never fun D σ H ⟨C, G, en, N, R, xo, q, L⟩ => q.elim
theorem ds_if {c : Expr} {tc : WT} {ss ts : List Stmt} (hc : DT X W c tc) (ha : DSs X W ss t) (hb : DSs X W ts u) : DS X W (.If c ss ts pos) (sIf tc t u) := PS.of (ps_if hc ha hb) fun D σ H ⟨C, G, en, N, R, xo, q, L⟩ => by
  refine ⟨C, G, en, _, _, R, xo, q, fun c G1 H1 en1 R1 s1 q1 => ?_⟩
  cases c with
  | true => rw [if_pos rfl] at q1 ⊢; exact ⟨C, G1, en1, N, R1, xo, q1, L⟩
  | false => rw [if_neg (by decide)] at q1 ⊢; exact ⟨C, G1, en1, N, R1, xo, q1, L⟩
/-! ### targets -/
abbrev WG := D → En → (En → Prop) → Prop
abbrev WGs := List D → En → (En → Prop) → Prop
def Tch (vs : List Nat) (σ σ' : L2.St) : Prop := σ'.length = σ.length ∧ ∀ i : Nat, i ∉ vs → σ'[i]? = σ[i]?
def RlG (K : PySem.W.Frag) (vs : List Nat) (w : WG) : TG := fun v σ H Z => ∃ C G en x Q, Rel K C G H σ en ∧ Rep K G v x ∧ w x en Q ∧ ∀ G' H' σ' en', Rel K C G' H' σ' en' → Same G G' → Tch vs σ σ' → Q en' → Z σ' H'
def RlGs (K : PySem.W.Frag) (is : List Nat) (w : WGs) : TGs := fun vs σ H Z => ∃ C G en xs Q, Rel K C G H σ en ∧ Reps K G vs xs ∧ w xs en Q ∧ ∀ G' H' σ' en', Rel K C G' H' σ' en' → Same G G' → Tch is σ σ' → Q en' → Z σ' H'
abbrev DG (X : Cx) (e : Expr) (is : List Nat) (w : WG) : Prop := PG X e (RlG X.K is w)
abbrev DGs (X : Cx) (es : List Expr) (is : List Nat) (w : WGs) : Prop := PGs X es (RlGs X.K is w)
theorem PG.of {t t' : TG} (h : PG X e t) (k : ∀ v σ H Z, t' v σ H Z → t v σ H Z) : PG X e t' := ⟨fun pins s σ H v u Q I r q => h.run pins s σ H v u Q I r (k v σ H Q q)⟩
theorem PGs.of {es : List Expr} {t t' : TGs} (h : PGs X es t) (k : ∀ v σ H Z, t' v σ H Z → t v σ H Z) : PGs X es t' := ⟨fun pins s σ H v u Q I r q => h.run pins s σ H v u Q I r (k v σ H Q q)⟩
def gN (i : Nat) : WG := fun x en Q => Q (en.set i (some (.d x)))
def gsNil : WGs := fun xs en Q => match xs with | [] => Q en | _ => False
def gsCons (g : WG) (r : WGs) : WGs := fun xs en Q => match xs with | x :: ys => g x en (fun en1 => r ys en1 Q) | [] => False
def gT (n : Nat) (g : WGs) : WG := fun x en Q => match x with | .tup xs => xs.length = n ∧ g xs en Q | _ => False
def gL (n : Nat) (g : WGs) : WG := fun x en Q => match x with | .lst xs => xs.length = n ∧ g xs en Q | _ => False
theorem Tch.refl (vs : List Nat) (σ : L2.St) : Tch vs σ σ := ⟨rfl, fun _ _ => rfl⟩
theorem Tch.trans {vs ws : List Nat} {σ σ1 σ2 : L2.St} (a : Tch vs σ σ1) (b : Tch ws σ1 σ2) : Tch (vs ++ ws) σ σ2 := ⟨b.1.trans a.1, fun i h => (b.2 i fun z => h (List.mem_append.mpr (.inr z))).trans (a.2 i fun z => h (List.mem_append.mpr (.inl z)))⟩
theorem dg_name {i : Nat} {x : Str} (h : PG X (.Name x pos) (gName i)) : DG X (.Name x pos) [i] (gN i) := PG.of h fun v σ H Z ⟨C, G, en, x, Q, R, r, q, k⟩ => k G H _ _ (R.setD (b := .d _) ⟨v, rfl, r⟩ rfl) (Same.refl G) ⟨List.length_set, fun j h => List.getElem?_set_ne (fun z => h (by rw [z]; exact List.mem_cons_self))⟩ q
theorem dgs_nil : DGs X [] [] gsNil := PGs.of pgs_nil fun v σ H Z ⟨C, G, en, xs, Q, R, r, q, k⟩ => by
  cases r with
  | nil => exact ⟨rfl, k G H σ en R (Same.refl G) (Tch.refl _ _) q⟩
  | cons _ _ => exact q.elim
theorem dgs_cons {es : List Expr} {is js : List Nat} {g : WG} {r : WGs} (h : PGs X es (gCons (RlG X.K is g) (RlGs X.K js r))) : DGs X es (is ++ js) (gsCons g r) := PGs.of h fun v σ H Z ⟨C, G, en, xs, Q, R, rr, q, k⟩ => by
  cases rr with
  | nil => exact q.elim
  | cons h1 h2 => exact ⟨_, _, rfl, C, G, en, _, _, R, h1, q, fun G1 H1 σ1 en1 R1 s1 t1 q1 => ⟨C, G1, en1, _, Q, R1, h2.mono s1, q1, fun G2 H2 σ2 en2 R2 s2 t2 q2 => k G2 H2 σ2 en2 R2 (s1.trans s2) (t1.trans t2) q2⟩⟩
theorem dg_tup {is : List Nat} {g : WGs} {n : Nat} (h : PG X e (gTup X.K n (RlGs X.K is g))) : DG X e is (gT n g) := PG.of h fun v σ H Z ⟨C, G, en, x, Q, R, r, q, kk⟩ => by
  cases r with
  | tup h1 h2 => exact ⟨_, _, rfl, Same.tup R.sub h1, by rw [h2.length]; exact q.1, C, G, en, _, Q, R, h2, q.2, kk⟩
  | _ => exact q.elim
theorem dg_lst {is : List Nat} {g : WGs} {n : Nat} (h : PG X e (gLst X.K n (RlGs X.K is g))) : DG X e is (gL n g) := PG.of h fun v σ H Z ⟨C, G, en, x, Q, R, r, q, kk⟩ => by
  cases r with
  | lst h1 h2 => exact ⟨_, _, rfl, SqL.of (R.sub _ _ h1), by rw [h2.length]; exact q.1, C, G, en, _, Q, R, h2, q.2, kk⟩
  | _ => exact q.elim
theorem ds_set {i : Nat} (h : PS X st (tAsg (Rl X.K W w) (gName i))) : DS X W st (sSet i w) := PS.of h fun D σ H ⟨C, G, en, N, R, xo, q, L⟩ =>
  ⟨C, G, en, _, _, R, xo, q, fun v x G1 H1 en1 R1 s1 r1 q1 => L.nx G1 H1 _ _ (R1.setD (b := .d _) ⟨v, rfl, r1⟩ rfl) q1⟩
theorem ds_setF {i : Nat} {wf : WF} (h : PS X st (tAsg (RlF X.K W wf) (gName i))) : DS X W st (sSetF i wf) := PS.of h fun D σ H ⟨C, G, en, N, R, xo, q, L⟩ =>
  ⟨C, G, en, _, _, R, xo, q, fun a vs xs G1 H1 en1 R1 s1 h1 n r1 q1 => L.nx G1 H1 _ _ (R1.setO (b := .own _) ⟨a, vs, rfl, h1, n.1, n.2.1, r1⟩ rfl n.2.2.1 n.2.2.2) q1⟩
def sAsg (w : WE) (g : WG) : WS := fun N en => w en (fun x en1 => g x en1 N.nx) N.ex
theorem ds_asg {g : WG} {is : List Nat} (h : PS X st (tAsg (Rl X.K W w) (RlG X.K is g))) : DS X W st (sAsg w g) := PS.of h fun D σ H ⟨C, G, en, N, R, xo, q, L⟩ =>
  ⟨C, G, en, _, _, R, xo, q, fun v x G1 H1 en1 R1 s1 r1 q1 => ⟨C, G1, en1, x, _, R1, r1, q1, fun G2 H2 σ2 en2 R2 s2 _ q2 => L.nx G2 H2 σ2 en2 R2 q2⟩⟩
/-- a, b = e1, e2 -/
def sPar (i j : Nat) (r : WA) : WS := fun N en => aD r en (fun xs en1 => match xs with | [x, y] => N.nx ((en1.set i (some (.d x))).set j (some (.d y))) | _ => False) N.ex
theorem ds_par {i j : Nat} {r : WA} (h : PS X st (tPar i j (RlA X.K W r))) : DS X W st (sPar i j r) := PS.of h fun D σ H ⟨C, G, en, N, R, xo, q, L⟩ => by
  refine ⟨C, G, en, _, _, R, xo, q, fun vs bs G1 H1 en1 R1 s1 r1 q1 => ?_⟩
  cases qb : allD bs with
  | none => rw [qb] at q1; exact q1.elim
  | some xs =>
    rw [qb] at q1
    have rr := r1.reps qb
    cases rr with
    | nil => exact q1.elim
    | cons h1 rr =>
      cases rr with
      | nil => exact q1.elim
      | cons h2 rr =>
        cases rr with
        | nil => exact ⟨_, _, rfl, L.nx G1 H1 _ _ ((R1.setD (b := .d _) ⟨_, rfl, h1⟩ rfl).setD (b := .d _) ⟨_, rfl, h2⟩ rfl) q1⟩
        | cons _ _ => exact q1.elim
/-! ### own lists -/
def isOL : Option (Option B) → Bool
  | some (some (.own _)) => true
  | _ => false
def sApp (i : Nat) (w : WE) : WS := fun N en => isOL en.sl[i]? = true ∧ w en (fun x en1 => match en1.sl[i]? with
  | some (some (.own xs)) => xs.length < 100000 ∧ N.nx (en1.set i (some (.own (xs ++ [x]))))
  | _ => False) N.ex
theorem own_list {K : PySem.W.Frag} {C : Ctx} {G H : Hp} {σ : L2.St} {en : En} {i : Nat} {xs : List D} (R : Rel K C G H σ en) (e : en.sl[i]? = some (some (.own xs))) : ∃ a vs, σ[i]? = some (some (.ref a)) ∧ H a = some (.lst vs) ∧ G a = none ∧ C.H0 a = none ∧ Reps K G vs xs := by
  obtain ⟨v, e1, a, vs, e2, r⟩ := R.var e
  cases e2
  exact ⟨a, vs, e1, r⟩
theorem ol_list {b : Option (Option B)} (h : isOL b = true) : ∃ xs, b = some (some (.own xs)) := by
  unfold isOL at h
  split at h
  · exact ⟨_, rfl⟩
  · cases h
theorem ds_app {i : Nat} (ht : PS X st (tDrop (tBM X.K "list" rAppend (tVar i) (tCons (Rl X.K W w) tNil)))) : DS X W st (sApp i w) := PS.of ht fun D σ H ⟨C, G, en, N, R, xo, ⟨qo, q⟩, L⟩ => by
  obtain ⟨xs0, e0⟩ := ol_list qo
  obtain ⟨a, vs0, e1, hl, _⟩ := own_list R e0
  refine ⟨.ref a, e1, .inl ⟨rfl, _, SqL.of hl⟩, C, G, en, _, _, R, xo, q, fun v x G1 H1 en1 R1 s1 r1 q1 => ?_⟩
  split at q1
  · rename_i xs e2
    obtain ⟨a', vs, e3, h1, h2, h3, r⟩ := own_list R1 e2
    rw [e1] at e3; cases e3
    refine ⟨a, vs, v, rfl, rfl, h1, by rw [r.length]; exact sz5l q1.1, ?_⟩
    exact L.nx G1 _ _ _ (R1.mutH e1 e2 rfl (fun _ z => nomatch z) (b := .own (xs ++ [x])) ⟨a, _, rfl, upd_same, h2, h3, r.snoc r1⟩ rfl) q1.2
  · exact q1.elim
/-- xs[k] = e -/
def sPutL (i : Nat) (wk w : WE) : WS := fun N en => w en (fun x en1 => isOL en1.sl[i]? = true ∧ wk en1 (fun y en2 => match en2.sl[i]?, y with
  | some (some (.own xs)), .int k => match ixN xs.length k with
    | some j => N.nx (en2.set i (some (.own (xs.set j x))))
    | none => False
  | _, _ => False) N.ex) N.ex
theorem ds_putL {i : Nat} {wk : WE} (ht : PS X st (tAsg (Rl X.K W w) (gSub (tVar i) (Rl X.K W wk) rSetL))) : DS X W st (sPutL i wk w) := PS.of ht fun D σ H ⟨C, G, en, N, R, xo, q, L⟩ => by
  refine ⟨C, G, en, _, _, R, xo, q, fun v x G1 H1 en1 R1 s1 r1 q1 => ?_⟩
  obtain ⟨xs0, e0⟩ := ol_list q1.1
  obtain ⟨a, vs0, e1, hl, _⟩ := own_list R1 e0
  refine ⟨.ref a, e1, C, G1, en1, _, _, R1, xo, q1.2, fun u y G2 H2 en2 R2 s2 r2 q2 => ?_⟩
  split at q2
  · rename_i xs k e3
    obtain ⟨a', vs, e4, h1, h2, h3, r⟩ := own_list R2 e3
    rw [e1] at e4; cases e4
    cases r2
    split at q2
    · rename_i j ej
      refine ⟨a, vs, k, j, rfl, rfl, h1, by rw [r.length]; exact ej, ?_⟩
      exact L.nx G2 _ _ _ (R2.mutH e1 e3 rfl (fun _ z => nomatch z) (b := .own (xs.set j x)) ⟨a, _, rfl, upd_same, h2, h3, r.set (r1.mono s2) j⟩ rfl) q2
    · exact q2.elim
  · exact q2.elim
/-! ### loops -/
abbrev WI := En → (List D → En → Prop) → EK → Prop
def Goes (K : PySem.W.Frag) (J : It) (xs : List D) (G : Hp) : Prop := ∀ G1 H1, Same G G1 → Same G1 H1 →
  (∀ i x, xs[i]? = some x → J.go i H1 ∧ ∀ v H2, J.yld i H1 v H2 → ∃ G2, Gr G1 H1 G2 H2 ∧ Rep K G2 v x) ∧ J.stop xs.length H1
theorem Goes.mono {K : PySem.W.Frag} {J : It} {xs : List D} {G G' : Hp} (s : Same G G') (h : Goes K J xs G) : Goes K J xs G' := fun G1 H1 s1 s2 => h G1 H1 (s.trans s1) s2
def RlI (K : PySem.W.Frag) (W : WX) (w : WI) : TI := fun σ H R => ∃ C G en Q E, Rel K C G H σ en ∧ XOk K W C E ∧ w en Q E ∧ ∀ J xs G' H' en', Rel K C G' H' σ en' → Same G G' → Goes K J xs G' → Q xs en' → R J H'
abbrev DI (X : Cx) (W : WX) (tg it : Expr) (w : WI) : Prop := PI X tg it (RlI X.K W w)
theorem PI.of {tg : Expr} {t t' : TI} (h : PI X tg e t) (k : ∀ σ H R, t' σ H R → t σ H R) : PI X tg e t' := ⟨fun pins s σ H R I q => h.run pins s σ H R I (k σ H R q)⟩
def forGo (g : WG) (tb : WS) (N : DN) : List D → En → Prop
  | [], en => N.nx en
  | x :: xs, en => g x en (fun en1 => tb { N with nx := forGo g tb N xs, ct := forGo g tb N xs, bk := N.nx } en1)
def sFor (wi : WI) (g : WG) (tb : WS) : WS := fun N en => wi en (fun xs en1 => forGo g tb N xs en1) N.ex
theorem Lk.weak {K : PySem.W.Frag} {C : Ctx} {N : DN} {Ds : Ends} {A : Hp} (L : Lk K C N Ds) (h : Same C.an A) : Lk K { C with an := A } N Ds :=
  ⟨fun G H σ en R => L.nx G H σ en (R.weak h), fun v x G H σ en R => L.rt v x G H σ en (R.weak h), fun G H σ en R => L.bk G H σ en (R.weak h), fun G H σ en R => L.ct G H σ en (R.weak h)⟩
theorem XOk.weak {K : PySem.W.Frag} {C : Ctx} {E : EK} {A : Hp} (x : XOk K W C E) (h : Same C.an A) : XOk K W { C with an := A } E := fun y en σ G H cls od R r q => x y en σ G H cls od (R.weak h) r q
theorem ds_for {wi : WI} {g : WG} {is : List Nat} {tb : WS} (h : PS X st (tFor (RlI X.K W wi) (RlG X.K is g) (RlS X.K W tb))) : DS X W st (sFor wi g tb) := PS.of h fun D σ H ⟨C0, G, en, N, R, xo0, q, L0⟩ => by
  refine ⟨C0, G, en, _, _, R, xo0, q, fun J xs G1 H1 en1 R1' s1 go q1 => ?_⟩
  have R1 := R1'.anchor
  have L := L0.weak R1'.anc
  have xo := xo0.weak R1'.anc
  have ha : ∀ G H σ en, Rel X.K { C0 with an := G1 } G H σ en → Same G1 G := fun _ _ _ _ R => R.anc
  generalize { C0 with an := G1 } = C at R1 L xo ha
  refine for_by (n := xs.length) (fun i σ H => ∃ G2 en2, Rel X.K C G2 H σ en2 ∧ forGo g tb N (xs.drop i) en2) ⟨G1, en1, R1, q1⟩ (fun i σ2 H2 hi ⟨G2, en2, R2, q2⟩ => ?_) (fun σ2 H2 ⟨G2, en2, R2, q2⟩ => ?_) (fun i σ2 H2 v H3 hi ⟨G2, en2, R2, q2⟩ hy => ?_) fun σ2 H2 ⟨G2, en2, R2, q2⟩ => ?_
  · exact ((go G2 H2 (ha _ _ _ _ R2) R2.sub).1 i _ (List.getElem?_eq_getElem hi)).1
  · exact (go G2 H2 (ha _ _ _ _ R2) R2.sub).2
  · obtain ⟨G3, g3, r3⟩ := ((go G2 H2 (ha _ _ _ _ R2) R2.sub).1 i _ (List.getElem?_eq_getElem hi)).2 v H3 hy
    rw [List.drop_eq_getElem_cons hi] at q2
    refine ⟨C, G3, en2, _, _, R2.grow g3, r3, q2, fun G4 H4 σ4 en4 R4 s4 _ q4 => ?_⟩
    exact ⟨C, G4, en4, { N with nx := forGo g tb N (xs.drop (i + 1)), ct := forGo g tb N (xs.drop (i + 1)), bk := N.nx }, R4, xo, q4, ⟨fun G H σ en R q => ⟨G, en, R, q⟩, L.rt, L.nx, fun G H σ en R q => ⟨G, en, R, q⟩⟩⟩
  · rw [List.drop_length] at q2
    exact L.nx G2 H2 σ2 en2 R2 q2
/-- while: W by a measure -/
def sWhile (c : WT) (tb : WS) : WS := fun N en => ∃ I : Nat → En → Prop, (∃ m, I m en) ∧ ∀ m en, I m en → c en (fun b en1 => if b = true then tb { N with nx := fun en2 => ∃ m', m' < m ∧ I m' en2, ct := fun en2 => ∃ m', m' < m ∧ I m' en2, bk := N.nx } en1 else N.nx en1) N.ex
theorem ds_while {c : WT} {tb : WS} (h : PS X st (tWhile (RlT X.K W c) (RlS X.K W tb))) : DS X W st (sWhile c tb) := PS.of h fun D σ H ⟨C, G, en, N, R, xo, ⟨I, ⟨m0, h0⟩, hs⟩, L⟩ => by
  refine ⟨fun m σ H => ∃ G2 en2, Rel X.K C G2 H σ en2 ∧ I m en2, ⟨m0, G, en, R, h0⟩, fun m σ2 H2 ⟨G2, en2, R2, q2⟩ => ?_⟩
  refine ⟨C, G2, en2, _, _, R2, xo, hs m en2 q2, fun c G3 H3 en3 R3 s3 q3 => ?_⟩
  cases c with
  | true =>
    rw [if_pos rfl] at q3 ⊢
    refine ⟨fun σ' H' => ∃ m', m' < m ∧ ∃ G2 en2, Rel X.K C G2 H' σ' en2 ∧ I m' en2, fun _ _ q => q, C, G3, en3, { N with nx := fun en2 => ∃ m', m' < m ∧ I m' en2, ct := fun en2 => ∃ m', m' < m ∧ I m' en2, bk := N.nx }, R3, xo, q3, ⟨fun G H σ en R ⟨m', hm, q⟩ => ⟨m', hm, G, en, R, q⟩, L.rt, L.nx, fun G H σ en R ⟨m', hm, q⟩ => ⟨m', hm, G, en, R, q⟩⟩⟩
  | false => rw [if_neg (by decide)] at q3 ⊢; exact L.nx G3 H3 σ2 en3 R3 q3
end
end KD

/-! Comprehensions, what is walked, defs and calls over data. -/
namespace KD
open PySem PySem.Spec PyProof.Rows L2 KP
/-! ### comprehensions -/
def wipeE (en : En) : List Nat → En
  | [] => en
  | v :: vs => (wipeE en vs).set v none
def noE : EK := fun _ _ => False
def lcGo (g : WG) (tt : WT) (te : WE) (vs : List Nat) (Q : List D → En → Prop) : List D → List D → En → Prop
  | [], acc, en => Q acc en
  | x :: xs, acc, en => g x en (fun en1 => tt en1 (fun c en2 => if c = true then te en2 (fun y en3 => acc.length < 100000 ∧ lcGo g tt te vs Q xs (acc ++ [y]) (wipeE en3 vs)) noE else lcGo g tt te vs Q xs acc (wipeE en2 vs)) noE)
def fLc (wi : WI) (g : WG) (tt : WT) (te : WE) (vs : List Nat) : WF := fun en Q E => wi en (fun xs en1 => lcGo g tt te vs Q xs [] (wipeE en1 vs)) E
section
variable {K : PySem.W.Frag} {C : Ctx} {G H G' H' : Hp} {σ σ' : L2.St} {en : En} {vs : List Nat}
theorem Rel.wipe (R : Rel K C G H σ en) : ∀ vs, Rel K C G H (L2.wipe σ vs) (wipeE en vs)
  | [] => R
  | v :: vs => (Rel.wipe R vs).forget none
theorem wipeE_b (en : En) : ∀ vs, (wipeE en vs).b = en.b
  | [] => rfl
  | v :: vs => wipeE_b en vs
theorem wipe_out : ∀ (vs : List Nat) {i : Nat}, i ∉ vs → (L2.wipe σ vs)[i]? = σ[i]?
  | [], _, _ => rfl
  | v :: vs, i, h => by
    unfold L2.wipe
    rw [List.getElem?_set_ne (fun z => h (by rw [z]; exact List.mem_cons_self))]
    exact wipe_out vs fun z => h (List.mem_cons_of_mem _ z)
theorem wipe_in : ∀ (vs : List Nat) {i : Nat}, i ∈ vs → i < σ.length → (L2.wipe σ vs)[i]? = some none
  | [], _, h, _ => (List.not_mem_nil h).elim
  | v :: vs, i, h, hl => by
    unfold L2.wipe
    by_cases e : v = i
    · subst e
      rw [List.getElem?_set_self (by rw [wipe_length]; exact hl)]
    · rw [List.getElem?_set_ne e]
      rcases List.mem_cons.mp h with z | z
      · exact absurd z.symm e
      · exact wipe_in vs z hl
theorem wipe_eq (t : Tch vs σ σ') : L2.wipe σ' vs = L2.wipe σ vs := by
  apply List.ext_getElem?
  intro i
  by_cases h : i ∈ vs
  · by_cases l : i < σ.length
    · rw [wipe_in vs h l, wipe_in vs h (by rw [t.1]; exact l)]
    · rw [List.getElem?_eq_none (l := L2.wipe σ' vs) (by rw [wipe_length, t.1]; omega), List.getElem?_eq_none (l := L2.wipe σ vs) (by rw [wipe_length]; omega)]
  · rw [wipe_out vs h, wipe_out vs h, t.2 i h]
theorem wipe_wipe : L2.wipe (L2.wipe σ vs) vs = L2.wipe σ vs := wipe_eq ⟨wipe_length _ _, fun _ h => wipe_out vs h⟩
theorem wipeE_none {i : Nat} : ∀ {vs : List Nat}, i ∈ vs → (wipeE en vs).sl[i]? = some none ∨ (wipeE en vs).sl[i]? = none
  | [], h => (List.not_mem_nil h).elim
  | v :: vs, h => by
    show ((wipeE en vs).sl.set v none)[i]? = some none ∨ ((wipeE en vs).sl.set v none)[i]? = none
    by_cases e : v = i
    · subst e
      rw [List.getElem?_set]
      simp
      by_cases l : v < (wipeE en vs).sl.length
      · exact .inl l
      · exact .inr (by omega)
    · rw [List.getElem?_set_ne e]
      rcases List.mem_cons.mp h with z | z
      · exact absurd z.symm e
      · exact wipeE_none z
theorem fpW (n : ∀ i ∈ vs, en.sl[i]? = some none ∨ en.sl[i]? = none) (i : Nat) : fpB H (L2.wipe σ vs)[i]? en.sl[i]? = fpB H σ[i]? en.sl[i]? := by
  by_cases h : i ∈ vs
  · have z : ∀ o : Option (Option V), fpB H o en.sl[i]? = [] := fun o => by
      rcases n i h with q | q <;> rw [q] <;> (cases o with | none => rfl | some o => cases o <;> rfl)
    rw [z, z]
  · rw [wipe_out vs h]
/-- the slots behind a block -/
theorem Rel.unwipe (R : Rel K C G H (L2.wipe σ vs) en) (n : ∀ i ∈ vs, en.sl[i]? = some none ∨ en.sl[i]? = none) : Rel K C G H σ en := by
  refine ⟨R.fr, R.pen0, R.npn, R.slf0, R.anc, fun a o h => ?_, by rw [← R.len, wipe_length], fun i v b h1 h2 => ?_, fun i j a h1 h2 => ?_⟩
  · obtain ⟨h1, ht, h2, h3, h4⟩ := R.hkk a o h
    exact ⟨h1, ht, h2, h3, fun j q => h4 j (by rw [fpW n]; exact q)⟩
  · by_cases hi : i ∈ vs
    · rcases n i hi with q | q
      · rw [q] at h2; cases h2; trivial
      · rw [q] at h2; cases h2
    · exact R.slot i v b (by rw [wipe_out vs hi]; exact h1) h2
  · exact R.dist i j a (by rw [fpW n]; exact h1) (by rw [fpW n]; exact h2)
theorem wipeE_out {i : Nat} : ∀ {vs : List Nat}, i ∉ vs → (wipeE en vs).sl[i]? = en.sl[i]?
  | [], _ => rfl
  | v :: vs, h => by
    show ((wipeE en vs).sl.set v none)[i]? = _
    rw [List.getElem?_set_ne (fun z => h (by rw [z]; exact List.mem_cons_self))]
    exact wipeE_out fun z => h (List.mem_cons_of_mem _ z)
theorem freeW {a : Addr} (f : Free H σ en a) : Free H (L2.wipe σ vs) (wipeE en vs) a := fun j h => by
  rw [fpW (fun i hi => wipeE_none hi) j] at h
  by_cases hj : j ∈ vs
  · have z : fpB H σ[j]? (wipeE en vs).sl[j]? = [] := by
      rcases wipeE_none (en := en) hj with q | q <;> rw [q] <;> (cases σ[j]? with | none => rfl | some o => cases o <;> rfl)
    rw [z] at h; cases h
  · rw [wipeE_out hj] at h; exact f j h
theorem Rel.freeU (R : Rel K C G H σ en) {a : Addr} {o : HO} (f : Free H σ en a) : Free (upd H a o) σ en a := fun j h => by
  have kp : ∀ c, c ∈ fpB H σ[j]? en.sl[j]? → upd H a o c = H c ∧ G c = none := fun c hc => by
    obtain ⟨_, _, _, _, _, _, g, _⟩ := R.at_ hc
    exact ⟨by rw [upd_ne (fun z => f j (by rw [← z]; exact hc))], g⟩
  have e : fpB (upd H a o) σ[j]? en.sl[j]? = fpB H σ[j]? en.sl[j]? := by
    cases q1 : σ[j]? with
    | none => rfl
    | some v =>
      cases q2 : en.sl[j]? with
      | none => cases v <;> rfl
      | some b => rw [q1, q2] at kp; exact ((R.slot j v b q1 q2).frame (Same.refl G) kp).2
  rw [e] at h
  exact f j h
end
section
variable {X : Cx} {W : WX} {e a b : Expr} {w wa wb : WE} {pos : Pos} {st : Stmt}
theorem rlf_lc {K : PySem.W.Frag} {wi : WI} {g : WG} {tt : WT} {te : WE} {vs : List Nat} {σ : L2.St} {H : Hp} {Z : VK} (h : RlF K W (fLc wi g tt te vs) σ H Z) :
    tLc (RlI K W wi) (RlG K vs g) (RlT K (fun _ _ _ _ => False) tt) (Rl K (fun _ _ _ _ => False) te) vs σ H Z := by
  obtain ⟨C0, G, en, Q, E, R, xo0, q, k⟩ := h
  refine ⟨C0, G, en, _, E, R, xo0, q, fun J xs G1 H1 en1 R1' s1 go q1 Dl nD => ?_⟩
  have xw : ∀ C : Ctx, XOk K (fun _ _ _ _ => False) C noE := fun C _ _ _ _ _ _ _ _ _ z => z
  have hk0 := R1'.hk0 nD
  have h00 := R1'.H0 nD
  have R1 := ((R1'.newH (o := .lst []) nD).wipe vs).anchor
  have ha : ∀ G H σ en, Rel K { C0 with an := G1 } G H σ en → Same G1 G := fun _ _ _ _ R => R.anc
  have hw : ∀ {G H σ en}, Rel K { C0 with an := G1 } G H σ en → Rel K C0 G H σ en := fun R => R.weak R1'.anc
  have e1 : ({ C0 with an := G1 } : Ctx).H0 Dl = none := h00
  have e2 : ({ C0 with an := G1 } : Ctx).hk Dl = none := hk0
  generalize { C0 with an := G1 } = C at R1 ha hw e1 e2
  refine lc_by (n := xs.length) (fun i H => ∃ G2 en2 vacc acc, Rel K C G2 H (L2.wipe σ vs) en2 ∧ H Dl = some (.lst vacc) ∧ Nw C G2 H (L2.wipe σ vs) en2 Dl ∧ Reps K G2 vacc acc ∧ (∀ i ∈ vs, en2.sl[i]? = some none ∨ en2.sl[i]? = none) ∧ lcGo g tt te vs Q (xs.drop i) acc en2)
    ⟨G1, _, [], [], R1, upd_same, ⟨R1'.sub.free nD, e1, freeW (R1'.freeN nD), e2⟩, .nil, fun i hi => wipeE_none hi, q1⟩ (fun i H2 hi ⟨G2, en2, vacc, acc, R2, _⟩ => ?_) (fun H2 ⟨G2, en2, vacc, acc, R2, _⟩ => ?_) (fun i H2 v H3 hi ⟨G2, en2, vacc, acc, R2, hd, nw, rp, en0, q2⟩ hy => ?_) fun H2 ⟨G2, en2, vacc, acc, R2, hd, nw, rp, en0, q2⟩ => ?_
  · exact ((go G2 H2 (ha _ _ _ _ R2) R2.sub).1 i _ (List.getElem?_eq_getElem hi)).1
  · exact (go G2 H2 (ha _ _ _ _ R2) R2.sub).2
  · obtain ⟨G3, g3, r3⟩ := ((go G2 H2 (ha _ _ _ _ R2) R2.sub).1 i _ (List.getElem?_eq_getElem hi)).2 v H3 hy
    rw [List.drop_eq_getElem_cons hi] at q2
    have R3 := (R2.hold hd (fun _ z => nomatch z) nw.1 nw.2.1 nw.2.2.1).grow g3
    refine ⟨_, G3, en2, _, _, R3, r3, q2, fun G4 H4 σ4 en4 R4 s4 t4 q4 => ⟨(wipe_eq t4).trans wipe_wipe, ?_⟩⟩
    have s14 : Same G3 G4 := s4
    refine ⟨_, G4, en4, _, _, R4, xw _, q4, fun c G5 H5 en5 R5 s5 q5 => ?_⟩
    have wσ : L2.wipe σ4 vs = L2.wipe σ vs := (wipe_eq t4).trans wipe_wipe
    cases c with
    | true =>
      rw [if_pos rfl] at q5
      refine iteT ?_
      refine ⟨_, G5, en5, _, _, R5, xw _, q5, fun y x G6 H6 en6 R6 s6 r6 q6 => ?_⟩
      obtain ⟨d1, _, d2, d3, d4⟩ := R6.hkk Dl _ upd_same
      refine ⟨vacc, d1, by rw [rp.length]; exact sz5l q6.1, ?_⟩
      have R7 := R6.unhold nw.2.2.2
      have R8 := (R7.mutN (o := .lst (vacc ++ [y])) d2 d3 (fun _ z => nomatch z) d4 nw.2.2.2).wipe vs
      have fw := freeW (vs := vs) (R7.freeU (o := .lst (vacc ++ [y])) d4)
      rw [wσ] at R8 fw
      exact ⟨G6, _, _, _, R8, upd_same, ⟨d2, d3, fw, nw.2.2.2⟩, (rp.mono (((g3.gg.trans s4).trans s5).trans s6)).snoc r6, fun i hi => wipeE_none hi, q6.2⟩
    | false =>
      rw [if_neg (by decide)] at q5
      refine iteF ?_
      obtain ⟨d1, _, d2, d3, d4⟩ := R5.hkk Dl _ upd_same
      have R8 := (R5.unhold nw.2.2.2).wipe vs
      have fw := freeW (vs := vs) d4
      rw [wσ] at R8 fw
      exact ⟨G5, _, _, _, R8, d1, ⟨d2, d3, fw, nw.2.2.2⟩, rp.mono ((g3.gg.trans s4).trans s5), fun i hi => wipeE_none hi, q5⟩
  · rw [List.drop_length] at q2
    have hu : Rel K C G2 H2 σ en2 := R2.unwipe en0
    exact k Dl vacc acc G2 H2 en2 (hw hu) (s1.trans (ha _ _ _ _ R2)) hd ⟨nw.1, h00, fun j z => nw.2.2.1 j (by rw [fpW en0]; exact z), hk0⟩ rp q2
theorem df_lc {wi : WI} {g : WG} {tt : WT} {te : WE} {vs : List Nat} (h : PE X e (tLc (RlI X.K W wi) (RlG X.K vs g) (RlT X.K (fun _ _ _ _ => False) tt) (Rl X.K (fun _ _ _ _ => False) te) vs)) : DF X W e (fLc wi g tt te vs) := PE.of h fun _ _ _ => rlf_lc
/-- name = [..], the name's list of its own; or data -/
theorem ds_lcF {i : Nat} {wi : WI} {g : WG} {tt : WT} {te : WE} {vs : List Nat} (h : PS X st (tAsg (tLc (RlI X.K W wi) (RlG X.K vs g) (RlT X.K (fun _ _ _ _ => False) tt) (Rl X.K (fun _ _ _ _ => False) te) vs) (gName i))) : DS X W st (sSetF i (fLc wi g tt te vs)) :=
  ds_setF (wf := fLc wi g tt te vs) (PS.of h fun D σ H => fun (q : RlF X.K W (fLc wi g tt te vs) σ H fun x H1 => gName i x σ H1 D.nx) => rlf_lc q)
theorem ds_lc {i : Nat} {wi : WI} {g : WG} {tt : WT} {te : WE} {vs : List Nat} (h : PS X st (tAsg (tLc (RlI X.K W wi) (RlG X.K vs g) (RlT X.K (fun _ _ _ _ => False) tt) (Rl X.K (fun _ _ _ _ => False) te) vs) (gName i))) : DS X W st (sSet i (eF (fLc wi g tt te vs))) :=
  ds_set (PS.of h fun D σ H => fun (q : Rl X.K W (eF (fLc wi g tt te vs)) σ H fun x H1 => gName i x σ H1 D.nx) => rlf_lc (rlF q))
def tYesD : WT := fun en Q _ => Q true en
theorem rlt_yes {K : PySem.W.Frag} {W : WX} {σ : L2.St} {H : Hp} {Z : Bool → Hp → Prop} (h : RlT K W tYesD σ H Z) : tYes σ H Z := by
  obtain ⟨C, G, en, Q, E, R, xo, q, k⟩ := h
  exact k true G H en R (Same.refl G) q
theorem PTs.of {ifs : List Expr} {t t' : TT} (h : PTs X ifs t) (k : ∀ σ H Z, t' σ H Z → t σ H Z) : PTs X ifs t' := ⟨fun pins s σ H Q I q => h.run pins s σ H Q I (k σ H Q q)⟩
theorem dts_nil : PTs X [] (RlT X.K W tYesD) := PTs.of pts_nil fun _ _ _ => rlt_yes
/-! ### what is walked -/
def iLst (w : WE) : WI := fun en Q E => w en (fun x en1 => match x with | .lst xs => Q xs en1 | _ => False) E
def iTupD (w : WE) : WI := fun en Q E => w en (fun x en1 => match x with | .tup xs => Q xs en1 | _ => False) E
def iStrD (w : WE) : WI := fun en Q E => w en (fun x en1 => match x with | .str z => Q (z.cps.toList.map fun c => .str ⟨#[c]⟩) en1 | _ => False) E
def intsD (lo : Int) (n : Nat) : List D := (List.range n).map fun i : Nat => .int (lo + (i : Int))
def iR1 (r : WA) : WI := fun en Q E => aD r en (fun xs en1 => match xs with | [.int n] => -(2 ^ 62) ≤ n ∧ n < 2 ^ 62 ∧ Q (intsD 0 n.toNat) en1 | _ => False) E
def iR2 (r : WA) : WI := fun en Q E => aD r en (fun xs en1 => match xs with | [.int m, .int n] => (-(2 ^ 62) ≤ m ∧ m < 2 ^ 62 ∧ -(2 ^ 62) ≤ n ∧ n < 2 ^ 62) ∧ Q (intsD m (n - m).toNat) en1 | _ => False) E
def pairs (xs : List D) : List D := (List.range xs.length).zipWith (fun (i : Nat) (x : D) => .tup [.int (i : Int), x]) xs
def iEn (r : WA) : WI := fun en Q E => aD r en (fun xs en1 => match xs with | [.lst ys] => Q (pairs ys) en1 | _ => False) E
def iZp (r : WA) : WI := fun en Q E => aD r en (fun xs en1 => match xs with | [.lst ys, .lst zs] => Q (ys.zipWith (fun x y => .tup [x, y]) zs) en1 | _ => False) E
section
variable {K : PySem.W.Frag} {C : Ctx} {G : Hp}
theorem goes_list {a : Addr} {vs : List V} {xs : List D} (h : G a = some (.lst vs)) (r : Reps K G vs xs) : Goes K (Itl K a) xs G := fun G1 H1 s1 s2 => by
  have hl : SqL K H1 a vs := SqL.of (s2 _ _ (s1 _ _ h))
  refine ⟨fun i x hx => ?_, vs, hl, by rw [r.length]; exact Nat.le_refl _⟩
  obtain ⟨v, hv, rv⟩ := r.at hx
  refine ⟨⟨vs, v, hl, hv⟩, fun u H2 ⟨e, hy⟩ => ?_⟩
  have := hy vs hl
  rw [hv] at this; cases this
  subst e
  exact ⟨G1, Gr.refl s2, rv.mono s1⟩
theorem goes_tup {a : Addr} {vs : List V} {xs : List D} (h : SqT K G a vs) (r : Reps K G vs xs) : Goes K (Itt K a) xs G := fun G1 H1 s1 s2 => by
  have hl : SqT K H1 a vs := Same.tup (s1.trans s2) h
  refine ⟨fun i x hx => ?_, vs, hl, by rw [r.length]; exact Nat.le_refl _⟩
  obtain ⟨v, hv, rv⟩ := r.at hx
  refine ⟨⟨vs, v, hl, hv⟩, fun u H2 ⟨e, hy⟩ => ?_⟩
  have := hy vs hl
  rw [hv] at this; cases this
  subst e
  exact ⟨G1, Gr.refl s2, rv.mono s1⟩
theorem intsD_get {lo : Int} {n i : Nat} {x : D} (h : (intsD lo n)[i]? = some x) : i < n ∧ x = .int (lo + (i : Int)) := by
  unfold intsD at h
  rw [List.getElem?_map] at h
  by_cases hi : i < n
  · rw [List.getElem?_range hi] at h
    exact ⟨hi, (Option.some.inj h).symm⟩
  · rw [List.getElem?_eq_none (by simp; omega)] at h; cases h
theorem goes_range {lo : Int} {n : Nat} : Goes K (Itr lo n) (intsD lo n) G := fun G1 H1 s1 s2 => by
  refine ⟨fun i x hx => ?_, by show n ≤ (intsD lo n).length; simp [intsD]⟩
  obtain ⟨hi, rfl⟩ := intsD_get hx
  exact ⟨hi, fun v H2 ⟨e1, e2⟩ => by subst e1; subst e2; exact ⟨G1, Gr.refl s2, .int _⟩⟩
theorem goes_str {z : Str} : Goes K (Its z) (z.cps.toList.map fun c => .str ⟨#[c]⟩) G := fun G1 H1 s1 s2 => by
  refine ⟨fun i x hx => ?_, by show z.cps.size ≤ (z.cps.toList.map fun c => D.str ⟨#[c]⟩).length; simp⟩
  rw [List.getElem?_map] at hx
  cases q : z.cps.toList[i]? with
  | none => rw [q] at hx; cases hx
  | some c =>
    rw [q] at hx; cases hx
    have hi : i < z.cps.size := by
      have := (List.getElem?_eq_some_iff.mp q).1
      simpa using this
    refine ⟨hi, fun v H2 ⟨e1, c', e2, e3⟩ => ?_⟩
    subst e1; subst e3
    have : z.cps.toList[i]? = some c' := by simpa using e2
    rw [q] at this; cases this
    exact ⟨G1, Gr.refl s2, .str _⟩
theorem pairs_get {xs : List D} {i : Nat} {x : D} (h : (pairs xs)[i]? = some x) : ∃ y, xs[i]? = some y ∧ x = .tup [.int (i : Int), y] := by
  unfold pairs at h
  rw [List.getElem?_zipWith] at h
  by_cases hi : i < xs.length
  · rw [List.getElem?_range hi, List.getElem?_eq_getElem hi] at h
    exact ⟨_, List.getElem?_eq_getElem hi, (Option.some.inj h).symm⟩
  · rw [List.getElem?_eq_none (l := List.range xs.length) (by simp; omega)] at h; cases h
theorem pairs_length (xs : List D) : (pairs xs).length = xs.length := by simp [pairs]
theorem goes_enum {a : Addr} {vs : List V} {xs : List D} (h : G a = some (.lst vs)) (r : Reps K G vs xs) : Goes K (Ite K a) (pairs xs) G := fun G1 H1 s1 s2 => by
  have hl : SqL K H1 a vs := SqL.of (s2 _ _ (s1 _ _ h))
  refine ⟨fun i x hx => ?_, vs, hl, by rw [r.length, pairs_length]; exact Nat.le_refl _⟩
  obtain ⟨y, hy, rfl⟩ := pairs_get hx
  obtain ⟨v, hv, rv⟩ := r.at hy
  refine ⟨⟨vs, v, hl, hv⟩, fun u H2 ⟨T, x', e1, n, e2, hy⟩ => ?_⟩
  have := hy vs hl
  rw [hv] at this; cases this
  subst e1; subst e2
  have g := Gr.new1 (o := .tup [.int (i : Nat), v]) s2 n
  exact ⟨_, g, .tup (SqT.of upd_same) (.cons (.int _) (.cons ((rv.mono s1).mono g.gg) .nil))⟩
theorem goes_zip {a b : Addr} {vs us : List V} {xs ys : List D} (h : G a = some (.lst vs)) (r : Reps K G vs xs) (h' : G b = some (.lst us)) (r' : Reps K G us ys) : Goes K (Itz K a b) (xs.zipWith (fun x y => .tup [x, y]) ys) G := fun G1 H1 s1 s2 => by
  have hl : SqL K H1 a vs := SqL.of (s2 _ _ (s1 _ _ h))
  have hl' : SqL K H1 b us := SqL.of (s2 _ _ (s1 _ _ h'))
  refine ⟨fun i x hx => ?_, vs, us, hl, hl', by rw [r.length, r'.length, List.length_zipWith]; omega⟩
  rw [List.getElem?_zipWith] at hx
  cases q1 : xs[i]? with
  | none => rw [q1] at hx; cases hx
  | some x1 =>
    cases q2 : ys[i]? with
    | none => rw [q1, q2] at hx; cases hx
    | some y1 =>
      rw [q1, q2] at hx; cases hx
      obtain ⟨v, hv, rv⟩ := r.at q1
      obtain ⟨u, hu, ru⟩ := r'.at q2
      refine ⟨⟨vs, us, v, u, hl, hl', hv, hu⟩, fun w H2 ⟨T, x', y', e1, n, e2, hy, hy'⟩ => ?_⟩
      have z1 := hy vs hl
      have z2 := hy' us hl'
      rw [hv] at z1; rw [hu] at z2; cases z1; cases z2
      subst e1; subst e2
      have g := Gr.new1 (o := .tup [v, u]) s2 n
      exact ⟨_, g, .tup (SqT.of upd_same) (.cons ((rv.mono s1).mono g.gg) (.cons ((ru.mono s1).mono g.gg) .nil))⟩
end
theorem di_list {tg : Expr} (h : PI X tg e (iList X.K (Rl X.K W w))) : DI X W tg e (iLst w) := PI.of h fun σ H R ⟨C, G, en, Q, E, R0, xo, q, k⟩ => by
  refine ⟨C, G, en, _, E, R0, xo, q, fun v x G1 H1 en1 R1 s1 r1 q1 => ?_⟩
  cases r1 with
  | lst h1 h2 => exact ⟨_, rfl, ⟨_, SqL.of (R1.sub _ _ h1)⟩, k _ _ G1 H1 en1 R1 s1 (goes_list h1 h2) q1⟩
  | _ => exact q1.elim
theorem di_tup {tg : Expr} (h : PI X tg e (iTup X.K (Rl X.K W w))) : DI X W tg e (iTupD w) := PI.of h fun σ H R ⟨C, G, en, Q, E, R0, xo, q, k⟩ => by
  refine ⟨C, G, en, _, E, R0, xo, q, fun v x G1 H1 en1 R1 s1 r1 q1 => ?_⟩
  cases r1 with
  | tup h1 h2 => exact ⟨_, rfl, ⟨_, Same.tup R1.sub h1⟩, k _ _ G1 H1 en1 R1 s1 (goes_tup h1 h2) q1⟩
  | _ => exact q1.elim
theorem di_str {tg : Expr} (h : PI X tg e (iStr (Rl X.K W w))) : DI X W tg e (iStrD w) := PI.of h fun σ H R ⟨C, G, en, Q, E, R0, xo, q, k⟩ => by
  refine ⟨C, G, en, _, E, R0, xo, q, fun v x G1 H1 en1 R1 s1 r1 q1 => ?_⟩
  cases r1 with
  | str z => exact ⟨_, rfl, k _ _ G1 H1 en1 R1 s1 goes_str q1⟩
  | _ => exact q1.elim
theorem rla {K : PySem.W.Frag} {r : WA} {σ : L2.St} {H : Hp} {C : Ctx} {G : Hp} {en : En} {Q : List D → En → Prop} {E : EK} {Z : List V → Hp → Prop} (R : Rel K C G H σ en) (xo : XOk K W C E) (q : aD r en Q E)
    (k : ∀ vs xs G' H' en', Rel K C G' H' σ en' → Same G G' → Reps K G' vs xs → Q xs en' → Z vs H') : RlA K W r σ H Z := by
  refine ⟨C, G, en, _, E, R, xo, q, fun vs bs G1 H1 en1 R1 s1 r1 q1 => ?_⟩
  cases qb : allD bs with
  | none => rw [qb] at q1; exact q1.elim
  | some xs => rw [qb] at q1; exact k vs xs G1 H1 en1 R1 s1 (r1.reps qb) q1
theorem reps1 {K : PySem.W.Frag} {G : Hp} {vs : List V} {x : D} (r : Reps K G vs [x]) : ∃ v, vs = [v] ∧ Rep K G v x := by
  cases r with
  | cons h r => cases r; exact ⟨_, rfl, h⟩
theorem reps2 {K : PySem.W.Frag} {G : Hp} {vs : List V} {x y : D} (r : Reps K G vs [x, y]) : ∃ v u, vs = [v, u] ∧ Rep K G v x ∧ Rep K G u y := by
  cases r with
  | cons h r => obtain ⟨u, rfl, h2⟩ := reps1 r; exact ⟨_, _, rfl, h, h2⟩
theorem di_r1 {tg : Expr} {r : WA} (h : PI X tg e (iRng1 (RlA X.K W r))) : DI X W tg e (iR1 r) := PI.of h fun σ H R ⟨C, G, en, Q, E, R0, xo, q, k⟩ => by
  refine rla R0 xo q fun vs xs G1 H1 en1 R1 s1 rr q1 => ?_
  split at q1
  · obtain ⟨v, rfl, rv⟩ := reps1 rr
    cases rv
    exact ⟨_, rfl, q1.1, q1.2.1, k _ _ G1 H1 en1 R1 s1 goes_range q1.2.2⟩
  · exact q1.elim
theorem di_r2 {tg : Expr} {r : WA} (h : PI X tg e (iRng2 (RlA X.K W r))) : DI X W tg e (iR2 r) := PI.of h fun σ H R ⟨C, G, en, Q, E, R0, xo, q, k⟩ => by
  refine rla R0 xo q fun vs xs G1 H1 en1 R1 s1 rr q1 => ?_
  split at q1
  · obtain ⟨v, u, rfl, rv, ru⟩ := reps2 rr
    cases rv; cases ru
    exact ⟨_, _, rfl, q1.1, k _ _ G1 H1 en1 R1 s1 goes_range q1.2⟩
  · exact q1.elim
theorem di_en {tg : Expr} {r : WA} (h : PI X tg e (iEnum X.K (RlA X.K W r))) : DI X W tg e (iEn r) := PI.of h fun σ H R ⟨C, G, en, Q, E, R0, xo, q, k⟩ => by
  refine rla R0 xo q fun vs xs G1 H1 en1 R1 s1 rr q1 => ?_
  split at q1
  · obtain ⟨v, rfl, rv⟩ := reps1 rr
    cases rv with
    | lst h1 h2 => exact ⟨_, _, rfl, SqL.of (R1.sub _ _ h1), k _ _ G1 H1 en1 R1 s1 (goes_enum h1 h2) q1⟩
  · exact q1.elim
theorem di_zp {tg : Expr} {r : WA} (h : PI X tg e (iZip X.K (RlA X.K W r))) : DI X W tg e (iZp r) := PI.of h fun σ H R ⟨C, G, en, Q, E, R0, xo, q, k⟩ => by
  refine rla R0 xo q fun vs xs G1 H1 en1 R1 s1 rr q1 => ?_
  split at q1
  · obtain ⟨v, u, rfl, rv, ru⟩ := reps2 rr
    cases rv with
    | lst h1 h2 =>
      cases ru with
      | lst h3 h4 => exact ⟨_, _, _, _, rfl, SqL.of (R1.sub _ _ h1), SqL.of (R1.sub _ _ h3), k _ _ G1 H1 en1 R1 s1 (goes_zip h1 h2 h3 h4) q1⟩
  · exact q1.elim
end
end KD

/-! Defs and calls over data. -/
namespace KD
open PySem PySem.Spec PyProof.Rows L2 KP
/-- what a def does: arguments and draws begun; a value, or an exception -/
abbrev WD := List B → Int → (D → Int → Prop) → (XC → Int → Prop) → Prop
def cx0 (π : Option Pid) : Ctx := ⟨π, [], fun _ => none, fun _ => none, fun _ => none, fun _ => none⟩
def Pr (K : PySem.W.Frag) (W : WD) : Sp := fun vs H Z E => ∃ π G b bs Q EQ, Same G H ∧ (∀ p, π = some p → Pen K H p b ∧ G p.a = none) ∧ ArgsR K (cx0 π) G vs bs ∧ W bs b Q EQ ∧
  (∀ v x G' H' b', Fr K π [] G H G' H' b' → Rep K G' v x → Q x b' → Z v H') ∧ (∀ cls od x G' H' b', Fr K π [] G H G' H' b' → RepX K G' H' cls od x → EQ x b' → E cls od H')
/-- a def by its body: n parameters, m names -/
def runD (n m : Nat) (w : WS) : WD := fun bs b Q E => bs.length = n ∧ w ⟨fun en => Q .non en.b, fun x en => Q x en.b, fun _ => False, fun _ => False, fun x en => E x en.b⟩ ⟨bs.map some ++ List.replicate (m - bs.length) none, b⟩
section
variable {K : PySem.W.Frag} {C : Ctx} {G H : Hp} {π : Option Pid} {b : Int} {vs : List V} {bs : List B}
theorem ArgR.ctx {C C' : Ctx} (e : C.π = C'.π) {v : V} : ∀ {b : B}, ArgR K C G v b → ArgR K C' G v b
  | .d x, h => h
  | .pen, ⟨p, h1, h2⟩ => ⟨p, e ▸ h1, h2⟩
theorem ArgsR.ctx {C C' : Ctx} (e : C.π = C'.π) : ∀ {vs : List V} {bs : List B}, ArgsR K C G vs bs → ArgsR K C' G vs bs
  | _, _, .nil => .nil
  | _, _, .cons h r => .cons (h.ctx e) (ArgsR.ctx e r)
theorem ArgsR.length : ∀ {vs : List V} {bs : List B}, ArgsR K C G vs bs → vs.length = bs.length
  | _, _, .nil => rfl
  | _, _, .cons _ r => by simp [ArgsR.length r]
theorem ArgsR.at : ∀ {vs : List V} {bs : List B} {i : Nat} {v : V} {c : B}, ArgsR K C G vs bs → vs[i]? = some v → bs[i]? = some c → ArgR K C G v c
  | _, _, _, _, _, .nil, e, _ => by simp at e
  | _, _, 0, _, _, .cons h _, e, e' => by simp at e e'; subst e; subst e'; exact h
  | _, _, i + 1, _, _, .cons _ r, e, e' => ArgsR.at (i := i) r (by simpa using e) (by simpa using e')
/-- the entry of a def -/
theorem Rel.start (s : Same G H) (hp : ∀ p, π = some p → Pen K H p b ∧ G p.a = none) (ar : ArgsR K (cx0 π) G vs bs) (m : Nat) :
    Rel K ⟨π, [], G, fun _ => none, G, H⟩ G H (vs.map some ++ List.replicate (m - vs.length) none) ⟨bs.map some ++ List.replicate (m - bs.length) none, b⟩ := by
  have ln := ar.length
  have no : ∀ (i : Nat) (o : Option (Option V)), fpB H o ((bs.map some ++ List.replicate (m - bs.length) none)[i]?) = [] := fun i o => by
    cases o with
    | none => rfl
    | some o =>
      cases o with
      | none => cases (bs.map some ++ List.replicate (m - bs.length) none)[i]? <;> rfl
      | some v =>
        by_cases hi : i < bs.length
        · have e1 : (bs.map some ++ List.replicate (m - bs.length) none)[i]? = some (some bs[i]) := by
            rw [List.getElem?_append_left (by simpa using hi), List.getElem?_map, List.getElem?_eq_getElem hi]; rfl
          rw [e1]
          have a := ar.at (List.getElem?_eq_getElem (by omega : i < vs.length)) (List.getElem?_eq_getElem hi)
          cases q : bs[i] <;> rw [q] at a <;> first | exact False.elim a | rfl
        · rw [List.getElem?_append_right (by simpa using hi), List.getElem?_replicate]
          split <;> rfl
  refine ⟨⟨Same.refl G, s, fun a h g => absurd g h, fun a o h _ _ => h, hp, fun x e => nomatch e⟩, fun p e => ⟨b, (hp p e).1⟩, (fun p x _ e => nomatch e), (fun x e => nomatch e), Same.refl G, (fun a o h => nomatch h), by simp [ln], fun i v c h1 h2 => ?_, fun i j a h1 _ => by rw [show fpB H _ _ = [] from no i _] at h1; cases h1⟩
  by_cases hi : i < bs.length
  · rw [List.getElem?_append_left (by simp; omega), List.getElem?_map, List.getElem?_eq_getElem (by omega : i < vs.length)] at h1
    rw [List.getElem?_append_left (by simpa using hi), List.getElem?_map, List.getElem?_eq_getElem hi] at h2
    cases h1; cases h2
    have a := ar.at (List.getElem?_eq_getElem (by omega : i < vs.length)) (List.getElem?_eq_getElem hi)
    cases q : bs[i] <;> rw [q] at a
    · exact ⟨_, rfl, a⟩
    · exact a.elim
    · exact a.elim
    · exact a.elim
    · obtain ⟨p, h1, h2⟩ := a; exact ⟨p, h1, by rw [h2]⟩
    · exact a.elim
    · exact a.elim
    · exact a.elim
  · rw [List.getElem?_append_right (by simpa using hi), List.getElem?_replicate] at h2
    split at h2 <;> cases h2
    trivial
end
section
variable {P : Program} {w : World} {K : PySem.W.Frag} {mg : Str → Option Value} {base : Heap} {x qual : Str} {params : Arguments} {body : List Stmt} {scope : Scope} {dvs : List V} {kws : List (Str × V)} {f : Addr} {fd : FuncData} {k : Nat}
theorem def_ok {N ps : List Str} {wb : WS} (F : FunD K x qual params body scope dvs kws f fd) (S : FnScope N ps scope)
    (hbody : ∀ (cdv : Value) (A : Around) (outer : List Env) (s : Shared) (H : Hp) (E : XK), Room k (A.deeper (envOfC qual scope s.heap.objs.size f cdv)) →
      Takes (cxOf (L2.CX P w) P w K mg base N qual scope f cdv A outer s H E) (fun cls d _ H => E cls d H) →
      DSs (cxOf (L2.CX P w) P w K mg base N qual scope f cdv A outer s H E) (fun cls d _ H => E cls d H) body wb) : FnOk P w K mg base (L2.CX P w) (k + 1) f fd ps (Pr K (runD ps.length N.length wb)) := by
  refine F.ok S (fun vs H Q E ⟨π, G, b, bs, Q', EQ, _, _, ar, wq, _⟩ => ar.length.trans wq.1) fun cdv A outer s H vs Z E hr ⟨π, G, b, bs, Q, EQ, sg, hp, ar, wq, kq, ke⟩ => ?_
  refine ⟨_, hbody cdv A outer s H E hr (takes_of rfl rfl rfl rfl), ⟨⟨π, [], G, fun _ => none, G, H⟩, G, _, _, Rel.start sg hp ar N.length, fun y en σ G' H' cls od R rx q => ke cls od y G' H' en.b R.fr rx q, wq.2, ⟨fun G' H' σ en R q => kq .non .non G' H' en.b R.fr .non q, fun v y G' H' σ en R r q => kq v y G' H' en.b R.fr r q, fun _ _ _ _ _ q => q.elim, fun _ _ _ _ _ q => q.elim⟩⟩⟩
/-- a promise under which nothing is raised -/
theorem FnOk.toX {sp : Sp} {ps : List Str} (F : FnOk P w K mg base CX0 k f fd ps sp) : FnOk P w K mg base (L2.CX P w) k f fd ps sp :=
  ⟨F.len, fun A outer s H args us vs Q E hr e0 hb r h => codeAny_mono (F.run A outer s H args us vs Q E hr e0 hb r h) fun r s' q => by
    cases r with
    | error e => exact q.elim
    | ok fl => cases fl <;> exact q⟩
theorem FnOk.pr {sp : Sp} {ps : List Str} {W : WD} (F : FnOk P w K mg base CX0 k f fd ps sp) (h : ∀ vs H Z E, Pr K W vs H Z E → sp vs H Z E) : FnOk P w K mg base (L2.CX P w) k f fd ps (Pr K W) := FnOk.toX (F.imp h)
/-- a weaker word -/
theorem FnOk.wk {ps : List Str} {W W' : WD} (F : FnOk P w K mg base (L2.CX P w) k f fd ps (Pr K W)) (h : ∀ bs b Q E, W' bs b Q E → W bs b Q E) : FnOk P w K mg base (L2.CX P w) k f fd ps (Pr K W') :=
  F.imp fun vs H Z E ⟨π, G, b, bs, Q, EQ, s, hp, ar, wq, r⟩ => ⟨π, G, b, bs, Q, EQ, s, hp, ar, h _ _ _ _ wq, r⟩
end
/-! ### calls -/
def eCall (Wd : WD) (r : WA) : WE := fun en Q E => r en (fun bs en1 => Wd bs en1.b (fun x b' => Q x { en1 with b := b' }) (fun x b' => E x { en1 with b := b' })) E
/-- with the defaults dd behind the arguments -/
def eCallD (Wd : WD) (dd : List D) (r : WA) : WE := fun en Q E => r en (fun bs en1 => Wd (bs ++ dd.map B.d) en1.b (fun x b' => Q x { en1 with b := b' }) (fun x b' => E x { en1 with b := b' })) E
section
variable {X : Cx} {W : WX} {e o : Expr} {es : List Expr} {w : WE} {r : WA} {p pos apos : Pos} {x m : Str} {k : Nat} {f : Addr} {fd : FuncData} {ps : List Str} {Wd : WD}
theorem argd {K : PySem.W.Frag} {C : Ctx} {G : Hp} {v : V} {x : D} (h : Rep K G v x) : ArgR K C G v (.d x) := h
theorem pr_of {K : PySem.W.Frag} {C : Ctx} {G H : Hp} {σ : L2.St} {en : En} {vs : List V} {bs : List B} {Q : D → En → Prop} {E : EK} {Z : VK} (R : Rel K C G H σ en) (xo : XOk K W C E) (ar : ArgsR K C G vs bs)
    (q : Wd bs en.b (fun x b' => Q x { en with b := b' }) (fun x b' => E x { en with b := b' })) (k : ∀ v y G' H' en', Rel K C G' H' σ en' → Same G G' → Rep K G' v y → Q y en' → Z v H') : Pr K Wd vs H Z (L2.WE W σ) :=
  ⟨C.π, G, en.b, bs, _, _, R.sub, R.penG, ar.ctx rfl, q, fun v y G' H' b' fr r q => k v y G' H' _ (R.call fr) fr.gg r q, fun cls od y G' H' b' fr r q => xo y _ σ G' H' cls od (R.call fr) r q⟩
theorem d_call (F : FnOk X.prog X.w X.K X.mg X.base (L2.CX X.prog X.w) k f fd ps (Pr X.K Wd)) (hr : Room k X.A) (hg : Gl X x) (hm : X.mg x = some (.ref f)) (hk : PySem.W.keepIn X.K (.ref f) = true) (hb : Binds X.K fd ps []) (tk : Takes X W)
    (ha : DA X W (e :: es) r) (hdb : (x == ("__debug__" : Str)) = false := by decide) (he : starEach (e :: es) X.env = (false, eval e X.env) :: starEach es X.env := by rfl) (hpl : (backTo pos (starEach es X.env)).any (·.1) = false := by rfl) :
    DE X W (.Call (.Name x p) (e :: es) [] pos) (eCall Wd r) := PE.of (pe_callSD (E := L2.WE W) F hr hg hm hk hb .nil (fun σ => passAt tk σ) ha hdb he hpl) fun σ H Z ⟨C, G, en, Q, E, R, xo, q, k⟩ => by
  refine ⟨C, G, en, _, E, R, xo, q, fun vs bs G1 H1 en1 R1 s1 r1 q1 => ?_⟩
  show Pr X.K Wd (vs ++ []) H1 Z (L2.WE W σ)
  rw [List.append_nil]
  exact pr_of R1 xo r1 q1 fun v y G' H' en' R' s' r' q' => k v y G' H' en' R' (s1.trans s') r' q'
theorem reps_args {K : PySem.W.Frag} {C : Ctx} {G : Hp} : ∀ {vs : List V} {xs : List D}, Reps K G vs xs → ArgsR K C G vs (xs.map B.d)
  | _, _, .nil => .nil
  | _, _, .cons h r => .cons h (reps_args r)
theorem ArgsR.append {K : PySem.W.Frag} {C : Ctx} {G : Hp} : ∀ {vs us : List V} {xs ys : List B}, ArgsR K C G vs xs → ArgsR K C G us ys → ArgsR K C G (vs ++ us) (xs ++ ys)
  | _, _, _, _, .nil, s => s
  | _, _, _, _, .cons h r, s => .cons h (ArgsR.append r s)
theorem d_callD {dvs : List V} {ds : List Value} {dd : List D} (F : FnOk X.prog X.w X.K X.mg X.base (L2.CX X.prog X.w) k f fd ps (Pr X.K Wd)) (hr : Room k X.A) (hg : Gl X x) (hm : X.mg x = some (.ref f)) (hk : PySem.W.keepIn X.K (.ref f) = true) (hb : Binds X.K fd ps ds) (hd : Vals dvs ds) (hdd : ∀ G, Reps X.K G dvs dd) (tk : Takes X W)
    (ha : DA X W (e :: es) r) (hdb : (x == ("__debug__" : Str)) = false := by decide) (he : starEach (e :: es) X.env = (false, eval e X.env) :: starEach es X.env := by rfl) (hpl : (backTo pos (starEach es X.env)).any (·.1) = false := by rfl) :
    DE X W (.Call (.Name x p) (e :: es) [] pos) (eCallD Wd dd r) := PE.of (pe_callSD (E := L2.WE W) F hr hg hm hk hb hd (fun σ => passAt tk σ) ha hdb he hpl) fun σ H Z ⟨C, G, en, Q, E, R, xo, q, k⟩ => by
  refine ⟨C, G, en, _, E, R, xo, q, fun vs bs G1 H1 en1 R1 s1 r1 q1 => ?_⟩
  exact pr_of R1 xo (r1.append (reps_args (hdd G1))) q1 fun v y G' H' en' R' s' r' q' => k v y G' H' en' R' (s1.trans s') r' q'
/-! #### methods: as pe_meth, the wish at the slots -/
theorem pe_methSD {C : Addr} {sp : Sp} {dvs : List V} {ds : List Value} {E : L2.St → XK} {CX : CXT} {ta : TE} {t : TA} {pl : Sem Bool} (he : PE X o ta) (c : Cls X.K C) (hm : Meth X.K C m f) (F : FnOk X.prog X.w X.K X.mg X.base CX k f fd ps sp) (hr : Room k X.A) (hb : Binds X.K fd ps ds) (hd : Vals dvs ds) (hx : ∀ σ, PassesAt CX X σ (E σ)) (ha : PA X (e :: es) t)
    (hst : starEach (e :: es) X.env = (false, eval e X.env) :: starEach es X.env := by rfl) (hpl : (backTo pos (starEach es X.env)).any (·.1) = false := by rfl)
    (ht : eval (.Call (.Attribute o m apos) (e :: es) [] pos) X.env = (do
      let ov ← eval o X.env
      standAt apos.atName
      let (f, first) ← holding [ov] (getMethod ov m pl)
      callWith pos f first (backTo pos (starEach (e :: es) X.env)) (backToKw pos (keywordEach [] X.env))) := by rfl) :
    PE X (.Call (.Attribute o m apos) (e :: es) [] pos) (fun σ H Q => ta σ H fun x H1 => ∃ a dx fs, x = .ref a ∧ H1 a = some (.ins C dx fs) ∧ fs.lookup m = none ∧ t σ H1 fun vs H2 => sp (x :: (vs ++ dvs)) H2 Q (E σ)) := by
  refine ⟨fun pins s σ H Q I h => ?_⟩
  refine PySem.W.methodCall_KW (pl := pl) (thn (he.run pins s σ H _ I h) fun u s1 ⟨x, H1, I1, rx, a, dx, fs, ex, ea, l, q⟩ => ?_) ht
  subst ex
  obtain rfl : u = Value.ref a := rx
  refine getmeth_ok I1 ea c hm l ?_
  refine PySem.W.callWith_K (first := [.ref a]) (h₀ := X.base) I.ok.mod.kin hm.kp (thn (ha.run pos pins s1 σ H1 _ I1 q) fun us s2 ⟨vs, H2, I2, r, q2⟩ => ⟨I2.kIn, ?_⟩) hst hpl
  exact run_fnSD (us := .ref a :: us) (vs := .ref a :: vs) F hr hb hd (hx σ) I2 (.cons rfl r) q2
theorem pe_meth0SD {C : Addr} {sp : Sp} {dvs : List V} {ds : List Value} {E : L2.St → XK} {CX : CXT} {ta : TE} {pl : Sem Bool} (he : PE X o ta) (c : Cls X.K C) (hm : Meth X.K C m f) (F : FnOk X.prog X.w X.K X.mg X.base CX k f fd ps sp) (hr : Room k X.A) (hb : Binds X.K fd ps ds) (hd : Vals dvs ds) (hx : ∀ σ, PassesAt CX X σ (E σ))
    (ht : eval (.Call (.Attribute o m apos) [] [] pos) X.env = (do
      let ov ← eval o X.env
      standAt apos.atName
      let (f, first) ← holding [ov] (getMethod ov m pl)
      callWith pos f first (backTo pos (starEach [] X.env)) (backToKw pos (keywordEach [] X.env))) := by rfl) :
    PE X (.Call (.Attribute o m apos) [] [] pos) (fun σ H Q => ta σ H fun x H1 => ∃ a dx fs, x = .ref a ∧ H1 a = some (.ins C dx fs) ∧ fs.lookup m = none ∧ sp (x :: dvs) H1 Q (E σ)) := by
  refine ⟨fun pins s σ H Q I h => ?_⟩
  refine PySem.W.methodCall_KW (pl := pl) (thn (he.run pins s σ H _ I h) fun u s1 ⟨x, H1, I1, rx, a, dx, fs, ex, ea, l, q⟩ => ?_) ht
  subst ex
  obtain rfl : u = Value.ref a := rx
  refine getmeth_ok I1 ea c hm l ?_
  exact PySem.W.callWith_K0 (first := [.ref a]) I1.kIn hm.kp (run_fnSD (us := [.ref a]) (vs := [.ref a]) F hr hb hd (hx σ) I1 (.cons rfl .nil) q)
/-- o.m(..), o an instance of the class named cn -/
def eMeth (cn m : Str) (Wd : WD) (dd : List D) (w : WE) (r : WA) : WE := fun en Q E => w en (fun x en1 => match x with
  | .obj c fs => c = cn ∧ fs.lookup m = none ∧ r en1 (fun bs en2 => Wd (.d (.obj c fs) :: (bs ++ dd.map B.d)) en2.b (fun x b' => Q x { en2 with b := b' }) (fun x b' => E x { en2 with b := b' })) E
  | _ => False) E
theorem d_meth {cn : Str} {dvs : List V} {ds : List Value} {dd : List D} {pl : Sem Bool} (he : DE X W o w) (c : Cls X.K (He.ga X.K cn)) (hm : Meth X.K (He.ga X.K cn) m f) (F : FnOk X.prog X.w X.K X.mg X.base (L2.CX X.prog X.w) k f fd ps (Pr X.K Wd)) (hr : Room k X.A) (hb : Binds X.K fd ps ds) (hd : Vals dvs ds) (hdd : ∀ G, Reps X.K G dvs dd) (tk : Takes X W) (ha : DA X W (e :: es) r)
    (hst : starEach (e :: es) X.env = (false, eval e X.env) :: starEach es X.env := by rfl) (hpl : (backTo pos (starEach es X.env)).any (·.1) = false := by rfl)
    (ht : eval (.Call (.Attribute o m apos) (e :: es) [] pos) X.env = (do
      let ov ← eval o X.env
      standAt apos.atName
      let (f, first) ← holding [ov] (getMethod ov m pl)
      callWith pos f first (backTo pos (starEach (e :: es) X.env)) (backToKw pos (keywordEach [] X.env))) := by rfl) :
    DE X W (.Call (.Attribute o m apos) (e :: es) [] pos) (eMeth cn m Wd dd w r) := PE.of (pe_methSD (E := L2.WE W) he c hm F hr hb hd (fun σ => passAt tk σ) ha hst hpl ht) fun σ H Z ⟨C, G, en, Q, E, R, xo, q, k⟩ => by
  refine ⟨C, G, en, _, E, R, xo, q, fun v y G1 H1 en1 R1 s1 r1 q1 => ?_⟩
  cases r1 with
  | obj h1 h2 =>
    obtain ⟨rfl, l, q1⟩ := q1
    refine ⟨_, _, _, rfl, R1.sub _ _ h1, h2.lookup0 l, C, G1, en1, _, E, R1, xo, q1, fun vs bs G2 H2 en2 R2 s2 r2 q2 => ?_⟩
    exact pr_of R2 xo (.cons (argd (Rep.mono s2 (.obj h1 h2))) (r2.append (reps_args (hdd G2)))) q2 fun v y G' H' en' R' s' r' q' => k v y G' H' en' R' ((s1.trans s2).trans s') r' q'
  | _ => exact q1.elim
theorem d_meth0 {cn : Str} {dvs : List V} {ds : List Value} {dd : List D} {pl : Sem Bool} (he : DE X W o w) (c : Cls X.K (He.ga X.K cn)) (hm : Meth X.K (He.ga X.K cn) m f) (F : FnOk X.prog X.w X.K X.mg X.base (L2.CX X.prog X.w) k f fd ps (Pr X.K Wd)) (hr : Room k X.A) (hb : Binds X.K fd ps ds) (hd : Vals dvs ds) (hdd : ∀ G, Reps X.K G dvs dd) (tk : Takes X W)
    (ht : eval (.Call (.Attribute o m apos) [] [] pos) X.env = (do
      let ov ← eval o X.env
      standAt apos.atName
      let (f, first) ← holding [ov] (getMethod ov m pl)
      callWith pos f first (backTo pos (starEach [] X.env)) (backToKw pos (keywordEach [] X.env))) := by rfl) :
    DE X W (.Call (.Attribute o m apos) [] [] pos) (eMeth cn m Wd dd w aNil) := PE.of (pe_meth0SD (E := L2.WE W) he c hm F hr hb hd (fun σ => passAt tk σ) ht) fun σ H Z ⟨C, G, en, Q, E, R, xo, q, k⟩ => by
  refine ⟨C, G, en, _, E, R, xo, q, fun v y G1 H1 en1 R1 s1 r1 q1 => ?_⟩
  cases r1 with
  | obj h1 h2 =>
    obtain ⟨rfl, l, q1⟩ := q1
    refine ⟨_, _, _, rfl, R1.sub _ _ h1, h2.lookup0 l, ?_⟩
    exact pr_of R1 xo (.cons (argd (Rep.obj h1 h2)) (reps_args (hdd G1))) q1 fun v y G' H' en' R' s' r' q' => k v y G' H' en' R' (s1.trans s') r' q'
  | _ => exact q1.elim
/-- a property -/
def eProp (cn : Str) (Wd : WD) (w : WE) : WE := fun en Q E => w en (fun x en1 => match x with
  | .obj c fs => c = cn ∧ Wd [.d (.obj c fs)] en1.b (fun x b' => Q x { en1 with b := b' }) (fun _ _ => False)
  | _ => False) E
theorem passL0 {Y : Cx} : Passes (L2.CX Y.prog Y.w) Y.nox E0 := fun _ _ _ _ _ _ _ h => by
  obtain ⟨_, _, _, _, _, _, _, _, _, _, _, _, z⟩ := h
  exact z.elim
theorem d_prop {cn : Str} {pa : Addr} {nm : Str} (he : DE X W e w) (c : Cls X.K (He.ga X.K cn)) (hp : PropOf X.K (He.ga X.K cn) nm pa f) (F : FnOk X.prog X.w X.K X.mg X.base (L2.CX X.prog X.w) k f fd ps (Pr X.K Wd)) (hr : Room (k + 1) X.A) (hb : Binds X.K fd ps [])
    (hab : attributeBase e nm X.env (eval e X.env) = eval e X.env := by rfl) : DE X W (.Attribute e nm pos) (eProp cn Wd w) := PE.of (pe_prop he c hp F hr hb .nil passL0 hab) fun σ H Z ⟨C, G, en, Q, E, R, xo, q, k⟩ => by
  refine ⟨C, G, en, _, E, R, xo, q, fun v y G1 H1 en1 R1 s1 r1 q1 => ?_⟩
  cases r1 with
  | obj h1 h2 =>
    obtain ⟨rfl, q1⟩ := q1
    refine ⟨_, _, _, rfl, R1.sub _ _ h1, ?_⟩
    have xo0 : XOk X.K (fun _ _ _ _ => False) C (fun _ _ => False) := fun _ _ _ _ _ _ _ _ _ z => z
    have := pr_of (W := fun _ _ _ _ => False) R1 xo0 (.cons (argd (Rep.obj h1 h2)) .nil) q1 fun v y G' H' en' R' s' r' q' => k v y G' H' en' R' (s1.trans s') r' q'
    exact this
  | _ => exact q1.elim
/-- a field -/
def eFld (nm : Str) (w : WE) : WE := fun en Q E => w en (fun x en1 => match x with
  | .obj _ fs => match fs.lookup nm with
    | some y => Q y en1
    | none => False
  | _ => False) E
theorem d_fld {cn nm : Str} (he : DE X W e w) (c : Cls X.K (He.ga X.K cn)) (hn : NoAttr X.K (He.ga X.K cn) nm) (hab : attributeBase e nm X.env (eval e X.env) = eval e X.env := by rfl) : DE X W (.Attribute e nm pos) (fun en Q E => w en (fun x en1 => match x with
  | .obj c fs => c = cn ∧ match fs.lookup nm with
    | some y => Q y en1
    | none => False
  | _ => False) E) := PE.of (pe_fld he hab) fun σ H Z ⟨C, G, en, Q, E, R, xo, q, k⟩ => by
  refine ⟨C, G, en, _, E, R, xo, q, fun v y G1 H1 en1 R1 s1 r1 q1 => ?_⟩
  cases r1 with
  | obj h1 h2 =>
    obtain ⟨rfl, q1⟩ := q1
    split at q1
    · rename_i y e2
      obtain ⟨u, e3, r3⟩ := h2.lookup e2
      exact ⟨_, _, _, _, _, rfl, R1.sub _ _ h1, c, hn, e3, k _ _ G1 H1 en1 R1 s1 r3 q1⟩
    · exact q1.elim
  | _ => exact q1.elim
def eCon (cn nm : Str) (y : D) (w : WE) : WE := fun en Q E => w en (fun x en1 => match x with
  | .obj c fs => c = cn ∧ fs.lookup nm = none ∧ Q y en1
  | _ => False) E
end
end KD

/-! New objects over data. -/
namespace KD
open PySem PySem.Spec PyProof.Rows L2 KP
abbrev WN := List B → Int → (List (Str × D) → Int → Prop) → (XC → Int → Prop) → Prop
/-- an __init__: the new object a has no attribute yet; behind it the attributes fs -/
def PrI (K : PySem.W.Frag) (cn : Str) (W : WN) : Sp := fun vs H Z E => ∃ π G b bs Q EQ a dx us, vs = .ref a :: us ∧ Same G H ∧ (∀ p, π = some p → Pen K H p b ∧ G p.a = none) ∧ ArgsR K (cx0 π) G us bs ∧
  H a = some (.ins (He.ga K cn) dx []) ∧ G a = none ∧ (∀ p, π = some p → a ≠ p.a) ∧ W bs b Q EQ ∧
  (∀ G' H' b' dx' vs' fs, Fr K π [a] G H G' H' b' → H' a = some (.ins (He.ga K cn) dx' vs') → RepF K G' vs' fs → Q fs b' → Z .non H') ∧ (∀ cls od x G' H' b', Fr K π [a] G H G' H' b' → RepX K G' H' cls od x → EQ x b' → E cls od H')
def slfF (cn : Str) (en : En) (Q : List (Str × D) → Prop) : Prop := match en.sl[(0 : Nat)]? with
  | some (some (.slf c fs)) => c = cn ∧ Q fs
  | _ => False
def runN (cn : Str) (n m : Nat) (w : WS) : WN := fun bs b Q E => bs.length + 1 = n ∧ w ⟨fun en => slfF cn en fun fs => Q fs en.b, fun x en => x = .non ∧ slfF cn en fun fs => Q fs en.b, fun _ => False, fun _ => False, fun x en => E x en.b⟩ ⟨some (.slf cn []) :: (bs.map some ++ List.replicate (m - (bs.length + 1)) none), b⟩
section
variable {K : PySem.W.Frag} {C : Ctx} {G H G' H' : Hp} {π : Option Pid} {b b' : Int} {vs : List V} {bs : List B} {σ : L2.St} {en : En} {a dx : Addr} {cn : Str}
theorem Rel.startI (s : Same G H) (hp : ∀ p, π = some p → Pen K H p b ∧ G p.a = none) (ar : ArgsR K (cx0 π) G vs bs) (m : Nat) (ha : H a = some (.ins (He.ga K cn) dx [])) (ga : G a = none) (np : ∀ p, π = some p → a ≠ p.a) :
    Rel K ⟨π, [a], G, fun _ => none, G, H⟩ G H ((V.ref a :: vs).map some ++ List.replicate (m - (V.ref a :: vs).length) none) ⟨some (.slf cn []) :: (bs.map some ++ List.replicate (m - (bs.length + 1)) none), b⟩ := by
  have ln := ar.length
  have R0 := Rel.start s hp ar (m - 1)
  have em : m - 1 - vs.length = m - (vs.length + 1) := by omega
  have em' : m - 1 - bs.length = m - (bs.length + 1) := by omega
  rw [em, em'] at R0
  have no : ∀ (i : Nat) (o : Option (Option V)), fpB H o ((bs.map some ++ List.replicate (m - (bs.length + 1)) none)[i]?) = [] := fun i o => by
    cases o with
    | none => rfl
    | some o =>
      cases o with
      | none => cases (bs.map some ++ List.replicate (m - (bs.length + 1)) none)[i]? <;> rfl
      | some v =>
        by_cases hi : i < bs.length
        · have e1 : (bs.map some ++ List.replicate (m - (bs.length + 1)) none)[i]? = some (some bs[i]) := by
            rw [List.getElem?_append_left (by simpa using hi), List.getElem?_map, List.getElem?_eq_getElem hi]; rfl
          rw [e1]
          have a := ar.at (List.getElem?_eq_getElem (by omega : i < vs.length)) (List.getElem?_eq_getElem hi)
          cases q : bs[i] <;> rw [q] at a <;> first | exact False.elim a | rfl
        · rw [List.getElem?_append_right (by simpa using hi), List.getElem?_replicate]
          split <;> rfl
  have tr : Trk H a := ⟨_, ha, fun _ z => nomatch z⟩
  refine ⟨⟨Same.refl G, s, fun a h g => absurd g h, fun a o h _ _ => h, hp, fun x e => ?_⟩, fun p e => ⟨b, (hp p e).1⟩, fun p x h e => ?_, fun x e => ?_, Same.refl G, (fun a o h => nomatch h), ?_, fun i v c h1 h2 => ?_, fun i j c h1 h2 => ?_⟩
  · cases List.mem_singleton.mp e; exact ⟨ga, tr⟩
  · cases List.mem_singleton.mp e; exact ⟨np p h, .inr ⟨_, _, _, ha⟩⟩
  · cases List.mem_singleton.mp e; show H _ ≠ none; rw [ha]; exact fun z => nomatch z
  · simp [ln]
  · cases i with
    | zero => cases h1; cases h2; exact ⟨a, dx, [], rfl, rfl, ha, ga, .nil⟩
    | succ i =>
      have z := R0.slot i v c (by simpa using h1) (by simpa using h2)
      cases c with
      | none => trivial
      | some c =>
        cases c with
        | d x => exact z
        | pen => exact z
        | scr n => exact z
        | own x => obtain ⟨_, _, _, _, _, _, _⟩ := z; exact ⟨_, _, ‹_›, ‹_›, ‹_›, ‹_›, ‹_›⟩
        | odk x => obtain ⟨_, _, _, _, _, _, _⟩ := z; exact ⟨_, _, ‹_›, ‹_›, ‹_›, ‹_›, ‹_›⟩
        | odt x => obtain ⟨_, _, _, _, _, _, _⟩ := z; exact ⟨_, _, ‹_›, ‹_›, ‹_›, ‹_›, ‹_›⟩
        | slf _ _ => obtain ⟨_, _, _, m, _⟩ := z; cases m
        | mob N ms =>
          obtain ⟨a', dx', vs', e, h1', h2', h3', h4'⟩ := z
          exact ⟨a', dx', vs', e, h1', h2', h3', fun c hc => ⟨(h4' c hc).1, .inr ((h4' c hc).2.elim (fun q => nomatch q) fun q => q)⟩⟩
  · cases i with
    | zero =>
      cases j with
      | zero => rfl
      | succ j =>
        have h2 : c ∈ fpB H ((V.ref a :: vs).map some ++ List.replicate (m - (V.ref a :: vs).length) none)[j + 1]? ((bs.map some ++ List.replicate (m - (bs.length + 1)) none)[j]?) := h2
        rw [no j] at h2; cases h2
    | succ i =>
      have h1 : c ∈ fpB H ((V.ref a :: vs).map some ++ List.replicate (m - (V.ref a :: vs).length) none)[i + 1]? ((bs.map some ++ List.replicate (m - (bs.length + 1)) none)[i]?) := h1
      rw [no i] at h1; cases h1
def putFD (f : Str) (v : D) : List (Str × D) → List (Str × D)
  | [] => [(f, v)]
  | (g, x) :: r => if g = f then (g, v) :: r else (g, x) :: putFD f v r
theorem RepF.put {f : Str} {v : V} {x : D} (h : Rep K G v x) : ∀ {vs : List (Str × V)} {xs : List (Str × D)}, RepF K G vs xs → RepF K G (putF f v vs) (putFD f x xs)
  | _, _, .nil => .cons h .nil
  | _, _, .cons (k := k) h0 r => by
    unfold putF putFD
    by_cases e : k = f
    · rw [if_pos e, if_pos e]; exact .cons h r
    · rw [if_neg e, if_neg e]; exact .cons h0 (RepF.put h r)
theorem RepF.length : ∀ {vs : List (Str × V)} {xs : List (Str × D)}, RepF K G vs xs → vs.length = xs.length
  | _, _, .nil => rfl
  | _, _, .cons _ r => by simp [RepF.length r]
theorem Rel.slf_ {i : Nat} {fs : List (Str × D)} (R : Rel K C G H σ en) (e : en.sl[i]? = some (some (.slf cn fs))) : ∃ a dx vs, C.μ = [a] ∧ σ[i]? = some (some (.ref a)) ∧ H a = some (.ins (He.ga K cn) dx vs) ∧ G a = none ∧ RepF K G vs fs := by
  obtain ⟨v, e1, a, dx, vs, m, e2, r⟩ := R.var e
  cases e2
  exact ⟨a, dx, vs, m, e1, r⟩
/-- the new object gets an attribute -/
theorem Rel.mutS {i : Nat} {fs fs' : List (Str × D)} {vs vs' : List (Str × V)} (R : Rel K C G H σ en) (e : en.sl[i]? = some (some (.slf cn fs))) (m : C.μ = [a]) (hi : σ[i]? = some (some (.ref a))) (ha : H a = some (.ins (He.ga K cn) dx vs)) (ga : G a = none) (r : RepF K G vs' fs') :
    Rel K C G (upd H a (.ins (He.ga K cn) dx vs')) σ (en.set i (some (.slf cn fs'))) :=
  R.mutH hi e rfl (fun _ z => nomatch z) ⟨a, dx, vs', m, rfl, upd_same, ga, r⟩ rfl
/-- the made object becomes data -/
theorem Fr.made {H1 : Hp} {vs' : List (Str × V)} {dx' : Addr} {Cl : Addr} (nx : H1 a = none) (ndx : H1 dx = none) (sg : Same G H1) (fr : Fr K π [a] G (upd (upd H1 dx (.own a)) a (.ins Cl dx [])) G' H' b') (ha : H' a = some (.ins Cl dx' vs')) (np : ∀ p, π = some p → H1 p.a ≠ none) :
    Fr K π [] G H1 (upd G' a (.ins Cl dx' vs')) H' b' := by
  have g0 : G' a = none := (fr.slf a (List.mem_cons_self ..)).1
  have up : ∀ c, c ≠ a → c ≠ dx → (upd (upd H1 dx (.own a)) a (.ins Cl dx [])) c = H1 c := fun c h1 h2 => by rw [upd_ne h1, upd_ne h2]
  refine ⟨fun c u e => ?_, fun c u e => ?_, fun c h g => ?_, fun c o h n _ => ?_, fun p e => ⟨(fr.pen p e).1, ?_⟩, fun x e => nomatch e⟩
  · have : c ≠ a := ne_of_none (sg _ _ e) nx
    rw [upd_ne this]; exact fr.gg c u e
  · by_cases q : c = a
    · subst q; rw [upd_same] at e; cases e; exact ha
    · rw [upd_ne q] at e; exact fr.sub c u e
  · by_cases q : c = a
    · subst q; exact .inl nx
    · rw [upd_ne q] at h
      have z := fr.new c h g
      by_cases q2 : c = dx
      · subst q2; exact .inl ndx
      · unfold NewA at z ⊢; rw [up c q q2] at z; exact z
  · exact fr.keep c o (by rw [up c (ne_of_none h nx) (ne_of_none h ndx)]; exact h) n (fun e => ne_of_none h nx (List.mem_singleton.mp e))
  · have : p.a ≠ a := fun z => np p e (by rw [z]; exact nx)
    rw [upd_ne this]; exact (fr.pen p e).2
end
section
variable {P : Program} {w : World} {K : PySem.W.Frag} {mg : Str → Option Value} {base : Heap} {x qual : Str} {params : Arguments} {body : List Stmt} {scope : Scope} {dvs : List V} {kws : List (Str × V)} {f : Addr} {fd : FuncData} {k : Nat}
theorem init_ok {N ps : List Str} {wb : WS} {cn : Str} (F : FunD K x qual params body scope dvs kws f fd) (S : FnScope N ps scope)
    (hbody : ∀ (cdv : Value) (A : Around) (outer : List Env) (s : Shared) (H : Hp) (E : XK), Room k (A.deeper (envOfC qual scope s.heap.objs.size f cdv)) →
      Takes (cxOf (L2.CX P w) P w K mg base N qual scope f cdv A outer s H E) (fun cls d _ H => E cls d H) →
      DSs (cxOf (L2.CX P w) P w K mg base N qual scope f cdv A outer s H E) (fun cls d _ H => E cls d H) body wb) : FnOk P w K mg base (L2.CX P w) (k + 1) f fd ps (PrI K cn (runN cn ps.length N.length wb)) := by
  refine F.ok S (fun vs H Q E ⟨π, G, b, bs, Q', EQ, a, dx, us, ev, _, _, ar, _, _, _, wq, _⟩ => by rw [ev, List.length_cons, ar.length]; exact wq.1) fun cdv A outer s H vs Z E hr ⟨π, G, b, bs, Q, EQ, a, dx, us, ev, sg, hp, ar, ha, ga, np, wq, kq, ke⟩ => ?_
  subst ev
  have fin : ∀ {G' H' : Hp} {σ : L2.St} {en : En}, Rel K ⟨π, [a], G, fun _ => none, G, H⟩ G' H' σ en → (slfF cn en fun fs => Q fs en.b) → Z .non H' := fun {G' H' σ en} R q => by
    unfold slfF at q
    split at q
    · rename_i c fs e
      obtain ⟨v, e1, a', dx', vs', m, e2, h1, h2, r⟩ := R.var e
      cases m; cases e2
      obtain ⟨rfl, q⟩ := q
      exact kq G' H' en.b dx' vs' fs R.fr h1 r q
    · exact q.elim
  refine ⟨_, hbody cdv A outer s H E hr (takes_of rfl rfl rfl rfl), ⟨⟨π, [a], G, fun _ => none, G, H⟩, G, _, _, Rel.startI sg hp ar N.length ha ga np, fun y en σ G' H' cls od R rx q => ke cls od y G' H' en.b R.fr rx q, wq.2, ⟨fun G' H' σ en R q => fin R q, fun v y G' H' σ en R r q => ?_, fun _ _ _ _ _ q => q.elim, fun _ _ _ _ _ q => q.elim⟩⟩⟩
  obtain ⟨rfl, q⟩ := q
  cases r
  exact fin R q
end
section
variable {X : Cx} {W : WX} {e o : Expr} {es : List Expr} {w : WE} {r : WA} {p pos apos : Pos} {x m cn : Str} {k : Nat} {f : Addr} {fd : FuncData} {ps : List Str} {Wn : WN} {st : Stmt}
theorem run_makeSD {C : Addr} {CX : CXT} {sp : Sp} {dvs : List V} {ds : List Value} {E : XK} {pins : List (Addr × Obj)} {σ : L2.St} {H : Hp} {s : Shared} {Q : VK} {us : List Value} {vs : List V} (M : Mk X.K C f) (F : FnOk X.prog X.w X.K X.mg X.base CX k f fd ps sp) (hr : Room (k + 1) X.A) (hb : Binds X.K fd ps ds) (hd : Vals dvs ds)
    (hx : PassesAt CX X σ E) (I : Inv X pins σ H s) (r : Vals vs us)
    (h : ∀ x dx, H x = none → H dx = none → dx ≠ x → sp (.ref x :: (vs ++ dvs)) (upd (upd H dx (.own x)) x (.ins C dx [])) (fun v H2 => v = .non ∧ Q (.ref x) H2) E) :
    wpAny (model X.prog X.w) X.A (call (.ref C) us) (EP X pins σ Q) X.xe s := by
  have hq := h (s.heap.objs.size + 1) s.heap.objs.size (I.hok.fresh (Nat.le_succ _)) (I.hok.fresh (Nat.le_refl _)) (Nat.ne_of_lt (Nat.lt_succ_self _))
  have I2 := Inv.made (C := C) I
  have r2 : Vals (V.ref (s.heap.objs.size + 1) :: (vs ++ dvs)) (Value.ref (s.heap.objs.size + 1) :: (us ++ ds)) := .cons rfl (r.append hd)
  have hl : (Value.ref (s.heap.objs.size + 1) :: us ++ ds).length = ps.length := by
    have e := r2.length
    rw [F.len _ _ _ _ hq] at e
    exact e.symm
  refine wpAny_call (make_map (f := f) I.kIn M.makes M.init (beq_iff_eq.mp M.fn) (codeAny_mono (F.run _ X.stack _ _ ⟨Value.ref (s.heap.objs.size + 1) :: us, []⟩ (Value.ref (s.heap.objs.size + 1) :: (us ++ ds)) _ _ E (hr.make C us [])
    (I2.env0.make C us []) (hb _ (Value.ref (s.heap.objs.size + 1) :: us) I2.kIn hl) r2 hq) fun r s' hq' => ?_))
  cases r with
  | error e => exact hx pins _ _ e s' I2 hq'
  | ok fl =>
    cases fl with
    | ret u =>
      obtain ⟨v, H', I3, rv, ev, q3⟩ := I2.after hq'
      subst ev
      exact ⟨rv, ⟨V.ref (s.heap.objs.size + 1), H', I3, rfl, q3⟩⟩
    | next => exact False.elim hq'
    | brk => exact False.elim hq'
    | cont => exact False.elim hq'
/-- C(..) -/
def eMake (cn : Str) (Wn : WN) (r : WA) : WE := fun en Q E => r en (fun bs en1 => Wn bs en1.b (fun fs b' => Q (.obj cn fs) { en1 with b := b' }) (fun x b' => E x { en1 with b := b' })) E
theorem make_of {K : PySem.W.Frag} {C : Ctx} {G H : Hp} {σ : L2.St} {en : En} {vs : List V} {bs : List B} {Q : D → En → Prop} {E : EK} {Z : VK} (R : Rel K C G H σ en) (xo : XOk K W C E) (ar : ArgsR K C G vs bs)
    (q : Wn bs en.b (fun fs b' => Q (.obj cn fs) { en with b := b' }) (fun x b' => E x { en with b := b' })) (k : ∀ v y G' H' en', Rel K C G' H' σ en' → Same G G' → Rep K G' v y → Q y en' → Z v H') :
    ∀ x dx, H x = none → H dx = none → dx ≠ x → PrI K cn Wn (.ref x :: vs) (upd (upd H dx (.own x)) x (.ins (He.ga K cn) dx [])) (fun v H2 => v = .non ∧ Z (.ref x) H2) (L2.WE W σ) := fun x dx nx ndx ne => by
  have sx : Same H (upd (upd H dx (.own x)) x (.ins (He.ga K cn) dx [])) := (KP.Same.new ndx).trans (KP.Same.new (by rw [upd_ne (Ne.symm ne)]; exact nx))
  have np : ∀ p, C.π = some p → H p.a ≠ none := fun p e z => by
    obtain ⟨kvs, e'⟩ := (R.penG p e).1.is_
    rw [z] at e'; cases e'
  have mk := fun {G' H' : Hp} {b' : Int} {dx' : Addr} {vs' : List (Str × V)} (fr : Fr K C.π [x] G (upd (upd H dx (.own x)) x (.ins (He.ga K cn) dx [])) G' H' b') (ha : H' x = some (.ins (He.ga K cn) dx' vs')) => Fr.made nx ndx R.sub fr ha np
  refine ⟨C.π, G, en.b, bs, _, _, x, dx, vs, rfl, R.sub.trans sx, fun p e => ⟨(R.penG p e).1.same sx, (R.penG p e).2⟩, ar.ctx rfl, upd_same, R.sub.free nx, fun p e z => np p e (by rw [← z]; exact nx), q, fun G' H' b' dx' vs' fs fr ha rf q' => ⟨rfl, ?_⟩, fun cls od y G' H' b' fr rx q' => ?_⟩
  · have f2 := mk fr ha
    have sg : Same G' (upd G' x (.ins (He.ga K cn) dx' vs')) := KP.Same.new (fr.slf x (List.mem_cons_self ..)).1
    exact k (.ref x) (.obj cn fs) _ H' _ (R.call f2) f2.gg (.obj upd_same (rf.mono sg)) q'
  · have f3 : Fr K C.π [] G H G' H' b' := by
      have up : ∀ c, c ≠ x → c ≠ dx → (upd (upd H dx (.own x)) x (.ins (He.ga K cn) dx [])) c = H c := fun c h1 h2 => by rw [upd_ne h1, upd_ne h2]
      refine ⟨fr.gg, fr.sub, fun c h g => ?_, fun c o h n _ => ?_, fr.pen, fun _ z => nomatch z⟩
      · by_cases q1 : c = x
        · subst q1; exact .inl nx
        · by_cases q2 : c = dx
          · subst q2; exact .inl ndx
          · have z := fr.new c h g
            unfold NewA at z ⊢; rw [up c q1 q2] at z; exact z
      · exact fr.keep c o (by rw [up c (ne_of_none h nx) (ne_of_none h ndx)]; exact h) n (fun e => ne_of_none h nx (List.mem_singleton.mp e))
    exact xo y _ σ G' H' cls od (R.call f3) rx q'
theorem d_make (M : Mk X.K (He.ga X.K cn) f) (F : FnOk X.prog X.w X.K X.mg X.base (L2.CX X.prog X.w) k f fd ps (PrI X.K cn Wn)) (hr : Room (k + 1) X.A) (hg : Gl X x) (hm : X.mg x = some (.ref (He.ga X.K cn))) (hb : Binds X.K fd ps []) (tk : Takes X W)
    (ha : DA X W (e :: es) r) (hdb : (x == ("__debug__" : Str)) = false := by decide) (he : starEach (e :: es) X.env = (false, eval e X.env) :: starEach es X.env := by rfl) (hpl : (backTo pos (starEach es X.env)).any (·.1) = false := by rfl) :
    DE X W (.Call (.Name x p) (e :: es) [] pos) (eMake cn Wn r) := by
  refine ⟨fun pins s σ H Z I h => ?_⟩
  refine wpAny_Call_Name_kw (ld_glob I hg hm ?_ hdb)
  obtain ⟨C, G, en, Q, E, R, xo, q, k⟩ := h
  have h1 : RlA X.K W r σ H (fun vs H1 => ∀ x dx, H1 x = none → H1 dx = none → dx ≠ x → PrI X.K cn Wn (.ref x :: vs) (upd (upd H1 dx (.own x)) x (.ins (He.ga X.K cn) dx [])) (fun v H2 => v = .non ∧ Z (.ref x) H2) (L2.WE W σ)) :=
    ⟨C, G, en, _, E, R, xo, q, fun vs bs G1 H1 en1 R1 s1 r1 q1 => make_of R1 xo r1 q1 fun v y G' H' en' R' s' r' q' => k v y G' H' en' R' (s1.trans s') r' q'⟩
  refine PySem.W.callWith_K (h₀ := X.base) I.ok.mod.kin M.kp (thn (ha.run pos pins s σ H _ I h1) fun us s1 ⟨vs, H1, I1, r, q⟩ => ⟨I1.kIn, ?_⟩) he hpl
  exact run_makeSD (dvs := []) (ds := []) M F hr hb .nil (passAt tk σ) I1 r (by simpa using q)
theorem d_make0 (M : Mk X.K (He.ga X.K cn) f) (F : FnOk X.prog X.w X.K X.mg X.base (L2.CX X.prog X.w) k f fd ps (PrI X.K cn Wn)) (hr : Room (k + 1) X.A) (hg : Gl X x) (hm : X.mg x = some (.ref (He.ga X.K cn))) (hb : Binds X.K fd ps []) (tk : Takes X W)
    (hdb : (x == ("__debug__" : Str)) = false := by decide) : DE X W (.Call (.Name x p) [] [] pos) (eMake cn Wn aNil) := by
  refine ⟨fun pins s σ H Z I h => ?_⟩
  refine wpAny_Call_Name_kw (ld_glob I hg hm ?_ hdb)
  obtain ⟨C, G, en, Q, E, R, xo, q, k⟩ := h
  exact PySem.W.callWith_K0 I.kIn M.kp (run_makeSD (dvs := []) (ds := []) (us := []) M F hr hb .nil (passAt tk σ) I .nil (by simpa using make_of (vs := []) R xo .nil q k))
/-- self.f = e -/
def sFldS (i : Nat) (f : Str) (w : WE) : WS := fun N en => w en (fun x en1 => match en1.sl[i]? with
  | some (some (.slf c fs)) => fs.length < 1000 ∧ N.nx (en1.set i (some (.slf c (putFD f x fs))))
  | _ => False) N.ex
theorem ds_fld {i : Nat} {fn : Str} (hs : PS X st (sFld X.K (tVar i) (Rl X.K W w) fn)) (c : Cls X.K (He.ga X.K cn)) (hn : NoAttr X.K (He.ga X.K cn) fn) : DS X W st (fun N en => w en (fun x en1 => match en1.sl[i]? with
  | some (some (.slf c fs)) => c = cn ∧ fs.length < 1000 ∧ N.nx (en1.set i (some (.slf c (putFD fn x fs))))
  | _ => False) N.ex) := PS.of hs fun D σ H ⟨C, G, en, N, R, xo, q, L⟩ => by
  refine ⟨C, G, en, _, _, R, xo, q, fun v x G1 H1 en1 R1 s1 r1 q1 => ?_⟩
  split at q1
  · rename_i c' fs e2
    obtain ⟨rfl, l, q1⟩ := q1
    obtain ⟨a, dx, vs, m, hi, ha, h0, rf⟩ := R1.slf_ e2
    refine ⟨.ref a, hi, a, _, dx, vs, rfl, ha, c, hn, by rw [rf.length]; exact l, ?_⟩
    exact L.nx G1 _ σ _ (R1.mutS e2 m hi ha h0 (rf.put r1)) q1
  · exact q1.elim
/-- a field or a constant of the class by a name, of the object under way or of data -/
def eFldV (cn : Str) (i : Nat) (nm : Str) : WE := fun en Q _ => match en.sl[i]? with
  | some (some (.slf c fs)) => c = cn ∧ match fs.lookup nm with
    | some y => Q y en
    | none => False
  | some (some (.d (.obj c fs))) => c = cn ∧ match fs.lookup nm with
    | some y => Q y en
    | none => False
  | _ => False
theorem d_fldV {i : Nat} {nm y : Str} (hv : PE X (.Name y p) (tVar i)) (c : Cls X.K (He.ga X.K cn)) (hn : NoAttr X.K (He.ga X.K cn) nm) (hab : attributeBase (.Name y p) nm X.env (eval (.Name y p) X.env) = eval (.Name y p) X.env := by rfl) : DE X W (.Attribute (.Name y p) nm pos) (eFldV cn i nm) := PE.of (pe_fld hv hab) fun σ H Z ⟨C, G, en, Q, E, R, xo, q, k⟩ => by
  unfold eFldV at q
  split at q
  · rename_i c' fs e2
    obtain ⟨rfl, q⟩ := q
    obtain ⟨a, dx, vs, m, hi, ha, h0, rf⟩ := R.slf_ e2
    split at q
    · rename_i z e3
      obtain ⟨u, e4, r4⟩ := rf.lookup e3
      exact ⟨.ref a, hi, a, _, dx, vs, u, rfl, ha, c, hn, e4, k u z G H en R (Same.refl G) r4 q⟩
    · exact q.elim
  · rename_i c' fs e2
    obtain ⟨rfl, q⟩ := q
    obtain ⟨v, hi, u, e5, rr⟩ := R.var e2
    cases e5
    cases rr with
    | obj ha rf =>
      split at q
      · rename_i z e3
        obtain ⟨u, e4, r4⟩ := rf.lookup e3
        exact ⟨_, hi, _, _, _, _, u, rfl, R.sub _ _ ha, c, hn, e4, k u z G H en R (Same.refl G) r4 q⟩
      · exact q.elim
  · exact q.elim
def eConV (cn : Str) (i : Nat) (nm : Str) (y : D) : WE := fun en Q _ => match en.sl[i]? with
  | some (some (.slf c fs)) => c = cn ∧ fs.lookup nm = none ∧ Q y en
  | some (some (.d (.obj c fs))) => c = cn ∧ fs.lookup nm = none ∧ Q y en
  | _ => False
theorem d_conV {i : Nat} {nm y : Str} {z : Int} (hv : PE X (.Name y p) (tVar i)) (c : Cls X.K (He.ga X.K cn)) (hc : ∃ u, Con X.K (He.ga X.K cn) nm (.int z) u) (hab : attributeBase (.Name y p) nm X.env (eval (.Name y p) X.env) = eval (.Name y p) X.env := by rfl) : DE X W (.Attribute (.Name y p) nm pos) (eConV cn i nm (.int z)) := PE.of (pe_con hv hab) fun σ H Z ⟨C, G, en, Q, E, R, xo, q, k⟩ => by
  obtain ⟨u0, hc⟩ := hc
  unfold eConV at q
  split at q
  · rename_i c' fs e2
    obtain ⟨rfl, l, q⟩ := q
    obtain ⟨a, dx, vs, m, hi, ha, h0, rf⟩ := R.slf_ e2
    exact ⟨.ref a, hi, a, _, dx, vs, _, _, rfl, ha, c, hc, rf.lookup0 l, k _ _ G H en R (Same.refl G) (.int z) q⟩
  · rename_i c' fs e2
    obtain ⟨rfl, l, q⟩ := q
    obtain ⟨v, hi, u, e5, rr⟩ := R.var e2
    cases e5
    cases rr with
    | obj ha rf => exact ⟨_, hi, _, _, _, _, _, _, rfl, R.sub _ _ ha, c, hc, rf.lookup0 l, k _ _ G H en R (Same.refl G) (.int z) q⟩
  · exact q.elim
end
end KD

/-! Operators and built-ins over data. -/
namespace KD
open PySem PySem.Spec PyProof.Rows L2 KP
section
variable {X : Cx} {W : WX} {e a b : Expr} {w wa wb : WE} {pos : Pos} {K : PySem.W.Frag} {G H : Hp}
theorem Rep.toH (s : Same G H) {v : V} {x : D} (h : Rep K G v x) : Rep K H v x := h.mono s
/-! ### numbers -/
def oAdd : O2 := fun x y Q => match x, y with
  | .int i, .int j => Q (.int (i + j))
  | .str p, .str q => p.length + q.length ≤ 100000 ∧ Q (.str (p ++ q))
  | .lst xs, .lst ys => xs.length + ys.length ≤ 100000 ∧ Q (.lst (xs ++ ys))
  | .tup xs, .tup ys => xs.length + ys.length ≤ 100000 ∧ Q (.tup (xs ++ ys))
  | _, _ => False
theorem op_addD : OpD X (binaryOp .Add) oAdd := ⟨_, OpR.or op_add (OpR.or op_add_str (OpR.or op_cat op_catA)), fun G H v u x y Q Z s r1 r2 q k => by
  cases r1 with
  | int i =>
    cases r2 with
    | int j => exact .inl ⟨i, j, rfl, rfl, k _ _ G H (Gr.refl s) (.int _) q⟩
    | _ => exact q.elim
  | str p =>
    cases r2 with
    | str j => exact .inr (.inl ⟨p, j, rfl, rfl, sz5 q.1, k _ _ G H (Gr.refl s) (.str _) q.2⟩)
    | _ => exact q.elim
  | lst h1 h2 =>
    cases r2 with
    | lst h3 h4 =>
      refine .inr (.inr (.inl ⟨_, _, _, _, rfl, rfl, s _ _ h1, s _ _ h3, by rw [h2.length, h4.length]; exact sz5 q.1, fun p np => ?_⟩))
      exact k _ _ _ _ (Gr.new1 s np) (.lst upd_same ((h2.mono (KP.Same.new (s.free np))).append (h4.mono (KP.Same.new (s.free np))))) q.2
    | _ => exact q.elim
  | tup h1 h2 =>
    cases r2 with
    | @tup _ vs2 ys h3 h4 =>
      refine .inr (.inr (.inr ⟨_, _, _, _, rfl, rfl, Same.tup s h1, Same.tup s h3, by rw [h2.length, h4.length]; exact sz5 q.1, fun e0 => ?_, fun _ e0 => ?_, fun _ _ p np => ?_⟩))
      · subst e0
        cases h2
        exact k _ _ G H (Gr.refl s) (.tup h3 h4) q.2
      · subst e0
        cases h4
        have q2 := q.2
        rw [List.append_nil] at q2
        exact k _ _ G H (Gr.refl s) (.tup h1 h2) q2
      · exact k _ _ _ _ (Gr.new1 s np) (.tup (SqT.of upd_same) ((h2.mono (KP.Same.new (s.free np))).append (h4.mono (KP.Same.new (s.free np))))) q.2
    | _ => exact q.elim
  | _ => exact q.elim⟩
def oSub : O2 := fun x y Q => match x, y with
  | .int i, .int j => Q (.int (i - j))
  | _, _ => False
theorem op_subD : OpD X (binaryOp .Sub) oSub := ⟨_, op_sub, fun G H v u x y Q Z s r1 r2 q k => by
  cases r1 with
  | int i => cases r2 with
    | int j => exact ⟨i, j, rfl, rfl, k _ _ G H (Gr.refl s) (.int _) q⟩
    | _ => exact q.elim
  | _ => exact q.elim⟩
theorem Reps.flat {vs : List V} {xs : List D} (r : Reps K G vs xs) : ∀ n : Nat, Reps K G (List.replicate n vs).flatten (List.replicate n xs).flatten
  | 0 => .nil
  | n + 1 => by
    rw [List.replicate_succ, List.replicate_succ, List.flatten_cons, List.flatten_cons]
    exact r.append (Reps.flat r n)
def oMul : O2 := fun x y Q => match x, y with
  | .int i, .int j => CB2 i j ∧ Q (.int (i * j))
  | .lst xs, .int k => -(2 ^ 63) ≤ k ∧ k < 2 ^ 63 ∧ xs.length * k.toNat ≤ 100000 ∧ Q (.lst (List.replicate k.toNat xs).flatten)
  | _, _ => False
theorem op_mulD : OpD X (binaryOp .Mult) oMul := ⟨_, OpR.or op_mulB op_rep, fun G H v u x y Q Z s r1 r2 q k => by
  cases r1 with
  | int i => cases r2 with
    | int j => exact .inl ⟨i, j, rfl, rfl, q.1, k _ _ G H (Gr.refl s) (.int _) q.2⟩
    | _ => exact q.elim
  | lst h1 h2 => cases r2 with
    | int j =>
      refine .inr ⟨_, j, _, rfl, rfl, s _ _ h1, q.1, q.2.1, by rw [h2.length]; exact sz5 q.2.2.1, fun p np => ?_⟩
      exact k _ _ _ _ (Gr.new1 s np) (.lst upd_same ((h2.mono (KP.Same.new (s.free np))).flat _)) q.2.2.2
    | _ => exact q.elim
  | _ => exact q.elim⟩
def oDiv : O2 := fun x y Q => match x, y with
  | .int i, .int j => CBs i j ∧ Q (.int (i.fdiv j))
  | _, _ => False
theorem op_divD : OpD X (binaryOp .FloorDiv) oDiv := ⟨_, op_fdivS, fun G H v u x y Q Z s r1 r2 q k => by
  cases r1 with
  | int i => cases r2 with
    | int j => exact ⟨i, j, rfl, rfl, q.1, k _ _ G H (Gr.refl s) (.int _) q.2⟩
    | _ => exact q.elim
  | _ => exact q.elim⟩
def oMod : O2 := fun x y Q => match x, y with
  | .int i, .int j => j ≠ 0 ∧ Q (.int (i.fmod j))
  | _, _ => False
theorem op_modD : OpD X (binaryOp .Mod) oMod := ⟨_, op_modN, fun G H v u x y Q Z s r1 r2 q k => by
  cases r1 with
  | int i => cases r2 with
    | int j => exact ⟨i, j, rfl, rfl, q.1, k _ _ G H (Gr.refl s) (.int _) q.2⟩
    | _ => exact q.elim
  | _ => exact q.elim⟩
def oPow : O2 := fun x y Q => match x, y with
  | .int i, .int j => CPow i j ∧ Q (.int (i ^ j.toNat))
  | _, _ => False
theorem op_powD : OpD X (binaryOp .Pow) oPow := ⟨_, op_pow, fun G H v u x y Q Z s r1 r2 q k => by
  cases r1 with
  | int i => cases r2 with
    | int j => exact ⟨i, j, rfl, rfl, q.1, k _ _ G H (Gr.refl s) (.int _) q.2⟩
    | _ => exact q.elim
  | _ => exact q.elim⟩
def oNeg : O1 := fun x Q => match x with | .int i => Q (.int (-i)) | _ => False
theorem un_negD : UnD X (unaryOp .USub) oNeg := ⟨_, un_neg, fun G H v x Q Z s r q k => by
  cases r with
  | int i => exact ⟨i, rfl, k _ _ G H (Gr.refl s) (.int _) q⟩
  | _ => exact q.elim⟩
/-! ### comparisons -/
def oCmp (p : Int → Int → Bool) : O2 := fun x y Q => match x, y with
  | .int i, .int j => Q (.bl (p i j))
  | _, _ => False
theorem cmpD {op : CmpOp} {p : Int → Int → Bool} (h : OpR X (compareOp op) (rI0 fun i j => .bl (p i j))) : OpD X (compareOp op) (oCmp p) := ⟨_, h, fun G H v u x y Q Z s r1 r2 q k => by
  cases r1 with
  | int i => cases r2 with
    | int j => exact ⟨i, j, rfl, rfl, k _ _ G H (Gr.refl s) (.bl _) q⟩
    | _ => exact q.elim
  | _ => exact q.elim⟩
abbrev oLt : O2 := oCmp fun i j => decide (i < j)
abbrev oLe : O2 := oCmp fun i j => decide (i ≤ j)
abbrev oGt : O2 := oCmp fun i j => decide (j < i)
abbrev oGe : O2 := oCmp fun i j => decide (j ≤ i)
theorem op_ltD : OpD X (compareOp .Lt) oLt := cmpD op_lt
theorem op_leD : OpD X (compareOp .LtE) oLe := cmpD op_le
theorem op_gtD : OpD X (compareOp .Gt) oGt := cmpD op_gt
theorem op_geD : OpD X (compareOp .GtE) oGe := cmpD op_ge
/-! data as the library's data -/
mutual
def D.pd : D → Option PyData
  | .non => some .none
  | .bl b => some (.bool b)
  | .int i => some (.int i)
  | .str z => some (.str z)
  | .lst xs => (pds xs).map .list
  | .tup xs => (pds xs).map .tuple
  | _ => none
def pds : List D → Option (List PyData)
  | [] => some []
  | x :: xs => match D.pd x, pds xs with
    | some d, some ds => some (d :: ds)
    | _, _ => none
end
mutual
theorem Rep.dp : ∀ {v : V} {x : D} {d : PyData}, Rep K G v x → x.pd = some d → Dp K G v d
  | _, _, _, .non, e => by cases e; exact .non
  | _, _, _, .bl b, e => by cases e; exact .bl b
  | _, _, _, .int i, e => by cases e; exact .int i
  | _, _, _, .str x, e => by cases e; exact .str x
  | _, _, _, .lst (xs := xs) h r, e => by
    cases q : pds xs with
    | none => rw [D.pd, q] at e; cases e
    | some ds => rw [D.pd, q] at e; cases e; exact .lst (SqL.of h) (Reps.dp r q)
  | _, _, _, .tup (xs := xs) h r, e => by
    cases q : pds xs with
    | none => rw [D.pd, q] at e; cases e
    | some ds => rw [D.pd, q] at e; cases e; exact .tup h (Reps.dp r q)
theorem Reps.dp : ∀ {vs : List V} {xs : List D} {ds : List PyData}, Reps K G vs xs → pds xs = some ds → DpAll K G vs ds
  | _, _, _, .nil, e => by cases e; exact .nil
  | _, _, _, .cons (x := x) (xs := xs) h r, e => by
    cases q1 : D.pd x with
    | none => rw [pds, q1] at e; cases e
    | some d =>
      cases q2 : pds xs with
      | none => rw [pds, q1, q2] at e; cases e
      | some ds => rw [pds, q1, q2] at e; cases e; exact .cons (Rep.dp h q1) (Reps.dp r q2)
end
def oEqG (neg : Bool) : O2 := fun x y Q => match x.pd, y.pd with
  | some d, some e => SeqAt.shaped d = true ∧ SeqAt.shaped e = true ∧ Q (.bl (if neg then !PyData.eqv d e else PyData.eqv d e))
  | _, _ => False
def oEq : O2 := fun x y Q => match x, y with
  | .int i, .int j => Q (.bl (decide (i = j)))
  | .str p, .str q => Q (.bl (decide (p = q)))
  | .bl p, .bl q => Q (.bl (decide (p = q)))
  | x, y => oEqG false x y Q
def oNe : O2 := fun x y Q => match x, y with
  | .int i, .int j => Q (.bl (!decide (i = j)))
  | .str p, .str q => Q (.bl (!decide (p = q)))
  | .bl p, .bl q => Q (.bl (!decide (p = q)))
  | x, y => oEqG true x y Q
theorem dec_vi {i j : Int} : decide (V.int i = V.int j) = decide (i = j) := by
  by_cases h : i = j
  · subst h; simp
  · rw [decide_eq_false h, decide_eq_false (fun z => h (by cases z; rfl))]
theorem dec_vs {i j : Str} : decide (V.str i = V.str j) = decide (i = j) := by
  by_cases h : i = j
  · subst h; simp
  · rw [decide_eq_false h, decide_eq_false (fun z => h (by cases z; rfl))]
theorem dec_vb {i j : Bool} : decide (V.bl i = V.bl j) = decide (i = j) := by
  by_cases h : i = j
  · subst h; simp
  · rw [decide_eq_false h, decide_eq_false (fun z => h (by cases z; rfl))]
theorem eqG {neg : Bool} {v u : V} {x y : D} {Q : D → Prop} {Z : VK} (s : Same G H) (r1 : Rep K G v x) (r2 : Rep K G u y) (q : oEqG neg x y Q) (k : ∀ z w G' H', Gr G H G' H' → Rep K G' w z → Q z → Z w H') :
    ∃ d e, Dp K H v d ∧ Dp K H u e ∧ SeqAt.shaped d = true ∧ SeqAt.shaped e = true ∧ Z (.bl (if neg then !PyData.eqv d e else PyData.eqv d e)) H := by
  unfold oEqG at q
  split at q
  · rename_i d e e1 e2
    exact ⟨d, e, (r1.toH s).dp e1, (r2.toH s).dp e2, q.1, q.2.1, k _ _ G H (Gr.refl s) (.bl _) q.2.2⟩
  · exact q.elim
theorem op_eqDD (hu : X.A.units + 64 < cLine) : OpD X (compareOp .Eq) oEq := ⟨_, OpR.or op_eq (op_eqD hu), fun G H v u x y Q Z s r1 r2 q k => by
  unfold oEq at q
  split at q
  · cases r1; cases r2; refine .inl ⟨rfl, ?_⟩; rw [dec_vi]; exact k _ _ G H (Gr.refl s) (.bl _) q
  · cases r1; cases r2; refine .inl ⟨rfl, ?_⟩; rw [dec_vs]; exact k _ _ G H (Gr.refl s) (.bl _) q
  · cases r1; cases r2; refine .inl ⟨rfl, ?_⟩; rw [dec_vb]; exact k _ _ G H (Gr.refl s) (.bl _) q
  · exact .inr (eqG (neg := false) s r1 r2 q k)⟩
theorem op_neDD (hu : X.A.units + 64 < cLine) : OpD X (compareOp .NotEq) oNe := ⟨_, OpR.or op_ne (op_neD hu), fun G H v u x y Q Z s r1 r2 q k => by
  unfold oNe at q
  split at q
  · cases r1; cases r2; refine .inl ⟨rfl, ?_⟩; rw [dec_vi]; exact k _ _ G H (Gr.refl s) (.bl _) q
  · cases r1; cases r2; refine .inl ⟨rfl, ?_⟩; rw [dec_vs]; exact k _ _ G H (Gr.refl s) (.bl _) q
  · cases r1; cases r2; refine .inl ⟨rfl, ?_⟩; rw [dec_vb]; exact k _ _ G H (Gr.refl s) (.bl _) q
  · exact .inr (eqG (neg := true) s r1 r2 q k)⟩
def D.isN : D → Bool
  | .non => true
  | _ => false
theorem Rep.isN {v : V} {x : D} (h : Rep K G v x) : decide (v = .non) = x.isN := by cases h <;> simp [D.isN]
def oIs : O2 := fun x y Q => match y with | .non => Q (.bl x.isN) | _ => False
def oIsNot : O2 := fun x y Q => match y with | .non => Q (.bl (!x.isN)) | _ => False
theorem op_isD : OpD X (compareOp .Is) oIs := ⟨_, op_isN, fun G H v u x y Q Z s r1 r2 q k => by
  cases r2 with
  | non => refine ⟨rfl, ?_⟩; rw [r1.isN]; exact k _ _ G H (Gr.refl s) (.bl _) q
  | _ => exact q.elim⟩
theorem op_isNotD : OpD X (compareOp .IsNot) oIsNot := ⟨_, op_notN, fun G H v u x y Q Z s r1 r2 q k => by
  cases r2 with
  | non => refine ⟨rfl, ?_⟩; rw [r1.isN]; exact k _ _ G H (Gr.refl s) (.bl _) q
  | _ => exact q.elim⟩
/-! ### subscripts -/
def keyD : D → Option Key
  | .int i => some (.inl i)
  | .str z => some (.inr z)
  | _ => none
theorem Rep.key {v : V} {x : D} {k : Key} (h : Rep K G v x) (e : keyD x = some k) : v = kV k := by
  cases h <;> first | (cases e; rfl) | cases e
def keysD : List D → Option (List Key)
  | [] => some []
  | x :: xs => match keyD x, keysD xs with
    | some k, some ks => some (k :: ks)
    | _, _ => none
theorem Reps.keys : ∀ {vs : List V} {xs : List D} {ks : List Key}, Reps K G vs xs → keysD xs = some ks → vs = ks.map kV
  | _, _, _, .nil, e => by cases e; rfl
  | _, _, _, .cons (x := x) (xs := xs) h r, e => by
    cases q1 : keyD x with
    | none => rw [keysD, q1] at e; cases e
    | some d =>
      cases q2 : keysD xs with
      | none => rw [keysD, q1, q2] at e; cases e
      | some ds => rw [keysD, q1, q2] at e; cases e; rw [h.key q1, Reps.keys r q2]; rfl
def valD {κ : Type} [DecidableEq κ] (kvs : List (κ × D)) (k : κ) : Option D := (kvs.find? fun kv => decide (kv.1 = k)).map (·.2)
theorem RepK.val : ∀ {vs : List (Key × V)} {xs : List (Key × D)} {k : Key}, RepK K G vs xs → (∀ x, valD xs k = some x → ∃ v, valV vs k = some v ∧ Rep K G v x) ∧ (valD xs k = none → valV vs k = none)
  | _, _, k, .nil => ⟨(fun x e => nomatch e), fun _ => rfl⟩
  | _, _, k, .cons (k := k0) (vs := vs) (xs := xs) h r => by
    have ih := RepK.val (k := k) r
    unfold valD valV at ih ⊢
    by_cases e : k0 = k
    · subst e
      simp only [List.find?_cons, decide_true, Option.map_some]
      exact ⟨fun x z => by cases z; exact ⟨_, rfl, h⟩, fun z => nomatch z⟩
    · simp only [List.find?_cons, decide_eq_false e]
      exact ih
theorem RepT.val : ∀ {vs : List (List Key × V)} {xs : List (List Key × D)} {k : List Key}, RepT K G vs xs → (∀ x, valD xs k = some x → ∃ v, valV vs k = some v ∧ Rep K G v x) ∧ (valD xs k = none → valV vs k = none)
  | _, _, k, .nil => ⟨(fun x e => nomatch e), fun _ => rfl⟩
  | _, _, k, .cons (k := k0) (vs := vs) (xs := xs) h r => by
    have ih := RepT.val (k := k) r
    unfold valD valV at ih ⊢
    by_cases e : k0 = k
    · subst e
      simp only [List.find?_cons, decide_true, Option.map_some]
      exact ⟨fun x z => by cases z; exact ⟨_, rfl, h⟩, fun z => nomatch z⟩
    · simp only [List.find?_cons, decide_eq_false e]
      exact ih
def oIx : O2 := fun x y Q => match x, y with
  | .lst xs, .int i => match atI xs i with | some z => Q z | none => False
  | .tup xs, .int i => match atI xs i with | some z => Q z | none => False
  | .str z, .int i => z.length ≤ 100000 ∧ match atI z.cps.toList i with | some c => Q (.str ⟨#[c]⟩) | none => False
  | .dic kvs, y => match keyD y with
    | some k => match valD kvs k with | some z => Q z | none => False
    | none => False
  | _, _ => False
theorem Reps.atI {vs : List V} {xs : List D} {i : Int} {x : D} (r : Reps K G vs xs) (e : L2.atI xs i = some x) : ∃ v, L2.atI vs i = some v ∧ Rep K G v x := by
  unfold L2.atI at e ⊢
  rw [r.length]
  cases q : ixN xs.length i with
  | none => rw [q] at e; cases e
  | some j => rw [q] at e; exact r.at e
def rIxD : R2 := fun x y H Q => ∃ a v, x = .ref a ∧ DGet H a y (some v) ∧ Q v H
theorem ix_dict (hu : X.A.units + 1 < cLine) : IxR X rIxD := by
  intro value slice pins s σ H x y v u Q I rx ry h hs
  obtain ⟨a, z, rfl, g, q⟩ := h
  obtain rfl : v = Value.ref a := rx
  have hT := dict_typeIs I g
  have h2 := d_getItem (Q := EP X pins σ Q) (E := X.xe) (A := X.A) hu I g ry fun w' s3 I3 rw' => ⟨z, H, I3, rw', q⟩
  unfold subscriptTail
  refine wpAny_bind ?_
  rw [getitemInPython_of_ne hT.not_modules]
  refine wpAny_bind (wpAny_specialOf hT PySem.F.slot_dict_getitem.lookup ?_)
  have fin : wpAny (model X.prog X.w) X.A (subscripted slice false (.ref a) u) (fun r s₃ => wpAny (model X.prog X.w) X.A (letTemporaryGo value (.ref a) r >>= fun _ => pure r) (EP X pins σ Q) X.xe s₃) X.xe s := by
    rw [hs]
    exact wpAny_operating (wpAny_mono h2 (fun r s₃ h₃ => wpAny_bind (wpAny_letTemporaryGo (wpAny_pure h₃))) fun _ _ x => x)
  first
    | exact wpAny_pure (wpAny_bind fin)
    | exact wpAny_bind (wpAny_pure (wpAny_bind fin))
    | exact wpAny_bind fin
theorem rd_ix (hK : X.K = K) : RD2 K (fun x y H Q => rIx K x y H Q ∨ rIxD x y H Q) oIx := fun G H v u x y Q Z s r1 r2 q k => by
  unfold oIx at q
  split at q
  · cases r2
    cases r1 with
    | lst h1 h2 =>
      split at q
      · rename_i z e
        obtain ⟨v2, e2, r⟩ := h2.atI e
        exact .inl (.inl ⟨_, _, _, v2, rfl, rfl, SqL.of (s _ _ h1), e2, k _ _ G H (Gr.refl s) r q⟩)
      · exact q.elim
  · cases r2
    cases r1 with
    | tup h1 h2 =>
      split at q
      · rename_i z e
        obtain ⟨v2, e2, r⟩ := h2.atI e
        exact .inl (.inr (.inl ⟨_, _, _, v2, rfl, rfl, Same.tup s h1, e2, k _ _ G H (Gr.refl s) r q⟩))
      · exact q.elim
  · cases r2; cases r1
    obtain ⟨hz, q⟩ := q
    split at q
    · rename_i c e
      exact .inl (.inr (.inr ⟨_, _, c, rfl, rfl, sz5 hz, e, k _ _ G H (Gr.refl s) (.str _) q⟩))
    · exact q.elim
  · cases r1 with
    | dic h1 h2 =>
      split at q
      · rename_i k' e
        split at q
        · rename_i z e2
          obtain ⟨v2, e3, r⟩ := (h2.val (k := k')).1 z e2
          refine .inr ⟨_, v2, rfl, ?_, k _ _ G H (Gr.refl s) r q⟩
          rw [r2.key e, ← e3]
          exact DGet.k (s _ _ h1)
        · exact q.elim
      · exact q.elim
  · exact q.elim
theorem d_ix (hu : X.A.units + 1 < cLine) (ha : DE X W a wa) (hb : DE X W b wb) (hs : PlainIx b := by exact fun _ _ => rfl) : DE X W (.Subscript a b pos) (eOp oIx wa wb) := PE.of (pe_ix (IxR.or ix_seq (ix_dict hu)) ha hb hs) fun σ H Z => rl_op (rd_ix rfl)
/-- by a name: the own list is not given away -/
def eIxV (i : Nat) (wb : WE) : WE := fun en Q E => wb en (fun y en1 => match en1.sl[i]? with
  | some (some (.own xs)) => oIx (.lst xs) y fun z => Q z en1
  | some (some (.odk xs)) => oIx (.dic xs) y fun z => Q z en1
  | some (some (.d x)) => oIx x y fun z => Q z en1
  | _ => False) E
theorem rd_ixL {G H : Hp} {a : Addr} {vs : List V} {u : V} {xs : List D} {y : D} {Q : D → Prop} {Z : VK} (h : H a = some (.lst vs)) (s : Same G H) (r : Reps K G vs xs) (r2 : Rep K G u y) (q : oIx (.lst xs) y Q) (k : ∀ z w, Rep K G w z → Q z → Z w H) : rIx K (.ref a) u H Z ∨ rIxD (.ref a) u H Z := by
  cases r2 with
  | int i =>
    have q : (match L2.atI xs i with | some z => Q z | none => False) := q
    split at q
    · rename_i z e
      obtain ⟨v2, e2, r3⟩ := r.atI e
      exact .inl (.inl ⟨_, _, _, v2, rfl, rfl, SqL.of h, e2, k _ _ r3 q⟩)
    · exact q.elim
  | _ => exact q.elim
theorem rd_ixK {G H : Hp} {a : Addr} {vs : List (Key × V)} {u : V} {xs : List (Key × D)} {y : D} {Q : D → Prop} {Z : VK} (h : H a = some (.dK vs)) (s : Same G H) (r : RepK K G vs xs) (r2 : Rep K G u y) (q : oIx (.dic xs) y Q) (k : ∀ z w, Rep K G w z → Q z → Z w H) : rIx K (.ref a) u H Z ∨ rIxD (.ref a) u H Z := by
  have q : (match keyD y with | some k => (match valD xs k with | some z => Q z | none => False) | none => False) := by cases y <;> exact q
  split at q
  · rename_i k' e
    split at q
    · rename_i z e2
      obtain ⟨v2, e3, r4⟩ := (r.val (k := k')).1 z e2
      refine .inr ⟨_, v2, rfl, ?_, k _ _ r4 q⟩
      rw [r2.key e, ← e3]
      exact DGet.k h
    · exact q.elim
  · exact q.elim
theorem d_ixV {i : Nat} {x : Str} {p : Pos} (hu : X.A.units + 1 < cLine) (hv : PE X (.Name x p) (tVar i)) (hb : DE X W b wb) (hs : PlainIx b := by exact fun _ _ => rfl) : DE X W (.Subscript (.Name x p) b pos) (fun en Q E => (en.sl[i]?.getD none).isSome = true ∧ eIxV i wb en Q E) :=
  PE.of (pe_ix (IxR.or ix_seq (ix_dict hu)) hv hb hs) fun σ H Z ⟨C, G, en, Q, E, R, xo, ⟨h0, q⟩, k⟩ => by
  have hv0 : ∃ v, σ[i]? = some (some v) := by
    cases q0 : en.sl[i]? with
    | none => rw [q0] at h0; cases h0
    | some b0 =>
      cases b0 with
      | none => rw [q0] at h0; cases h0
      | some b1 => obtain ⟨v, e1, _⟩ := R.var q0; exact ⟨v, e1⟩
  obtain ⟨v0, e0⟩ := hv0
  refine ⟨v0, e0, C, G, en, _, E, R, xo, q, fun u y G1 H1 en1 R1 s1 r1 q1 => ?_⟩
  split at q1
  · rename_i xs e
    obtain ⟨v, e1, a, vs, e2, h1, h2, h3, r⟩ := R1.var e
    rw [e0] at e1; cases e1; cases e2
    exact rd_ixL h1 R1.sub r r1 q1 fun z w rz qz => k w z G1 H1 en1 R1 s1 rz qz
  · rename_i xs e
    obtain ⟨v, e1, a, vs, e2, h1, h2, h3, r⟩ := R1.var e
    rw [e0] at e1; cases e1; cases e2
    exact rd_ixK h1 R1.sub r r1 q1 fun z w rz qz => k w z G1 H1 en1 R1 s1 rz qz
  · rename_i x e
    obtain ⟨v, e1, u1, e2, r⟩ := R1.var e
    rw [e0] at e1; cases e1; cases e2
    exact rd_ix rfl G1 H1 _ u x y _ Z R1.sub r r1 q1 fun z w G3 H3 g r3 q3 => k w z G3 H3 en1 (R1.grow g) (s1.trans g.gg) r3 q3
  · exact q1.elim
/-! ### slices -/
def cutD (xs : List D) (lo hi : Option Int) : List D := (xs.drop (HT.sIx xs.length 0 lo)).take (HT.sIx xs.length xs.length hi - HT.sIx xs.length 0 lo)
theorem Reps.cut {vs : List V} {xs : List D} (r : Reps K G vs xs) (lo hi : Option Int) : Reps K G (cutV vs lo hi) (cutD xs lo hi) := by
  unfold cutV cutD
  rw [r.length]
  exact (r.drop _).take _
abbrev WO := En → (Option Int → En → Prop) → EK → Prop
def oNo : WO := fun en Q _ => Q none en
def oSo (w : WE) : WO := fun en Q E => w en (fun x en1 => match x with | .int i => Q (some i) en1 | _ => False) E
def RlO (K : PySem.W.Frag) (W : WX) (w : WO) : TO := fun σ H Z => ∃ C G en Q E, Rel K C G H σ en ∧ XOk K W C E ∧ w en Q E ∧ ∀ o G' H' en', Rel K C G' H' σ en' → Same G G' → Q o en' → Z o H'
theorem PO.of {o : Option Expr} {t t' : TO} (h : PO X o t) (k : ∀ σ H Z, t' σ H Z → t σ H Z) : PO X o t' := ⟨fun pins s σ H Q I q => h.run pins s σ H Q I (k σ H Q q)⟩
theorem do_none : PO X none (RlO X.K W oNo) := PO.of po_none fun σ H Z ⟨C, G, en, Q, E, R, xo, q, k⟩ => k none G H en R (Same.refl G) q
theorem do_some (h : DE X W e w) : PO X (some e) (RlO X.K W (oSo w)) := PO.of (po_some h) fun σ H Z ⟨C, G, en, Q, E, R, xo, q, k⟩ => by
  refine ⟨C, G, en, _, E, R, xo, q, fun v x G1 H1 en1 R1 s1 r1 q1 => ?_⟩
  cases r1 with
  | int i => exact ⟨i, rfl, k _ G1 H1 en1 R1 s1 q1⟩
  | _ => exact q1.elim
def oSl (x : D) (lo hi : Option Int) (Q : D → Prop) : Prop := match x with
  | .lst xs => Q (.lst (cutD xs lo hi))
  | .tup xs => Q (.tup (cutD xs lo hi))
  | .str z => z.length ≤ 100000 ∧ Q (.str (cutS z lo hi))
  | _ => False
def eSl (w : WE) (l h : WO) : WE := fun en Q E => w en (fun x en1 => l en1 (fun lo en2 => h en2 (fun hi en3 => oSl x lo hi fun z => Q z en3) E) E) E
theorem cut_whole {xs : List D} {lo hi : Option Int} (h : HT.sIx xs.length 0 lo = 0 ∧ HT.sIx xs.length xs.length hi = xs.length) : cutD xs lo hi = xs := by
  unfold cutD
  rw [h.1, h.2]
  simp
theorem d_sl {wl wh : WO} {lo hi : Option Expr} {p2 : Pos} (he : DE X W e w) (hl : PO X lo (RlO X.K W wl)) (hh : PO X hi (RlO X.K W wh)) : DE X W (.Subscript e (.Slice lo hi none p2) pos) (eSl w wl wh) := PE.of (pe_slice (SlR.or sl_list (SlR.or sl_str sl_tupA)) he hl hh) fun σ H Z ⟨C, G, en, Q, E, R, xo, q, k⟩ => by
  refine ⟨C, G, en, _, E, R, xo, q, fun v x G1 H1 en1 R1 s1 r1 q1 => ?_⟩
  refine ⟨C, G1, en1, _, E, R1, xo, q1, fun o2 G2 H2 en2 R2 s2 q2 => ?_⟩
  refine ⟨C, G2, en2, _, E, R2, xo, q2, fun o3 G3 H3 en3 R3 s3 q3 => ?_⟩
  have r3 := (r1.mono s2).mono s3
  have s13 := (s1.trans s2).trans s3
  cases r3 with
  | @lst _ vs xs h1 h2 =>
    refine .inl ⟨_, _, rfl, SqL.of (R3.sub _ _ h1), fun p np => ?_⟩
    have g := Gr.new1 (o := .lst (cutV vs o2 o3)) R3.sub np
    exact k _ _ _ _ en3 (R3.grow g) (s13.trans g.gg) (.lst upd_same ((h2.mono g.gg).cut o2 o3)) q3
  | @tup _ vs xs h1 h2 =>
    refine .inr (.inr ⟨_, _, rfl, Same.tup R3.sub h1, fun hw => ?_, fun _ p np => ?_⟩)
    · rw [h2.length] at hw
      have q3 : Q (.tup (cutD xs o2 o3)) en3 := q3
      rw [cut_whole hw] at q3
      exact k _ _ G3 H3 en3 R3 s13 (.tup h1 h2) q3
    · have g := Gr.new1 (o := .tup (cutV vs o2 o3)) R3.sub np
      exact k _ _ _ _ en3 (R3.grow g) (s13.trans g.gg) (.tup (SqT.of upd_same) ((h2.mono g.gg).cut o2 o3)) q3
  | str z => exact .inr (.inl ⟨z, rfl, sz5 q3.1, k _ _ G3 H3 en3 R3 s13 (.str _) q3.2⟩)
  | _ => exact q3.elim
end
end KD

/-! Built-in calls over data. -/
namespace KD
open PySem PySem.Spec PyProof.Rows L2 KP
abbrev OC := List D → (D → Prop) → Prop
section
variable {X : Cx} {W : WX} {e a b : Expr} {es : List Expr} {w wa wb : WE} {r : WA} {p pos apos : Pos} {K : PySem.W.Frag} {G H : Hp} {x : Str} {bid T : String}
def RDC (K : PySem.W.Frag) (r : List V → Hp → VK → Prop) (o : OC) : Prop := ∀ G H vs xs Q Z, Same G H → Reps K G vs xs → o xs Q → (∀ z w G' H', Gr G H G' H' → Rep K G' w z → Q z → Z w H') → r vs H Z
def CallD (X : Cx) (f : Value) (o : OC) : Prop := ∃ r, CallR X f r ∧ RDC X.K r o
def eB (o : OC) (r : WA) : WE := fun en Q E => aD r en (fun xs en1 => o xs fun z => Q z en1) E
theorem rl_b {K : PySem.W.Frag} {o : OC} {rr : List V → Hp → VK → Prop} (h2 : RDC K rr o) {σ : L2.St} {H : Hp} {Z : VK} (h : Rl K W (eB o r) σ H Z) : tCB rr (RlA K W r) σ H Z := by
  obtain ⟨C, G, en, Q, E, R, xo, q, k⟩ := h
  exact rla R xo q fun vs xs G1 H1 en1 R1 s1 r1 q1 => h2 G1 H1 vs xs _ Z R1.sub r1 q1 fun z w G3 H3 g r3 q3 => k w z G3 H3 en1 (R1.grow g) (s1.trans g.gg) r3 q3
theorem d_b {o : OC} (ho : CallD X (.builtin bid) o) (hg : Gl X x) (hm : X.mg x = none) (hv : bootBuiltins x = some (.builtin bid)) (ha : DA X W (e :: es) r) (hn : x ≠ "__name__" := by decide) (hdb : (x == ("__debug__" : Str)) = false := by decide)
    (he : starEach (e :: es) X.env = (false, eval e X.env) :: starEach es X.env := by rfl) (hpl : (backTo pos (starEach es X.env)).any (·.1) = false := by rfl) : DE X W (.Call (.Name x p) (e :: es) [] pos) (eB o r) := by
  obtain ⟨rr, h1, h2⟩ := ho
  exact PE.of (pe_callB h1 hg hm hv ha hn hdb he hpl) fun σ H Z => rl_b h2
theorem d_bT {o : OC} (ho : CallD X (.type T) o) (hg : Gl X x) (hm : X.mg x = none) (hv : bootBuiltins x = some (.type T)) (ha : DA X W (e :: es) r) (hn : x ≠ "__name__" := by decide) (hdb : (x == ("__debug__" : Str)) = false := by decide)
    (he : starEach (e :: es) X.env = (false, eval e X.env) :: starEach es X.env := by rfl) (hpl : (backTo pos (starEach es X.env)).any (·.1) = false := by rfl) : DE X W (.Call (.Name x p) (e :: es) [] pos) (eB o r) := by
  obtain ⟨rr, h1, h2⟩ := ho
  exact PE.of (pe_callTy h1 hg hm hv ha hn hdb he hpl) fun σ H Z => rl_b h2
/-! ### len, abs, int, min, max, divmod -/
def oLen : OC := fun xs Q => match xs with
  | [.lst ys] => Q (.int ys.length)
  | [.tup ys] => Q (.int ys.length)
  | [.str z] => z.length ≤ 100000 ∧ Q (.int z.length)
  | [.dic kvs] => Q (.int kvs.length)
  | _ => False
theorem RepK.length : ∀ {vs : List (Key × V)} {xs : List (Key × D)}, RepK K G vs xs → vs.length = xs.length
  | _, _, .nil => rfl
  | _, _, .cons _ r => by simp [RepK.length r]
theorem call_lenD_ : CallD X (.builtin "len") oLen := ⟨_, CallR.or call_len call_lenD, fun G H vs xs Q Z s r q k => by
  unfold oLen at q
  split at q
  · obtain ⟨v, rfl, rv⟩ := reps1 r
    cases rv with
    | lst h1 h2 => refine .inl ⟨_, _, rfl, .inl ⟨_, SqL.of (s _ _ h1), rfl⟩, ?_⟩; rw [h2.length]; exact k _ _ G H (Gr.refl s) (.int _) q
  · obtain ⟨v, rfl, rv⟩ := reps1 r
    cases rv with
    | tup h1 h2 => refine .inl ⟨_, _, rfl, .inr ⟨_, Same.tup s h1, rfl⟩, ?_⟩; rw [h2.length]; exact k _ _ G H (Gr.refl s) (.int _) q
  · obtain ⟨v, rfl, rv⟩ := reps1 r
    cases rv
    exact .inl ⟨_, _, rfl, ⟨sz5 q.1, rfl⟩, k _ _ G H (Gr.refl s) (.int _) q.2⟩
  · obtain ⟨v, rfl, rv⟩ := reps1 r
    cases rv with
    | dic h1 h2 => refine .inr ⟨_, _, rfl, s _ _ h1, ?_⟩; rw [h2.length]; exact k _ _ G H (Gr.refl s) (.int _) q
  · exact q.elim⟩
def oAbs : OC := fun xs Q => match xs with | [.int i] => Q (.int (if i < 0 then -i else i)) | _ => False
theorem call_absD : CallD X (.builtin "abs") oAbs := ⟨_, call_abs, fun G H vs xs Q Z s r q k => by
  unfold oAbs at q
  split at q
  · obtain ⟨v, rfl, rv⟩ := reps1 r
    cases rv
    exact ⟨_, rfl, k _ _ G H (Gr.refl s) (.int _) q⟩
  · exact q.elim⟩
def oInt : OC := fun xs Q => match xs with | [.int i] => Q (.int i) | [.bl b] => Q (.int (if b then 1 else 0)) | _ => False
theorem call_intD : CallD X (.type "int") oInt := ⟨_, call_int1, fun G H vs xs Q Z s r q k => by
  unfold oInt at q
  split at q
  · obtain ⟨v, rfl, rv⟩ := reps1 r
    cases rv
    exact .inl ⟨_, rfl, k _ _ G H (Gr.refl s) (.int _) q⟩
  · obtain ⟨v, rfl, rv⟩ := reps1 r
    cases rv
    exact .inr ⟨_, rfl, k _ _ G H (Gr.refl s) (.int _) q⟩
  · exact q.elim⟩
/-- all ints -/
def allI : List D → Option (List Int)
  | [] => some []
  | .int i :: r => (allI r).map (i :: ·)
  | _ :: _ => none
theorem Reps.ints : ∀ {vs : List V} {xs : List D} {ns : List Int}, Reps K G vs xs → allI xs = some ns → vs = ns.map V.int
  | _, _, _, .nil, e => by cases e; rfl
  | _, _, _, .cons (x := x) (xs := xs) h r, e => by
    cases h with
    | int i =>
      cases q : allI xs with
      | none => rw [allI, q] at e; cases e
      | some ms => rw [allI, q] at e; cases e; rw [Reps.ints r q]; rfl
    | _ => cases e
theorem reps_ints : ∀ ns : List Int, Reps K G (ns.map V.int) (ns.map D.int)
  | [] => .nil
  | n :: ns => .cons (.int n) (reps_ints ns)
def oMin : OC := fun xs Q => match xs with
  | [.int i, .int j] => Q (.int (if j < i then j else i))
  | [.lst ys] => match allI ys with | some ns => 0 < ns.length ∧ ∀ m, m ∈ ns → (∀ y, y ∈ ns → m ≤ y) → Q (.int m) | none => False
  | _ => False
def oMax : OC := fun xs Q => match xs with
  | [.int i, .int j] => Q (.int (if j > i then j else i))
  | [.lst ys] => match allI ys with | some ns => 0 < ns.length ∧ ∀ m, m ∈ ns → (∀ y, y ∈ ns → y ≤ m) → Q (.int m) | none => False
  | _ => False
theorem call_minD (hc : X.calm = true) : CallD X (.builtin "min") oMin := ⟨_, CallR.or (call_min2 hc) (cr_min hc), fun G H vs xs Q Z s r q k => by
  unfold oMin at q
  split at q
  · obtain ⟨v, u, rfl, rv, ru⟩ := reps2 r
    cases rv; cases ru
    exact .inl ⟨_, _, rfl, k _ _ G H (Gr.refl s) (.int _) q⟩
  · obtain ⟨v, rfl, rv⟩ := reps1 r
    split at q
    · rename_i ns e
      cases rv with
      | lst h1 h2 => exact .inr ⟨_, ns, rfl, SqL.of (by rw [← h2.ints e]; exact s _ _ h1), q.1, fun m hm hy => k _ _ G H (Gr.refl s) (.int _) (q.2 m hm hy)⟩
    · exact q.elim
  · exact q.elim⟩
theorem call_maxD (hc : X.calm = true) : CallD X (.builtin "max") oMax := ⟨_, CallR.or (call_max2 hc) (cr_max hc), fun G H vs xs Q Z s r q k => by
  unfold oMax at q
  split at q
  · obtain ⟨v, u, rfl, rv, ru⟩ := reps2 r
    cases rv; cases ru
    exact .inl ⟨_, _, rfl, k _ _ G H (Gr.refl s) (.int _) q⟩
  · obtain ⟨v, rfl, rv⟩ := reps1 r
    split at q
    · rename_i ns e
      cases rv with
      | lst h1 h2 => exact .inr ⟨_, ns, rfl, SqL.of (by rw [← h2.ints e]; exact s _ _ h1), q.1, fun m hm hy => k _ _ G H (Gr.refl s) (.int _) (q.2 m hm hy)⟩
    · exact q.elim
  · exact q.elim⟩
def oSum : OC := fun xs Q => match xs with
  | [.lst ys] => match allI ys with | some ns => Q (.int ns.sum) | none => False
  | _ => False
theorem call_sumD (hc : X.calm = true) : CallD X (.builtin "sum") oSum := ⟨_, cr_sum hc, fun G H vs xs Q Z s r q k => by
  unfold oSum at q
  split at q
  · obtain ⟨v, rfl, rv⟩ := reps1 r
    split at q
    · rename_i ns e
      cases rv with
      | lst h1 h2 => exact ⟨_, ns, rfl, SqL.of (by rw [← h2.ints e]; exact s _ _ h1), k _ _ G H (Gr.refl s) (.int _) q⟩
    · exact q.elim
  · exact q.elim⟩
def oDivmod : OC := fun xs Q => match xs with | [.int i, .int j] => CBs i j ∧ Q (.tup [.int (i.fdiv j), .int (i.fmod j)]) | _ => False
theorem call_divmodD : CallD X (.builtin "divmod") oDivmod := ⟨_, call_divmodS, fun G H vs xs Q Z s r q k => by
  unfold oDivmod at q
  split at q
  · obtain ⟨v, u, rfl, rv, ru⟩ := reps2 r
    cases rv; cases ru
    refine ⟨_, _, rfl, q.1, fun p np => ?_⟩
    exact k _ _ _ _ (Gr.new1 s np) (.tup (SqT.of upd_same) (.cons (.int _) (.cons (.int _) .nil))) q.2
  · exact q.elim⟩
/-! ### list, tuple, all, any, sorted -/
def oList : OC := fun xs Q => match xs with | [.lst ys] => Q (.lst ys) | [.tup ys] => Q (.lst ys) | _ => False
theorem call_listD : CallD X (.type "list") oList := ⟨_, call_list_of, fun G H vs xs Q Z s r q k => by
  unfold oList at q
  split at q
  · obtain ⟨v, rfl, rv⟩ := reps1 r
    cases rv with
    | lst h1 h2 => exact ⟨_, _, rfl, .inl (SqL.of (s _ _ h1)), fun p np => k _ _ _ _ (Gr.new1 s np) (.lst upd_same (h2.mono (KP.Same.new (s.free np)))) q⟩
  · obtain ⟨v, rfl, rv⟩ := reps1 r
    cases rv with
    | tup h1 h2 => exact ⟨_, _, rfl, .inr (Same.tup s h1), fun p np => k _ _ _ _ (Gr.new1 s np) (.lst upd_same (h2.mono (KP.Same.new (s.free np)))) q⟩
  · exact q.elim⟩
def oTuple : OC := fun xs Q => match xs with | [.lst ys] => Q (.tup ys) | [.tup ys] => Q (.tup ys) | _ => False
theorem call_tupleD : CallD X (.type "tuple") oTuple := ⟨_, call_tuple_of, fun G H vs xs Q Z s r q k => by
  unfold oTuple at q
  split at q
  · obtain ⟨v, rfl, rv⟩ := reps1 r
    cases rv with
    | lst h1 h2 => exact ⟨_, _, rfl, .inl ⟨SqL.of (s _ _ h1), fun p np => k _ _ _ _ (Gr.new1 s np) (.tup (SqT.of upd_same) (h2.mono (KP.Same.new (s.free np)))) q⟩⟩
  · obtain ⟨v, rfl, rv⟩ := reps1 r
    cases rv with
    | tup h1 h2 => exact ⟨_, _, rfl, .inr ⟨Same.tup s h1, k _ _ G H (Gr.refl s) (.tup h1 h2) q⟩⟩
  · exact q.elim⟩
def allB : List D → Option (List Bool)
  | [] => some []
  | .bl i :: r => (allB r).map (i :: ·)
  | _ :: _ => none
theorem Reps.bools : ∀ {vs : List V} {xs : List D} {ns : List Bool}, Reps K G vs xs → allB xs = some ns → vs = ns.map V.bl
  | _, _, _, .nil, e => by cases e; rfl
  | _, _, _, .cons (x := x) (xs := xs) h r, e => by
    cases h with
    | bl i =>
      cases q : allB xs with
      | none => rw [allB, q] at e; cases e
      | some ms => rw [allB, q] at e; cases e; rw [Reps.bools r q]; rfl
    | _ => cases e
def oAll : OC := fun xs Q => match xs with | [.lst ys] => (match allB ys with | some bs => Q (.bl (bs.all id)) | none => False) | _ => False
theorem call_allD (hc : X.calm = true) : CallD X (.builtin "all") oAll := ⟨_, cr_all hc, fun G H vs xs Q Z s r q k => by
  unfold oAll at q
  split at q
  · obtain ⟨v, rfl, rv⟩ := reps1 r
    split at q
    · rename_i ns e
      cases rv with
      | lst h1 h2 => exact ⟨_, ns, rfl, SqL.of (by rw [← h2.bools e]; exact s _ _ h1), k _ _ G H (Gr.refl s) (.bl _) q⟩
    · exact q.elim
  · exact q.elim⟩
def oAny : OC := fun xs Q => match xs with | [.lst ys] => (match allB ys with | some bs => Q (.bl (bs.any id)) | none => False) | _ => False
theorem call_anyD (hc : X.calm = true) : CallD X (.builtin "any") oAny := ⟨_, cr_any hc, fun G H vs xs Q Z s r q k => by
  unfold oAny at q
  split at q
  · obtain ⟨v, rfl, rv⟩ := reps1 r
    split at q
    · rename_i ns e
      cases rv with
      | lst h1 h2 => exact ⟨_, ns, rfl, SqL.of (by rw [← h2.bools e]; exact s _ _ h1), k _ _ G H (Gr.refl s) (.bl _) q⟩
    · exact q.elim
  · exact q.elim⟩
/-! ### repr, str, f-strings, join -/
@[irreducible] def oRepr : OC := fun xs Q => match xs with
  | [x] => (match x.pd with | some d => d.showable = true ∧ d.hasDict = false ∧ d.depth < 50 ∧ d.shown.length ≤ 1000000 ∧ Q (.str d.shown) | none => False)
  | _ => False
theorem call_reprDD (hg : X.A.guards = some []) (hu : X.A.units + 64 < cLine) : CallD X (.builtin "repr") oRepr := ⟨_, call_reprD hg hu, fun G H vs xs Q Z s r q k => by
  unfold oRepr at q
  split at q
  · obtain ⟨v, rfl, rv⟩ := reps1 r
    split at q
    · rename_i d e
      exact ⟨_, d, rfl, (rv.toH s).dp e, q.1, q.2.1, q.2.2.1, q.2.2.2.1, k _ _ G H (Gr.refl s) (.str _) q.2.2.2.2⟩
    · exact q.elim
  · exact q.elim⟩
def oFmt : O1 := fun x Q => match x with
  | .str y => y.length ≤ 100000 ∧ Q (.str y)
  | .int i => i.natAbs.log2 < 1920 ∧ Q (.str (toString i))
  | _ => False
def eFmt (w : WE) : WE := fun en Q E => w en (fun x en1 => oFmt x fun z => Q z en1) E
theorem d_fmt (he : DE X W e w) : DE X W (.FormattedValue e (-1) none pos) (eFmt w) := PE.of (pe_fmt he) fun σ H Z ⟨C, G, en, Q, E, R, xo, q, k⟩ => by
  refine ⟨C, G, en, _, E, R, xo, q, fun v x G1 H1 en1 R1 s1 r1 q1 => ?_⟩
  cases r1 with
  | str y => exact .inl ⟨y, rfl, sz5 q1.1, k _ _ G1 H1 en1 R1 s1 (.str _) q1.2⟩
  | int i => exact .inr ⟨i, rfl, q1.1, k _ _ G1 H1 en1 R1 s1 (.str _) q1.2⟩
  | _ => exact q1.elim
def jsGo : List WE → Str → En → (D → En → Prop) → EK → Prop
  | [], acc, en, Q, _ => Q (.str acc) en
  | w :: ws, acc, en, Q, E => w en (fun x en1 => match x with | .str y => (acc ++ y).length ≤ 100000 ∧ jsGo ws (acc ++ y) en1 Q E | _ => False) E
def eJs (ws : List WE) : WE := fun en Q E => jsGo ws Str.empty en Q E
theorem js_of {K : PySem.W.Frag} : ∀ (ws : List WE) {σ : L2.St} {H : Hp} {C : Ctx} {G : Hp} {en : En} {Q : D → En → Prop} {E : EK} {acc : Str} {Z : Str → Hp → Prop}, Rel K C G H σ en → XOk K W C E → jsGo ws acc en Q E →
    (∀ z G' H' en', Rel K C G' H' σ en' → Same G G' → Q (.str z) en' → Z z H') → tJs (ws.map (Rl K W)) acc σ H Z
  | [], _, H, C, G, en, Q, E, acc, Z, R, xo, q, k => k acc G H en R (Same.refl G) q
  | w :: ws, σ, H, C, G, en, Q, E, acc, Z, R, xo, q, k => by
    refine ⟨C, G, en, _, E, R, xo, q, fun v x G1 H1 en1 R1 s1 r1 q1 => ?_⟩
    cases r1 with
    | str y => exact ⟨y, rfl, sz5 q1.1, js_of ws R1 xo q1.2 fun z G' H' en' R' s' q' => k z G' H' en' R' (s1.trans s') q'⟩
    | _ => exact q1.elim
theorem d_js {v1 v2 : Expr} {rest : List Expr} {ws : List WE} (h : PJ X (v1 :: v2 :: rest) (ws.map (Rl X.K W))) : DE X W (.JoinedStr (v1 :: v2 :: rest) pos) (eJs ws) := PE.of (pe_joined h) fun σ H Z ⟨C, G, en, Q, E, R, xo, q, k⟩ =>
  js_of ws R xo q fun z G' H' en' R' s' q' => k (.str z) (.str z) G' H' en' R' s' (.str z) q'
theorem d_js1 (h : DE X W e w) : DE X W (.JoinedStr [e] pos) w := pe_joined1 h
def allS : List D → Option (List Str)
  | [] => some []
  | .str i :: r => (allS r).map (i :: ·)
  | _ :: _ => none
theorem Reps.strs : ∀ {vs : List V} {xs : List D} {ns : List Str}, Reps K G vs xs → allS xs = some ns → vs = ns.map V.str
  | _, _, _, .nil, e => by cases e; rfl
  | _, _, _, .cons (x := x) (xs := xs) h r, e => by
    cases h with
    | str i =>
      cases q : allS xs with
      | none => rw [allS, q] at e; cases e
      | some ms => rw [allS, q] at e; cases e; rw [Reps.strs r q]; rfl
    | _ => cases e
def oJoin : O2 := fun x y Q => match x, y with
  | .str a, .lst xs => (match allS xs with | some ys => (ys.map (·.length)).sum + ys.length * a.length ≤ 16777216 ∧ Q (.str (Txt.join a ys)) | none => False)
  | _, _ => False
theorem d_join (ha : DE X W a wa) (hb : DE X W b wb) (hs : starEach [b] X.env = [(false, eval b X.env)] := by rfl) (hbase : attributeBase a "join" X.env (eval a X.env) = eval a X.env := by rfl) (hline : (apos.endLine == pos.line) = true := by rfl) :
    DE X W (.Call (.Attribute a "join" apos) [b] [] pos) (fun en Q E => wa en (fun x en1 => (match x with | .str _ => True | _ => False) ∧ wb en1 (fun y en2 => oJoin x y fun z => Q z en2) E) E) := PE.of (pe_join ha hb hs hbase hline) fun σ H Z ⟨C, G, en, Q, E, R, xo, q, k⟩ => by
  refine ⟨C, G, en, _, E, R, xo, q, fun v x G1 H1 en1 R1 s1 r1 q1 => ?_⟩
  obtain ⟨q0, q1⟩ := q1
  cases r1 with
  | str z =>
    refine ⟨⟨z, rfl⟩, C, G1, en1, _, E, R1, xo, q1, fun u y G2 H2 en2 R2 s2 r2 q2 => ?_⟩
    unfold oJoin at q2
    split at q2
    · rename_i e0; cases e0
      split at q2
      · rename_i ys e
        cases r2 with
        | lst h1 h2 => exact ⟨z, _, ys, rfl, rfl, .inl (SqL.of (by rw [← h2.strs e]; exact R2.sub _ _ h1)), q2.1, k _ _ G2 H2 en2 R2 (s1.trans s2) (.str _) q2.2⟩
      · exact q2.elim
    · exact q2.elim
  | _ => exact q0.elim
/-! ### isinstance -/
def D.tn : D → Option String
  | .non => some "NoneType"
  | .bl _ => some "bool"
  | .int _ => some "int"
  | .str _ => some "str"
  | .lst _ => some "list"
  | .tup _ => some "tuple"
  | .dic _ => some "dict"
  | .dit _ => some "dict"
  | _ => none
theorem Rep.tyx {v : V} {x : D} {t : String} (h : Rep K G v x) (e : x.tn = some t) : TyX K G v (.type t) := by
  cases h with
  | non => cases e; exact .base .non
  | bl b => cases e; exact .base (.bl b)
  | int b => cases e; exact .base (.int b)
  | str b => cases e; exact .base (.str b)
  | lst h1 _ => cases e; exact .base (.lst h1)
  | tup h1 _ =>
    cases e
    rcases h1 with (h1 | ⟨o, h1⟩) | ⟨o, its, n, h1, h2, _⟩
    · exact .base (.tup h1)
    · exact .fTuple h1
    · exact .kTuple h1 h2
  | dic h1 _ => cases e; exact .base (.dK h1)
  | dit h1 _ => cases e; exact .base (.dT h1)
  | _ => cases e
/-- isinstance(x, T), T a built-in class -/
@[irreducible] def oIsi : OC := fun xs Q => match xs with
  | [x, .ty n] => (match x.tn with
    | some t => (match kitB t n with | some b => Q (.bl b) | none => False)
    | none => False)
  | _ => False
theorem call_isiD : CallD X (.builtin "isinstance") oIsi := ⟨_, call_isi, fun G H vs xs Q Z s r q k => by
  unfold oIsi at q
  split at q
  · obtain ⟨v, u, rfl, rv, ru⟩ := reps2 r
    cases ru
    split at q
    · rename_i t e
      split at q
      · rename_i b eb
        exact ⟨_, _, _, _, b, rfl, .ty _, (rv.toH s).tyx e, kit_ty eb, k _ _ G H (Gr.refl s) (.bl _) q⟩
      · exact q.elim
    · exact q.elim
  · exact q.elim⟩
/-! ### by a name: len of an own list, of the script -/
def eLenV (i : Nat) : WE := fun en Q _ => match en.sl[i]? with
  | some (some (.own xs)) => Q (.int xs.length) en
  | some (some (.scr n)) => Q (.int n) en
  | some (some (.d x)) => oLen [x] fun z => Q z en
  | _ => False
theorem d_lenV {i : Nat} {y : Str} {p2 : Pos} (hv : PE X (.Name y p2) (tVar i)) (hg : Gl X "len") (hm : X.mg "len" = none)
    (he : starEach [.Name y p2] X.env = (false, eval (.Name y p2) X.env) :: starEach [] X.env := by rfl) (hpl : (backTo pos (starEach [] X.env)).any (·.1) = false := by rfl) : DE X W (.Call (.Name "len" p) [.Name y p2] [] pos) (eLenV i) := by
  obtain ⟨rr, h1, h2⟩ := call_lenD_ (X := X)
  refine PE.of (pe_callB (CallR.or call_len h1) hg hm PySem.boot_len (pa_cons hv pa_nil he) (by decide) (by decide) he hpl) fun σ H Z ⟨C, G, en, Q, E, R, xo, q, k⟩ => ?_
  unfold eLenV at q
  split at q
  · rename_i xs e
    obtain ⟨v, e1, a, vs, e2, h1, _, _, r⟩ := R.var e
    cases e2
    refine ⟨_, e1, .inl ⟨_, _, rfl, .inl ⟨_, SqL.of h1, rfl⟩, ?_⟩⟩
    rw [r.length]
    exact k _ _ G H en R (Same.refl G) (.int _) q
  · rename_i n e
    obtain ⟨v, e1, a, vs, e2, h1, r⟩ := R.var e
    cases e2
    refine ⟨_, e1, .inl ⟨_, _, rfl, .inl ⟨_, R.sub.seq h1, rfl⟩, ?_⟩⟩
    rw [r]
    exact k _ _ G H en R (Same.refl G) (.int _) q
  · rename_i x e
    obtain ⟨v, e1, u, e2, r⟩ := R.var e
    cases e2
    refine ⟨_, e1, .inr (h2 G H [_] [x] _ Z R.sub (.cons r .nil) q fun z w G3 H3 g r3 q3 => k w z G3 H3 en (R.grow g) g.gg r3 q3)⟩
  · exact q.elim
end
end KD

/-! More rules over data. -/
namespace KD
open PySem PySem.Spec PyProof.Rows L2 KP
section
variable {X : Cx} {W : WX} {e a b : Expr} {es : List Expr} {w wa wb : WE} {r : WA} {p pos apos : Pos} {K : PySem.W.Frag} {G H : Hp} {x : Str} {st : Stmt}
def eIxN (i : Nat) (wb : WE) : WE := fun en Q E => (en.sl[i]?.getD none).isSome = true ∧ eIxV i wb en Q E
theorem d_ixN {i : Nat} (hu : X.A.units + 1 < cLine) (hv : PE X (.Name x p) (tVar i)) (hb : DE X W b wb) (hs : PlainIx b := by exact fun _ _ => rfl) : DE X W (.Subscript (.Name x p) b pos) (eIxN i wb) := d_ixV hu hv hb hs
def eFldC (cn nm : Str) (w : WE) : WE := fun en Q E => w en (fun x en1 => match x with
  | .obj c fs => c = cn ∧ match fs.lookup nm with
    | some y => Q y en1
    | none => False
  | _ => False) E
theorem d_fldC {cn nm : Str} (he : DE X W e w) (c : Cls X.K (He.ga X.K cn)) (hn : NoAttr X.K (He.ga X.K cn) nm) (hab : attributeBase e nm X.env (eval e X.env) = eval e X.env := by rfl) : DE X W (.Attribute e nm pos) (eFldC cn nm w) := d_fld he c hn hab
def sFldC (cn : Str) (i : Nat) (fn : Str) (w : WE) : WS := fun N en => w en (fun x en1 => match en1.sl[i]? with
  | some (some (.slf c fs)) => c = cn ∧ fs.length < 1000 ∧ N.nx (en1.set i (some (.slf c (putFD fn x fs))))
  | _ => False) N.ex
theorem ds_fldC {cn : Str} {i : Nat} {fn : Str} (hs : PS X st (sFld X.K (tVar i) (Rl X.K W w) fn)) (c : Cls X.K (He.ga X.K cn)) (hn : NoAttr X.K (He.ga X.K cn) fn) : DS X W st (sFldC cn i fn w) := ds_fld hs c hn
def eJoin (wa wb : WE) : WE := fun en Q E => wa en (fun x en1 => (match x with | .str _ => True | _ => False) ∧ wb en1 (fun y en2 => oJoin x y fun z => Q z en2) E) E
theorem d_joinN (ha : DE X W a wa) (hb : DE X W b wb) (hs : starEach [b] X.env = [(false, eval b X.env)] := by rfl) (hbase : attributeBase a "join" X.env (eval a X.env) = eval a X.env := by rfl) (hline : (apos.endLine == pos.line) = true := by rfl) :
    DE X W (.Call (.Attribute a "join" apos) [b] [] pos) (eJoin wa wb) := d_join ha hb hs hbase hline
/-- a constant of a class -/
theorem d_cval {cn nm : Str} {z : Int} (he : DE X W e (eK (.cls cn))) (hc : CvOf X.K (He.ga X.K cn) nm z) (hb : attributeBase e nm X.env (eval e X.env) = eval e X.env := by rfl) : DE X W (.Attribute e nm pos) (eK (.int z)) := PE.of (ClX.pe_cval he hb) fun σ H Z ⟨C, G, en, Q, E, R, xo, q, k⟩ => by
  obtain ⟨c1, u, c2⟩ := hc
  refine ⟨C, G, en, fun x en1 => x = .cls cn ∧ Q (.int z) en1, E, R, xo, ⟨rfl, q⟩, fun v x G1 H1 en1 R1 s1 r1 q1 => ?_⟩
  obtain ⟨rfl, q1⟩ := q1
  cases r1
  exact ⟨_, _, _, _, rfl, c1, c2, k _ _ G1 H1 en1 R1 s1 (.int z) q1⟩
/-- own[lo:hi] by a name: a new list -/
def eSlV (i : Nat) (l h : WO) : WE := fun en Q E => (en.sl[i]?.getD none).isSome = true ∧ l en (fun lo en2 => h en2 (fun hi en3 => match en3.sl[i]? with
  | some (some (.own xs)) => Q (.lst (cutD xs lo hi)) en3
  | some (some (.d x)) => oSl x lo hi fun z => Q z en3
  | _ => False) E) E
theorem d_slV {i : Nat} {wl wh : WO} {lo hi : Option Expr} {p2 : Pos} (he : PE X (.Name x p) (tVar i)) (hl : PO X lo (RlO X.K W wl)) (hh : PO X hi (RlO X.K W wh)) : DE X W (.Subscript (.Name x p) (.Slice lo hi none p2) pos) (eSlV i wl wh) := PE.of (pe_slice (SlR.or sl_list (SlR.or sl_str sl_tupA)) he hl hh) fun σ H Z ⟨C, G, en, Q, E, R, xo, ⟨h0, q⟩, k⟩ => by
  have hv0 : ∃ v, σ[i]? = some (some v) := by
    cases q0 : en.sl[i]? with
    | none => rw [q0] at h0; cases h0
    | some b0 =>
      cases b0 with
      | none => rw [q0] at h0; cases h0
      | some b1 => obtain ⟨v, e1, _⟩ := R.var q0; exact ⟨v, e1⟩
  obtain ⟨v0, e0⟩ := hv0
  refine ⟨v0, e0, C, G, en, _, E, R, xo, q, fun o2 G2 H2 en2 R2 s2 q2 => ?_⟩
  refine ⟨C, G2, en2, _, E, R2, xo, q2, fun o3 G3 H3 en3 R3 s3 q3 => ?_⟩
  have s13 := s2.trans s3
  split at q3
  · rename_i xs e
    obtain ⟨v, e1, a, vs, e2, h1, h2, h3, r⟩ := R3.var e
    rw [e0] at e1; cases e1; cases e2
    refine .inl ⟨_, _, rfl, SqL.of h1, fun p np => ?_⟩
    have g := Gr.new1 (o := .lst (cutV vs o2 o3)) R3.sub np
    exact k _ _ _ _ en3 (R3.grow g) (s13.trans g.gg) (.lst upd_same ((r.mono g.gg).cut o2 o3)) q3
  · rename_i x e
    obtain ⟨v, e1, u1, e2, r3⟩ := R3.var e
    rw [e0] at e1; cases e1; cases e2
    cases r3 with
    | @lst _ vs xs h1 h2 =>
      refine .inl ⟨_, _, rfl, SqL.of (R3.sub _ _ h1), fun p np => ?_⟩
      have g := Gr.new1 (o := .lst (cutV vs o2 o3)) R3.sub np
      exact k _ _ _ _ en3 (R3.grow g) (s13.trans g.gg) (.lst upd_same ((h2.mono g.gg).cut o2 o3)) q3
    | @tup _ vs xs h1 h2 =>
      refine .inr (.inr ⟨_, _, rfl, Same.tup R3.sub h1, fun hw => ?_, fun _ p np => ?_⟩)
      · rw [h2.length] at hw
        have q3 : Q (.tup (cutD xs o2 o3)) en3 := q3
        rw [cut_whole hw] at q3
        exact k _ _ G3 H3 en3 R3 s13 (.tup h1 h2) q3
      · have g := Gr.new1 (o := .tup (cutV vs o2 o3)) R3.sub np
        exact k _ _ _ _ en3 (R3.grow g) (s13.trans g.gg) (.tup (SqT.of upd_same) ((h2.mono g.gg).cut o2 o3)) q3
    | str z => exact .inr (.inl ⟨z, rfl, sz5 q3.1, k _ _ G3 H3 en3 R3 s13 (.str _) q3.2⟩)
    | _ => exact q3.elim
  · exact q3.elim
/-! ### several names at once, some of them lists of their own -/
theorem XOk.unhold {K : PySem.W.Frag} {C : Ctx} {E : EK} {a : Addr} {o : HO} (x : XOk K W C E) (n : C.hk a = none) : XOk K W { C with hk := upd C.hk a o } E := fun y en σ G H cls od R r q => x y en σ G H cls od (R.unhold n) r q
/-- a part of a parallel assignment -/
inductive AK where
  | e (w : WE) | f (w : WF)
def tAK (K : PySem.W.Frag) (W : WX) : AK → TE
  | .e w => Rl K W w
  | .f w => RlF K W w
def akGo : List AK → En → (List B → En → Prop) → EK → Prop
  | [], en, Q, _ => Q [] en
  | .e w :: r, en, Q, E => w en (fun x en1 => akGo r en1 (fun bs en2 => Q (.d x :: bs) en2) E) E
  | .f w :: r, en, Q, E => w en (fun xs en1 => akGo r en1 (fun bs en2 => Q (.own xs :: bs) en2) E) E
/-- what such parts leave: data, or lists that are held -/
def AkR (K : PySem.W.Frag) (C : Ctx) (G : Hp) (v : V) : B → Prop
  | .d x => Rep K G v x
  | .own xs => ∃ a vs, v = .ref a ∧ C.hk a = some (.lst vs) ∧ Reps K G vs xs
  | _ => False
def tAKs (K : PySem.W.Frag) (W : WX) : List AK → TA
  | [] => tNil
  | a :: r => tCons (tAK K W a) (tAKs K W r)
def Dist (vs : List V) (bs : List B) : Prop := ∀ (i j : Nat) (a : Addr) (b : List D), vs[i]? = some (V.ref a) → vs[j]? = some (V.ref a) → bs[i]? = some (B.own b) → (∃ c, bs[j]? = some (B.own c)) → i = j
theorem ak_run : ∀ (ks : List AK) {σ : L2.St} {H : Hp} {C : Ctx} {G : Hp} {en : En} {Q : List B → En → Prop} {E : EK} {Z : List V → Hp → Prop}, Rel K C G H σ en → XOk K W C E → akGo ks en Q E →
    (∀ vs bs C' G' H' en', Rel K C' G' H' σ en' → (∀ {G H σ en}, Rel K C' G H σ en → Rel K C G H σ en) → C'.H0 = C.H0 → Same C.hk C'.hk → Same G G' → Paired (AkR K C' G') vs bs → Dist vs bs → (∀ (i : Nat) (a : Addr) (b : List D), vs[i]? = some (V.ref a) → bs[i]? = some (B.own b) → C.hk a = none) → Q bs en' → Z vs H') → tAKs K W ks σ H Z
  | [], σ, H, C, G, en, Q, E, Z, R, xo, q, k => k [] [] C G H en R (fun R => R) rfl (Same.refl _) (Same.refl G) .nil (fun i j a b h => by simp at h) (fun i a b h => by simp at h) q
  | .e w :: r, σ, H, C, G, en, Q, E, Z, R, xo, q, k => by
    refine ⟨C, G, en, _, E, R, xo, q, fun v x G1 H1 en1 R1 s1 r1 q1 => ?_⟩
    refine ak_run r R1 xo q1 fun vs bs C' G' H' en' R' wk h0 hk s' pr di nh q' => ?_
    refine k (v :: vs) (.d x :: bs) C' G' H' en' R' wk h0 hk (s1.trans s') (.cons (show AkR K C' G' v (.d x) from r1.mono s') pr) (fun i j a b h1 h2 h3 ⟨c, h4⟩ => ?_) (fun i a b h1 h2 => ?_) q'
    · cases i with
      | zero => simp at h3
      | succ i =>
        cases j with
        | zero => simp at h4
        | succ j => exact congrArg Nat.succ (di i j a b (by simpa using h1) (by simpa using h2) (by simpa using h3) ⟨c, by simpa using h4⟩)
    · cases i with
      | zero => simp at h2
      | succ i => exact nh i a b (by simpa using h1) (by simpa using h2)
  | .f w :: r, σ, H, C, G, en, Q, E, Z, R, xo, q, k => by
    refine ⟨C, G, en, _, E, R, xo, q, fun a vs0 xs G1 H1 en1 R1 s1 h1 nw r1 q1 => ?_⟩
    have R2 := R1.hold h1 (fun _ z => nomatch z) nw.1 nw.2.1 nw.2.2.1
    refine ak_run r R2 (xo.unhold nw.2.2.2) q1 fun vs bs C' G' H' en' R' wk h0 hk s' pr di nh q' => ?_
    have hka : C'.hk a = some (.lst vs0) := hk _ _ upd_same
    refine k (.ref a :: vs) (.own xs :: bs) C' G' H' en' R' (fun R => (wk R).unhold nw.2.2.2) h0 (fun c u hc => hk c u (by show upd C.hk a _ c = some u; rw [upd_ne (ne_of_none hc nw.2.2.2)]; exact hc)) (s1.trans s') (.cons (show AkR K C' G' (.ref a) (.own xs) from ⟨a, vs0, rfl, hka, r1.mono s'⟩) pr) (fun i j c b g1 g2 g3 ⟨d, g4⟩ => ?_) (fun i c b g1 g2 => ?_) q'
    · cases i with
      | zero =>
        cases j with
        | zero => rfl
        | succ j =>
          simp at g1; subst g1
          have := nh j a d (by simpa using g2) (by simpa using g4)
          exact absurd this (by show upd C.hk a _ a ≠ none; rw [upd_same]; exact fun z => nomatch z)
      | succ i =>
        cases j with
        | zero =>
          simp at g2; subst g2
          have := nh i a b (by simpa using g1) (by simpa using g3)
          exact absurd this (by show upd C.hk a _ a ≠ none; rw [upd_same]; exact fun z => nomatch z)
        | succ j => exact congrArg Nat.succ (di i j c b (by simpa using g1) (by simpa using g2) (by simpa using g3) ⟨d, by simpa using g4⟩)
    · cases i with
      | zero => simp at g1; subst g1; exact nw.2.2.2
      | succ i =>
        have := nh i c b (by simpa using g1) (by simpa using g2)
        have z : upd C.hk a (.lst vs0) c = none := this
        by_cases e : c = a
        · subst e; exact nw.2.2.2
        · rw [upd_ne e] at z; exact z
/-- what names are given -/
def GvR (K : PySem.W.Frag) (C : Ctx) (G H : Hp) (v : V) : B → Prop
  | .d x => Rep K G v x
  | .own xs => ∃ a vs, v = .ref a ∧ H a = some (.lst vs) ∧ G a = none ∧ C.H0 a = none ∧ C.hk a = none ∧ Reps K G vs xs
  | _ => False
def setS (σ : L2.St) : List Nat → List V → L2.St
  | i :: is, v :: vs => setS (σ.set i (some v)) is vs
  | _, _ => σ
def setB (en : En) : List Nat → List B → En
  | i :: is, b :: bs => setB (en.set i (some b)) is bs
  | _, _ => en
theorem Free.set {σ : L2.St} {en : En} {a : Addr} {i : Nat} {w : Option V} {c : Option B} (f : Free H σ en a) (h : a ∉ fpB H (some w) (some c)) : Free H (σ.set i w) (en.set i c) a := fun j z => by
  by_cases e : i = j
  · subst e
    have z : a ∈ fpB H (σ.set i w)[i]? (en.sl.set i c)[i]? := z
    rw [List.getElem?_set, List.getElem?_set] at z
    simp only [if_true] at z
    by_cases l1 : i < σ.length
    · by_cases l2 : i < en.sl.length
      · rw [if_pos l1, if_pos l2] at z; exact h z
      · rw [if_pos l1, if_neg l2] at z; cases w <;> cases z
    · rw [if_neg l1] at z; cases z
  · have z : a ∈ fpB H (σ.set i w)[j]? (en.sl.set i c)[j]? := z
    rw [List.getElem?_set_ne e, List.getElem?_set_ne e] at z
    exact f j z
theorem give_all {C : Ctx} : ∀ (is : List Nat) {vs : List V} {bs : List B} {σ : L2.St} {en : En}, Rel K C G H σ en → Paired (GvR K C G H) vs bs → Dist vs bs → (∀ (k : Nat) (a : Addr) (xs : List D), vs[k]? = some (V.ref a) → bs[k]? = some (B.own xs) → Free H σ en a) → Rel K C G H (setS σ is vs) (setB en is bs)
  | [], vs, bs, σ, en, R, pr, di, fr => by cases pr <;> exact R
  | i :: is, _, _, σ, en, R, .nil, di, fr => R
  | i :: is, _, _, σ, en, R, .cons (a := v) (b := b) (l₁ := vs) (l₂ := bs) h pr, di, fr => by
    have di' : Dist vs bs := fun j k a c h1 h2 h3 ⟨d, h4⟩ => Nat.succ.inj (di (j + 1) (k + 1) a c (by simpa using h1) (by simpa using h2) (by simpa using h3) ⟨d, by simpa using h4⟩)
    cases b with
    | d x => exact give_all is (R.setD (b := .d x) ⟨v, rfl, h⟩ rfl) pr di' fun k a xs h1 h2 => (fr (k + 1) a xs (by simpa using h1) (by simpa using h2)).set fun z => nomatch z
    | own xs =>
      obtain ⟨a, vs0, rfl, h1, h2, h3, h4, h5⟩ := h
      refine give_all is (R.setO (b := .own xs) ⟨a, vs0, rfl, h1, h2, h3, h5⟩ rfl (fr 0 a xs (by simp) (by simp)) h4) pr di' fun k a2 xs2 g1 g2 => (fr (k + 1) a2 xs2 (by simpa using g1) (by simpa using g2)).set fun z => ?_
      cases List.mem_singleton.mp z
      exact absurd (di 0 (k + 1) a xs (by simp) (by simpa using g1) (by simp) ⟨xs2, by simpa using g2⟩) (by omega)
    | _ => exact h.elim
theorem ak_give {C C' : Ctx} {σ : L2.St} {en : En} {vs : List V} {bs : List B} (R' : Rel K C' G H σ en) (h0 : C'.H0 = C.H0) (nh : ∀ (i : Nat) (a : Addr) (b : List D), vs[i]? = some (V.ref a) → bs[i]? = some (B.own b) → C.hk a = none) (pr : Paired (AkR K C' G) vs bs) :
    Paired (GvR K C G H) vs bs ∧ (∀ (k : Nat) (a : Addr) (xs : List D), vs[k]? = some (V.ref a) → bs[k]? = some (B.own xs) → Free H σ en a) := by
  induction pr with
  | nil => exact ⟨.nil, fun k a xs h => by simp at h⟩
  | @cons v b vs bs h pr ih =>
    obtain ⟨i1, i2⟩ := ih fun i a c g1 g2 => nh (i + 1) a c (by simpa using g1) (by simpa using g2)
    cases b with
    | d x =>
      refine ⟨.cons (show GvR K C G H v (.d x) from h) i1, fun k a xs g1 g2 => ?_⟩
      cases k with
      | zero => simp at g2
      | succ k => exact i2 k a xs (by simpa using g1) (by simpa using g2)
    | own xs =>
      obtain ⟨a, vs0, rfl, h1, h2⟩ := h
      obtain ⟨d1, _, d2, d3, d4⟩ := R'.hkk a _ h1
      refine ⟨.cons (show GvR K C G H (.ref a) (.own xs) from ⟨a, vs0, rfl, d1, d2, h0 ▸ d3, nh 0 a xs (by simp) (by simp), h2⟩) i1, fun k a2 xs2 g1 g2 => ?_⟩
      cases k with
      | zero => simp at g1; subst g1; exact d4
      | succ k => exact i2 k a2 xs2 (by simpa using g1) (by simpa using g2)
    | _ => exact h.elim
/-- a, b = ..; a, b, c = .. -/
def sParK (is : List Nat) (ks : List AK) : WS := fun N en => akGo ks en (fun bs en1 => bs.length = is.length ∧ N.nx (setB en1 is bs)) N.ex
theorem ds_parK2 {i j : Nat} {k1 k2 : AK} (h : PS X st (tPar i j (tAKs X.K W [k1, k2]))) : DS X W st (sParK [i, j] [k1, k2]) := PS.of h fun D σ H ⟨C, G, en, N, R, xo, q, L⟩ => by
  refine ak_run _ R xo q fun vs bs C' G' H' en' R' wk h0 hk s' pr di nh q' => ?_
  obtain ⟨p1, p2⟩ := ak_give R' h0 nh pr
  have R2 := give_all [i, j] (wk R') p1 di p2
  have hl : vs.length = bs.length := Paired.length pr
  have hb : vs.length = 2 := hl.trans q'.1
  obtain ⟨v, u, rfl⟩ : ∃ v u, vs = [v, u] := by
    rcases vs with _ | ⟨v, _ | ⟨u, _ | ⟨t, r⟩⟩⟩ <;> first | exact ⟨_, _, rfl⟩ | (simp at hb; done) | (simp at hb; omega)
  exact ⟨v, u, rfl, L.nx _ _ _ _ R2 q'.2⟩
theorem ds_parK3 {i j l : Nat} {k1 k2 k3 : AK} (h : PS X st (tPar3 i j l (tAKs X.K W [k1, k2, k3]))) : DS X W st (sParK [i, j, l] [k1, k2, k3]) := PS.of h fun D σ H ⟨C, G, en, N, R, xo, q, L⟩ => by
  refine ak_run _ R xo q fun vs bs C' G' H' en' R' wk h0 hk s' pr di nh q' => ?_
  obtain ⟨p1, p2⟩ := ak_give R' h0 nh pr
  have R2 := give_all [i, j, l] (wk R') p1 di p2
  have hl : vs.length = bs.length := Paired.length pr
  have hb : vs.length = 3 := hl.trans q'.1
  obtain ⟨v, u, t, rfl⟩ : ∃ v u t, vs = [v, u, t] := by
    rcases vs with _ | ⟨v, _ | ⟨u, _ | ⟨t, _ | ⟨t2, r⟩⟩⟩⟩ <;> first | exact ⟨_, _, _, rfl⟩ | (simp at hb; done) | (simp at hb; omega)
  exact ⟨v, u, t, rfl, L.nx _ _ _ _ R2 q'.2⟩
/-- x += e, ints -/
def sAug (i : Nat) (f : Int → Int → Int) (w : WE) : WS := fun N en => match en.sl[i]? with
  | some (some (.d (.int a))) => w en (fun y en1 => match y with | .int b => N.nx (en1.set i (some (.d (.int (f a b))))) | _ => False) N.ex
  | _ => False
theorem ds_aug {i : Nat} {f : Int → Int → Int} (h : PS X st (tAug i (Rl X.K W w) (ipI f))) : DS X W st (sAug i f w) := PS.of h fun D σ H ⟨C, G, en, N, R, xo, q, L⟩ => by
  unfold sAug at q
  split at q
  · rename_i a e
    obtain ⟨v, e1, u, e2, r⟩ := R.var e
    cases e2; cases r
    refine ⟨_, e1, C, G, en, _, _, R, xo, q, fun v x G1 H1 en1 R1 s1 r1 q1 => ?_⟩
    cases r1 with
    | int b => exact ⟨a, b, rfl, rfl, L.nx G1 H1 _ _ (R1.setD (b := .d _) ⟨_, rfl, .int _⟩ rfl) q1⟩
    | _ => exact q1.elim
  · exact q.elim
/-! ### in -/
def D.flat : D → Bool
  | .non => true
  | .bl _ => true
  | .int _ => true
  | .str _ => true
  | _ => false
def D.feq : D → D → Bool
  | .non, .non => true
  | .bl a, .bl b => a == b
  | .bl a, .int b => (if a then 1 else 0) == b
  | .int a, .bl b => a == (if b then 1 else 0)
  | .int a, .int b => a == b
  | .str a, .str b => a == b
  | _, _ => false
def inD (x : D) (xs : List D) : Bool := xs.any fun y => D.feq y x
theorem Rep.flat {v : V} {x : D} (h : Rep K G v x) (e : x.flat = true) : flatV v = true := by cases h <;> first | rfl | cases e
theorem Rep.feq {v u : V} {x y : D} (h : Rep K G v x) (h2 : Rep K G u y) (e : x.flat = true) (e2 : y.flat = true) : eqV v u = D.feq x y := by
  cases h <;> first | (cases e; done) | (cases h2 <;> first | rfl | (cases e2; done))
theorem Reps.flatV : ∀ {vs : List V} {xs : List D}, Reps K G vs xs → xs.all D.flat = true → vs.all L2.flatV = true
  | _, _, .nil, _ => rfl
  | _, _, .cons h r, e => by
    rw [List.all_cons, Bool.and_eq_true] at e ⊢
    exact ⟨h.flat e.1, Reps.flatV r e.2⟩
theorem Reps.inV {u : V} {y : D} (hu : Rep K G u y) (fy : y.flat = true) : ∀ {vs : List V} {xs : List D}, Reps K G vs xs → xs.all D.flat = true → L2.inV u vs = inD y xs
  | _, _, .nil, _ => rfl
  | _, _, .cons h r, e => by
    rw [List.all_cons, Bool.and_eq_true] at e
    have ih := Reps.inV hu fy r e.2
    unfold L2.inV inD at ih ⊢
    rw [List.any_cons, List.any_cons, ih, h.feq hu e.1 fy]
def oIn (neg : Bool) : O2 := fun x y Q => match x, y with
  | x, .lst xs => x.flat = true ∧ xs.all D.flat = true ∧ Q (.bl (if neg then !inD x xs else inD x xs))
  | x, .tup xs => x.flat = true ∧ xs.all D.flat = true ∧ Q (.bl (if neg then !inD x xs else inD x xs))
  | .str c, .str z => (match c.cps.toList with | [c] => Q (.bl (if neg then !decide (c ∈ z.cps.toList) else decide (c ∈ z.cps.toList))) | _ => False)
  | x, .dic kvs => (match keyD x with | some k => Q (.bl (if neg then !(valD kvs k).isSome else (valD kvs k).isSome)) | none => False)
  | _, _ => False
def rInD (neg : Bool) : R2 := fun x y H Q => ∃ a o, y = .ref a ∧ DGet H a x o ∧ Q (.bl (if neg then !o.isSome else o.isSome)) H
theorem op_in_dict (hu : X.A.units + 1 < cLine) : OpR X (compareOp .In) (rInD false) := fun pins s σ H x y v u Q I rx ry h => by
  obtain ⟨a, o, rfl, g, q⟩ := h
  obtain rfl : u = Value.ref a := ry
  exact d_in hu I g rx fun s3 I3 => ⟨.bl o.isSome, H, I3, rfl, q⟩
theorem op_notIn_dict (hu : X.A.units + 1 < cLine) : OpR X (compareOp .NotIn) (rInD true) := fun pins s σ H x y v u Q I rx ry h => by
  obtain ⟨a, o, rfl, g, q⟩ := h
  obtain rfl : u = Value.ref a := ry
  exact d_notIn hu I g rx fun s3 I3 => ⟨.bl (!o.isSome), H, I3, rfl, q⟩
theorem RepK.isSome {vs : List (Key × V)} {xs : List (Key × D)} {k : Key} (h : RepK K G vs xs) : (valV vs k).isSome = (valD xs k).isSome := by
  cases q2 : valD xs k with
  | none => rw [(h.val (k := k)).2 q2]; rfl
  | some z => obtain ⟨v2, e3, _⟩ := (h.val (k := k)).1 z q2; rw [e3]; rfl
def rSign (neg : Bool) : R2 := fun x y H Q => ∃ (c : Nat) (z : Str), x = .str ⟨#[c]⟩ ∧ y = .str z ∧ Q (.bl (if neg then !decide (c ∈ z.cps.toList) else decide (c ∈ z.cps.toList))) H
theorem rd_in (neg : Bool) : RD2 K (fun x y H Q => rIn K neg x y H Q ∨ rSign neg x y H Q ∨ rInD neg x y H Q) (oIn neg) := fun G H v u x y Q Z s r1 r2 q k => by
  unfold oIn at q
  split at q
  · cases r2 with
    | lst h1 h2 => exact .inl ⟨_, _, rfl, .inl (SqL.of (s _ _ h1)), r1.flat q.1, h2.flatV q.2.1, by rw [h2.inV r1 q.1 q.2.1]; exact k _ _ G H (Gr.refl s) (.bl _) q.2.2⟩
  · cases r2 with
    | tup h1 h2 => exact .inl ⟨_, _, rfl, .inr (Same.tup s h1), r1.flat q.1, h2.flatV q.2.1, by rw [h2.inV r1 q.1 q.2.1]; exact k _ _ G H (Gr.refl s) (.bl _) q.2.2⟩
  · cases r1; cases r2
    rename_i c z
    split at q
    · rename_i c' e
      have e2 : c = ⟨#[c']⟩ := by
        cases c with
        | mk l => congr 1; apply Array.ext'; simpa using e
      subst e2
      exact .inr (.inl ⟨c', z, rfl, rfl, k _ _ G H (Gr.refl s) (.bl _) q⟩)
    · exact q.elim
  · cases r2 with
    | @dic _ vs xs h1 h2 =>
      split at q
      · rename_i k' e
        refine .inr (.inr ⟨_, valV vs k', rfl, by rw [r1.key e]; exact DGet.k (s _ _ h1), ?_⟩)
        rw [h2.isSome]
        exact k _ _ G H (Gr.refl s) (.bl _) q
      · exact q.elim
  · exact q.elim
theorem op_inD (hu : X.A.units + 1 < cLine) : OpD X (compareOp .In) (oIn false) := ⟨_, OpR.or op_in_seq (OpR.or op_in_sign (op_in_dict hu)), rd_in false⟩
theorem op_notInD (hu : X.A.units + 1 < cLine) : OpD X (compareOp .NotIn) (oIn true) := ⟨_, OpR.or op_notIn_seq (OpR.or op_notIn_sign (op_notIn_dict hu)), rd_in true⟩
/-- a def, as its callers want it -/
structure CalX (P : Program) (w : World) (K : PySem.W.Frag) (mg : Str → Option Value) (base : Heap) (k : Nat) (f : Addr) (fd : FuncData) (ps : List Str) (sp : Sp) : Prop where
  F : FnOk P w K mg base (L2.CX P w) k f fd ps sp
  kp : PySem.W.keepIn K (.ref f) = true
  b : Binds K fd ps []
end
end KD

/-! Star arguments, texts of values. -/
namespace KD
open PySem PySem.Spec PyProof.Rows L2 KP
section
variable {X : Cx} {W : WX} {e a b : Expr} {es : List Expr} {w wa wb : WE} {r : WA} {p pos apos : Pos} {K : PySem.W.Frag} {G H : Hp} {x : Str} {st : Stmt}
def oStr : OC := fun xs Q => match xs with
  | [.str z] => Q (.str z)
  | [.int i] => i.natAbs.log2 < 1920 ∧ Q (.str (toString i))
  | _ => False
theorem call_strDD : CallD X (.type "str") oStr := ⟨_, CallR.or SkE.call_str_str call_str_int, fun G H vs xs Q Z s r q k => by
  unfold oStr at q
  split at q
  · obtain ⟨v, rfl, rv⟩ := reps1 r
    cases rv
    exact .inl ⟨_, rfl, k _ _ G H (Gr.refl s) (.str _) q⟩
  · obtain ⟨v, rfl, rv⟩ := reps1 r
    cases rv
    exact .inr ⟨_, rfl, q.1, k _ _ G H (Gr.refl s) (.str _) q.2⟩
  · exact q.elim⟩
/-- *e: a list or a tuple -/
def starD : D → Option (List D)
  | .lst xs => some xs
  | .tup xs => some xs
  | _ => none
theorem Rep.star {v : V} {x : D} {xs : List D} (h : Rep K G v x) (e : starD x = some xs) (s : Same G H) : ∃ a vs, v = .ref a ∧ (SqT K H a vs ∨ SqL K H a vs) ∧ Reps K G vs xs := by
  cases h with
  | lst h1 h2 => cases e; exact ⟨_, _, rfl, .inr (SqL.of (s _ _ h1)), h2⟩
  | tup h1 h2 => cases e; exact ⟨_, _, rfl, .inl (Same.tup s h1), h2⟩
  | _ => cases e
def aStar (w : WE) (r : WA) : WA := fun en Q E => w en (fun x en1 => match starD x with
  | some xs => r en1 (fun bs en2 => Q (xs.map B.d ++ bs) en2) E
  | none => False) E
theorem da_star (ha : DE X W e w) (hr : DA X W es r) (hs : starEach (.Starred e p :: es) X.env = (true, eval e X.env) :: starEach es X.env := by rfl) : DA X W (.Starred e p :: es) (aStar w r) := PA.of (StX.pa_star ha hr hs) fun σ H Z ⟨C, G, en, Q, E, R, xo, q, k⟩ => by
  refine ⟨C, G, en, _, E, R, xo, q, fun v x G1 H1 en1 R1 s1 r1 q1 => ?_⟩
  split at q1
  · rename_i xs e0
    obtain ⟨a, vs, rfl, hq, rr⟩ := r1.star e0 R1.sub
    exact ⟨a, vs, rfl, hq, C, G1, en1, _, E, R1, xo, q1, fun ws bs G2 H2 en2 R2 s2 r2 q2 => k _ _ G2 H2 en2 R2 (s1.trans s2) ((reps_args (rr.mono s2)).append r2) q2⟩
  · exact q1.elim
/-- f(*e) -/
theorem d_callS1 {sp_ : Pos} {k : Nat} {f : Addr} {fd : FuncData} {ps : List Str} {Wd : WD} (F : FnOk X.prog X.w X.K X.mg X.base (L2.CX X.prog X.w) k f fd ps (Pr X.K Wd)) (hr : Room k X.A) (hg : Gl X x) (hm : X.mg x = some (.ref f)) (hk : PySem.W.keepIn X.K (.ref f) = true) (hb : Binds X.K fd ps []) (tk : Takes X W) (he : DE X W e w)
    (hd : (x == ("__debug__" : Str)) = false := by decide) (hst : starEach [.Starred e sp_] X.env = [(true, eval e X.env)] := by rfl) :
    DE X W (.Call (.Name x p) [.Starred e sp_] [] pos) (eCall Wd (aStar w aNil)) := by
  refine ⟨fun pins s σ H Z I h => ?_⟩
  refine wpAny_Call_Name_kw (ld_glob I hg hm ?_ hd)
  obtain ⟨C, G, en, Q, E, R, xo, q, k⟩ := h
  have h1 : Rl X.K W w σ H (fun y H1 => ∃ a xs, y = V.ref a ∧ (SqT X.K H1 a xs ∨ SqL X.K H1 a xs) ∧ Pr X.K Wd xs H1 Z (L2.WE W σ)) :=
    ⟨C, G, en, _, E, R, xo, q, fun v x G1 H1 en1 R1 s1 r1 q1 => by
      split at q1
      · rename_i xs e0
        obtain ⟨a, vs, rfl, hq, rr⟩ := r1.star e0 R1.sub
        refine ⟨a, vs, rfl, hq, pr_of R1 xo (reps_args rr) (by simpa [aNil] using q1) fun v y G' H' en' R' s' r' q' => k v y G' H' en' R' (s1.trans s') r' q'⟩
      · exact q1.elim⟩
  refine PySem.W.callWith_S (h₀ := X.base) I.ok.mod.kin hk (thn (he.run pins s σ H _ I h1) fun v s1 ⟨y, H1, I1, ry, a, xs, ey, hxs, q⟩ => ?_) hst
  subst ey
  obtain rfl : v = Value.ref a := ry
  refine StX.star_any I1 hxs fun us s2 I2 rv => ⟨I2.kIn, ?_⟩
  exact run_fnSD (dvs := []) (ds := []) (E := L2.WE W) F hr hb .nil (passAt tk σ) I2 rv (by simpa using q)
end
end KD

/-! Defs that repr: where no repr is under way. -/
namespace KD
open PySem PySem.Spec PyProof.Rows L2 KP
structure FnH (P : Program) (w : World) (K : PySem.W.Frag) (mg : Str → Option Value) (base : Heap) (CX : CXT) (k : Nat) (f : Addr) (fd : FuncData) (ps : List Str) (sp : Sp) : Prop where
  lenG : ∀ vs H Q E, sp vs H Q E → vs.length = ps.length
  runG : ∀ (A : Around) (out : List Env) (s : Shared) (H : Hp) (ar : Args) (us : List Value) (vs : List V) (Q : VK) (E : XK), A.guards = some [] → Room k A → Env0 P w K mg base A out s H →
    BindsTo s fd ar (ps.zip us) → Vals vs us → sp vs H Q E → codeAny (model P w) A (.call (.ref f) ar) (CR CX out P w H s Q E) s
section
variable {P : Program} {w : World} {K : PySem.W.Frag} {mg : Str → Option Value} {base : Heap} {k : Nat} {f : Addr} {fd : FuncData} {ps : List Str} {sp : Sp} {CX : CXT} {x qual : Str} {pm : Arguments} {bd : List Stmt} {sc : Scope} {dvs : List V} {kws : List (Str × V)} {N : List Str}
theorem FnH.mk' (F : FunD K x qual pm bd sc dvs kws f fd) (S : FnScope N ps sc) (ln : ∀ vs H Q E, sp vs H Q E → vs.length = ps.length)
    (hbody : ∀ (cdv : Value) (A : Around) (out : List Env) (s : Shared) (H : Hp) (vs : List V) (Q : VK) (E : XK), A.guards = some [] → Room k (A.deeper (envOfC qual sc s.heap.objs.size f cdv)) → sp vs H Q E →
      ∃ t, PSs (cxOf CX P w K mg base N qual sc f cdv A out s H E) bd t ∧ t { nx := fun _ H' => Q .non H', rt := Q } (start N vs) H) : FnH P w K mg base CX (k + 1) f fd ps sp := by
  obtain ⟨oc, od, dV, kV, doc, pmv, an, cdv, ct, osl, rfl, lk, hcd, _, _⟩ := F.ex
  refine ⟨ln, fun A out s H ar us vs Q E gd rm en bn rel hsp => ?_⟩
  have len1 := ln _ _ _ _ hsp
  have Kin : K.In s.heap := en.mod.kin.keeps fun b o z => (en.bs b o z).1
  have lim1 : s.heap.NoLimit := en.mod.nolimit.keeps fun b o z => (en.bs b o z).1
  refine codeAny_call_function rm.depth (Kin _ _ lk) rfl S.co S.gen rfl (PySem.W.codeRec_of Kin hcd) (bn _ _ _ _ ?_)
  refine wpAny_newFunctionEnv_cells S.kind (fun ⟨n, v⟩ hy => ?_) fun env he s1 x => ?_
  · rcases S.par n (List.of_mem_zip hy).1 with z | z
    · exact .inl z
    · exact .inr ⟨z, PySem.W.cellsFrom_some _ _ _ (.inl z)⟩
  subst he
  refine ⟨lim1.keeps x.toInCall.keep, codeAny_func ?_⟩
  obtain ⟨t, ht, hq⟩ := hbody cdv A out s H vs Q E gd (rm.deeper _) hsp
  have J0 := inv_start (CX := CX) (E := E) S rm.hd en len1 rel x
  refine wpAny_mono (ht.run [] s1 (start N vs) H _ J0 hq) (fun fl s2 hs => ?_) fun e s2 hs => hs
  cases fl with
  | ret u =>
    obtain ⟨v, _, H2, J, rv, z⟩ := hs
    exact ⟨v, H2, J.os, J.bare, J.base, J.hok, rv, z⟩
  | next =>
    obtain ⟨_, H2, J, z⟩ := hs
    exact ⟨.non, H2, J.os, J.bare, J.base, J.hok, rfl, z⟩
  | brk =>
    obtain ⟨_, _, _, z⟩ := hs
    exact z.elim
  | cont =>
    obtain ⟨_, _, _, z⟩ := hs
    exact z.elim
theorem def_okG {wb : WS} (F : FunD K x qual pm bd sc dvs kws f fd) (S : FnScope N ps sc)
    (hbody : ∀ (cdv : Value) (A : Around) (outer : List Env) (s : Shared) (H : Hp) (E : XK), (A.deeper (envOfC qual sc s.heap.objs.size f cdv)).guards = some [] → Room k (A.deeper (envOfC qual sc s.heap.objs.size f cdv)) →
      Takes (cxOf (L2.CX P w) P w K mg base N qual sc f cdv A outer s H E) (fun cls d _ H => E cls d H) →
      DSs (cxOf (L2.CX P w) P w K mg base N qual sc f cdv A outer s H E) (fun cls d _ H => E cls d H) bd wb) : FnH P w K mg base (L2.CX P w) (k + 1) f fd ps (Pr K (runD ps.length N.length wb)) := by
  refine FnH.mk' F S (fun vs H Q E ⟨π, G, b, bs, Q', EQ, _, _, ar, wq, _⟩ => ar.length.trans wq.1) fun cdv A outer s H vs Z E gd hr ⟨π, G, b, bs, Q, EQ, sg, hp, ar, wq, kq, ke⟩ => ?_
  refine ⟨_, hbody cdv A outer s H E gd hr (takes_of rfl rfl rfl rfl), ⟨⟨π, [], G, fun _ => none, G, H⟩, G, _, _, Rel.start sg hp ar N.length, fun y en σ G' H' cls od R rx q => ke cls od y G' H' en.b R.fr rx q, wq.2, ⟨fun G' H' σ en R q => kq .non .non G' H' en.b R.fr .non q, fun v y G' H' σ en R r q => kq v y G' H' en.b R.fr r q, fun _ _ _ _ _ q => q.elim, fun _ _ _ _ _ q => q.elim⟩⟩⟩
/-- such a def, as its callers want it -/
structure CalG (P : Program) (w : World) (K : PySem.W.Frag) (mg : Str → Option Value) (base : Heap) (k : Nat) (f : Addr) (fd : FuncData) (ps : List Str) (sp : Sp) : Prop where
  F : FnH P w K mg base (L2.CX P w) k f fd ps sp
  kp : PySem.W.keepIn K (.ref f) = true
  b : Binds K fd ps []
end
section
variable {X : Cx} {W : WX} {e o : Expr} {es : List Expr} {w : WE} {r : WA} {p pos apos : Pos} {x m : Str} {k : Nat} {f : Addr} {fd : FuncData} {ps : List Str} {Wd : WD} {CX : CXT} {sp : Sp} {dvs : List V} {ds : List Value} {E : L2.St → XK} {t : TA}
theorem run_fnH {pins : List (Addr × Obj)} {σ : L2.St} {H : Hp} {s : Shared} {Q : VK} {us : List Value} {vs : List V} (F : FnH X.prog X.w X.K X.mg X.base CX k f fd ps sp) (gd : X.A.guards = some []) (hr : Room k X.A) (hb : Binds X.K fd ps ds) (hd : Vals dvs ds) (hx : PassesAt CX X σ (E σ))
    (I : Inv X pins σ H s) (r : Vals vs us) (h : sp (vs ++ dvs) H Q (E σ)) : wpAny (model X.prog X.w) X.A (call (.ref f) us) (EP X pins σ Q) X.xe s := by
  have r2 : Vals (vs ++ dvs) (us ++ ds) := r.append hd
  have hl : (us ++ ds).length = ps.length := by rw [← r2.length]; exact F.lenG _ _ _ _ h
  refine wpAny_call (codeAny_mono (F.runG X.A X.stack s H ⟨us, []⟩ (us ++ ds) (vs ++ dvs) Q (E σ) gd hr I.env0 (hb s us I.kIn hl) r2 h) fun r s' hq => ?_)
  cases r with
  | error e => exact hx pins H s e s' I hq
  | ok fl =>
    cases fl with
    | ret u => exact I.after hq
    | next => exact False.elim hq
    | brk => exact False.elim hq
    | cont => exact False.elim hq
theorem pe_callH (F : FnH X.prog X.w X.K X.mg X.base CX k f fd ps sp) (gd : X.A.guards = some []) (hr : Room k X.A) (hg : Gl X x) (hm : X.mg x = some (.ref f)) (hk : PySem.W.keepIn X.K (.ref f) = true) (hb : Binds X.K fd ps ds) (hd : Vals dvs ds) (hx : ∀ σ, PassesAt CX X σ (E σ))
    (ha : PA X (e :: es) t) (hdb : (x == ("__debug__" : Str)) = false := by decide) (he : starEach (e :: es) X.env = (false, eval e X.env) :: starEach es X.env := by rfl) (hpl : (backTo pos (starEach es X.env)).any (·.1) = false := by rfl) :
    PE X (.Call (.Name x p) (e :: es) [] pos) (tCallSD sp dvs E t) := by
  refine ⟨fun pins s σ H Q I h => ?_⟩
  refine wpAny_Call_Name_kw (ld_glob I hg hm ?_ hdb)
  refine PySem.W.callWith_K (h₀ := X.base) I.ok.mod.kin hk (thn (ha.run pos pins s σ H _ I h) fun us s1 ⟨vs, H1, I1, r, q⟩ => ⟨I1.kIn, ?_⟩) he hpl
  exact run_fnH F gd hr hb hd (hx σ) I1 r q
theorem d_callG (F : FnH X.prog X.w X.K X.mg X.base (L2.CX X.prog X.w) k f fd ps (Pr X.K Wd)) (gd : X.A.guards = some []) (hr : Room k X.A) (hg : Gl X x) (hm : X.mg x = some (.ref f)) (hk : PySem.W.keepIn X.K (.ref f) = true) (hb : Binds X.K fd ps []) (tk : Takes X W)
    (ha : DA X W (e :: es) r) (hdb : (x == ("__debug__" : Str)) = false := by decide) (he : starEach (e :: es) X.env = (false, eval e X.env) :: starEach es X.env := by rfl) (hpl : (backTo pos (starEach es X.env)).any (·.1) = false := by rfl) :
    DE X W (.Call (.Name x p) (e :: es) [] pos) (eCall Wd r) := PE.of (pe_callH (E := L2.WE W) F gd hr hg hm hk hb .nil (fun σ => passAt tk σ) ha hdb he hpl) fun σ H Z ⟨C, G, en, Q, E, R, xo, q, k⟩ => by
  refine ⟨C, G, en, _, E, R, xo, q, fun vs bs G1 H1 en1 R1 s1 r1 q1 => ?_⟩
  show Pr X.K Wd (vs ++ []) H1 Z (L2.WE W σ)
  rw [List.append_nil]
  exact pr_of R1 xo r1 q1 fun v y G' H' en' R' s' r' q' => k v y G' H' en' R' (s1.trans s') r' q'
end
end KD

/-! Operators that are methods of own classes. -/
namespace KD
open PySem PySem.Spec PyProof.Rows L2 KP
section
variable {M : Model} {h : Heap} {K : PySem.W.Frag} {C f : Addr} {nm : String}
theorem nsip_K (X : K.In h) (hs : PySem.W.findIn K (.ref C) (PySem.dunder nm) = some (some (.ref f))) (hr : PySem.W.findIn K (.ref C) (dunderR nm) = some none) : PySem.W.Looks M h (numberSlotInPython (.ref C) nm) true := by
  intro A Q E s k q
  unfold numberSlotInPython
  refine wpAny_bind (PySem.W.looks_findIn X hs A _ E s k ?_)
  refine wpAny_bind (wpAny_pure ?_)
  refine wpAny_bind (PySem.W.looks_findIn X hr A _ E s k ?_)
  refine wpAny_bind (wpAny_pure ?_)
  rw [if_pos (by rfl)]
  exact wpAny_pure q
end
section
variable {prog : Program} {w : World} {A : Around} {E : Value → Shared → Prop} {s : Shared} {K : PySem.W.Frag} {x C L f : Addr} {h₀ : Heap} {m : Str → Option Value} {ox : Obj} {od : Option Obj}
/-- x op b, b of another type: its class's slot is asked for first, to no end -/
theorem binop2_K {op : Operator} {b tb : Value} {r q : Bool} {rr : Option Value} {Q : Value → Shared → Prop} (X : K.In s.heap) (I : PySem.W.InstAt s.heap x ox C od) (hb : PySem.W.Looks (model prog w) s.heap (typeOf b) tb) (hne : (Value.ref C == tb) = false) (hc : PySem.W.selfFirst K C = true)
    (hs : PySem.W.findIn K (.ref C) (PySem.dunder op.info.2) = some (some (.ref f))) (hr : PySem.W.findIn K (.ref C) (dunderR op.info.2) = some none) (hf : PySem.W.isFn K (.ref f) = true)
    (hfl : PySem.W.Looks (model prog w) s.heap (fillsNumberSlot tb op.info.2) r) (hsub : PySem.W.Looks (model prog w) s.heap (isSubtype tb (.ref C)) false) (hin : PySem.W.Looks (model prog w) s.heap (numberSlotInPython tb op.info.2) q) (hrr : PySem.W.Looks (model prog w) s.heap (typeLookup tb (dunderR op.info.2)) rr)
    (h : wpAny (model prog w) A (call (.ref f) [.ref x, b]) (PySem.W.CmpBack Q) E s) : wpAny (model prog w) A (binaryOp op (.ref x) b) Q E s := by
  obtain ⟨cd, hcd, hm⟩ := PySem.W.any_some hc
  obtain ⟨rest, hm⟩ : ∃ rest, cd.mro = .ref C :: rest := by
    cases q : cd.mro with
    | nil => rw [q] at hm; cases hm
    | cons a r => rw [q] at hm; exact ⟨r, by rw [List.head?_cons] at hm; cases (beq_iff_eq.mp hm); rfl⟩
  have fin : ∀ {α : Type} {k : Option Value → Sem α} {R : α → Shared → Prop}, (∀ v s', Q v s' → wpAny (model prog w) A (k (some v)) R E s') → wpAny (model prog w) A (tryMethod (.ref x) (PySem.dunder op.info.2) b >>= k) R E s := by
    intro α k R hk
    refine wpAny_bind ?_
    unfold tryMethod
    refine wpAny_bind (PySem.W.special_fn X I hs (beq_iff_eq.mp hf) (wpAny_mono h (fun v s' hv => ?_) fun _ _ e => e))
    cases v <;> first | exact hv.elim | exact wpAny_pure (hk _ _ hv)
  unfold binaryOp
  refine wpAny_holding (wpAny_bind ?_)
  unfold binaryOp1
  refine wpAny_bind (I.type.here (wpAny_bind (hb.here (wpAny_bind ((PySem.W.fills_K X hcd hm hs).here ?_)))))
  simp only [hne, Bool.false_eq_true, if_false]
  refine wpAny_bind (hfl.here ?_)
  cases r with
  | false =>
    simp only [Bool.and_false, Bool.false_eq_true, if_false, Bool.false_and, pure_bind, if_true]
    exact fin fun v s' hq => wpAny_pure (wpAny_pure hq)
  | true =>
    simp only [Bool.and_self, if_true]
    refine wpAny_bind (hsub.here ?_)
    simp only [Bool.false_eq_true, if_false, pure_bind, Bool.not_false, Bool.and_self, if_true]
    refine wpAny_bind ((nsip_K X hs hr).here ?_)
    simp only [if_true]
    refine wpAny_bind (hin.here ?_)
    cases q with
    | true =>
      simp only [Bool.not_true, Bool.false_eq_true, if_false, pure_bind]
      exact fin fun v s' hq => wpAny_pure (wpAny_pure hq)
    | false =>
      simp only [Bool.not_false, if_true]
      refine wpAny_bind (hrr.here ?_)
      exact fin fun v s' hq => wpAny_pure (wpAny_pure hq)
end
section
variable {X : Cx} {W : WX} {e a b : Expr} {w wa wb : WE} {r : WA} {p pos apos : Pos} {x m : Str} {k : Nat} {f : Addr} {fd : FuncData} {ps : List Str} {Wd : WD} {cn : Str}
def eOwn2 (cn : Str) (ok : D → Bool) (Wd : WD) (wa wb : WE) : WE := fun en Q E => wa en (fun x en1 => wb en1 (fun y en2 => match x with
  | .obj c fs => c = cn ∧ ok y = true ∧ Wd [.d (.obj c fs), .d y] en2.b (fun z b' => Q z { en2 with b := b' }) (fun z b' => E z { en2 with b := b' })
  | _ => False) E) E
def eOwn1 (cn : Str) (Wd : WD) (wa : WE) : WE := fun en Q E => wa en (fun x en1 => match x with
  | .obj c fs => c = cn ∧ Wd [.d (.obj c fs)] en1.b (fun z b' => Q z { en1 with b := b' }) (fun z b' => E z { en1 with b := b' })
  | _ => False) E
theorem ep_back {pins : List (Addr × Obj)} {σ : L2.St} {Z : VK} {u : Value} {s' : Shared} (h : EP X pins σ Z u s') : PySem.W.CmpBack (EP X pins σ Z) u s' := by
  obtain ⟨v, H', I', rv, q⟩ := h
  have h2 : EP X pins σ Z u s' := ⟨v, H', I', rv, q⟩
  cases v <;> first | (cases rv; exact h2) | (obtain ⟨t, rfl⟩ := rv; exact h2)
/-- the type of a plain value -/
def tyP : D → Option String
  | .int _ => some "int"
  | .str _ => some "str"
  | .bl _ => some "bool"
  | .non => some "NoneType"
  | _ => none
theorem ty_looks {K : PySem.W.Frag} {G : Hp} {v : V} {u : Value} {y : D} {T : String} {P : Program} {w : World} {h : Heap} (r : Rep K G v y) (rv : RelV v u) (e : tyP y = some T) : PySem.W.Looks (model P w) h (typeOf u) (.type T) := by
  cases r with
  | int i => cases e; obtain ⟨t, rfl⟩ := rv; exact PySem.W.Looks.of_pure rfl
  | str i => cases e; obtain ⟨t, rfl⟩ := rv; exact PySem.W.Looks.of_pure rfl
  | bl i => cases e; cases rv; exact PySem.W.Looks.of_pure rfl
  | non => cases e; cases rv; exact PySem.W.Looks.of_pure rfl
  | _ => cases e
def okT (T : String) (y : D) : Bool := tyP y == some T
/-- own op plain value -/
theorem d_binT {op : Operator} {T : String} {l : List Value} {r : Bool} {rr : Option Value} (ha : DE X W a wa) (hb : DE X W b wb) (hm : Meth X.K (He.ga X.K cn) (PySem.dunder op.info.2) f) (hr : NoAttr X.K (He.ga X.K cn) (dunderR op.info.2)) (sf : PySem.W.selfFirst X.K (He.ga X.K cn) = true) (hl : fastBuiltinMro T = some l)
    (hlc : (l.all fun v => match v with | .type _ => true | _ => false) = true) (hfl : fillsNumberSlot (.type T) op.info.2 = pure r) (hin : numberSlotInPython (.type T) op.info.2 = pure false) (hrr : typeLookup (.type T) (dunderR op.info.2) = pure rr)
    (F : FnOk X.prog X.w X.K X.mg X.base (L2.CX X.prog X.w) k f fd ps (Pr X.K Wd)) (hroom : Room k X.A) (hbd : Binds X.K fd ps []) (tk : Takes X W) : DE X W (.BinOp a op b pos) (eOwn2 cn (okT T) Wd wa wb) := by
  refine ⟨fun pins s σ H Z I h => ?_⟩
  obtain ⟨C, G, en, Q, E, R, xo, q, kk⟩ := h
  refine wpAny_BinOp (binT ha hb I (R := fun x y H2 => ∃ G2 en2 dx dy, Rel X.K C G2 H2 σ en2 ∧ Same G G2 ∧ Rep X.K G2 x dx ∧ Rep X.K G2 y dy ∧ (match dx with
      | .obj c fs => c = cn ∧ okT T dy = true ∧ Wd [.d (.obj c fs), .d dy] en2.b (fun z b' => Q z { en2 with b := b' }) (fun z b' => E z { en2 with b := b' })
      | _ => False)) ?_ fun v u s2 x y H2 I2 rx ry q2 => ?_)
  · refine ⟨C, G, en, _, E, R, xo, q, fun v x G1 H1 en1 R1 s1 r1 q1 => ?_⟩
    exact ⟨C, G1, en1, _, E, R1, xo, q1, fun u y G2 H2 en2 R2 s2 r2 q2 => ⟨G2, en2, x, y, R2, s1.trans s2, r1.mono s2, r2, q2⟩⟩
  · obtain ⟨G2, en2, dx, dy, R2, s2', r1, r2, q2⟩ := q2
    cases r1 with
    | @obj a0 dx0 c0 vs0 xs0 h1 h2 =>
      obtain ⟨ec, ok, q2⟩ := q2
      subst ec
      obtain rfl : v = Value.ref _ := rx
      obtain ⟨mA, J, _⟩ := ins_get I2.hok (R2.sub _ _ h1)
      obtain ⟨od, J, _⟩ := J.look
      have hsub : PySem.W.subIn X.K (.type T) (.ref (He.ga X.K c0)) = some false := by
        show (fastBuiltinMro T).map (fun l => l.contains (Value.ref (He.ga X.K c0))) = some false
        rw [hl]
        show some _ = some false
        congr 1
        show l.contains (Value.ref (He.ga X.K c0)) = false
        rw [List.contains_eq_any_beq, List.any_eq_false]
        intro z hz
        have := List.all_eq_true.mp hlc z hz
        intro q
        rw [← beq_iff_eq.mp q] at this
        exact Bool.false_ne_true this
      have hT : tyP dy = some T := beq_iff_eq.mp ok
      refine binop2_K I2.kIn J (ty_looks r2 ry hT) rfl sf hm.at_ hr hm.fn (PySem.W.Looks.of_pure hfl) (PySem.W.looks_subIn I2.kIn hsub) (PySem.W.Looks.of_pure hin) (PySem.W.Looks.of_pure hrr) ?_
      refine wpAny_mono (run_fnSD (dvs := []) (ds := []) (E := L2.WE W) (Q := Z) (us := [.ref _, u]) (vs := [.ref _, y]) F hroom hbd .nil (passAt tk σ) I2 (.cons rfl (.cons ry .nil)) ?_) (fun _ _ h => ep_back h) fun _ _ h => h
      exact pr_of R2 xo (.cons (argd (Rep.obj h1 h2)) (.cons (argd r2) .nil)) q2 fun v y G' H' en' R' s' r' q' => kk v y G' H' en' R' (s2'.trans s') r' q'
    | _ => exact q2.elim
def okC (cn : Str) : D → Bool
  | .obj c _ => c == cn
  | _ => false
/-- own op own, two classes that both have it -/
theorem d_binC {op : Operator} {cn2 : Str} {f2 : Addr} (ha : DE X W a wa) (hb : DE X W b wb) (hm : Meth X.K (He.ga X.K cn) (PySem.dunder op.info.2) f) (hr : NoAttr X.K (He.ga X.K cn) (dunderR op.info.2)) (sf : PySem.W.selfFirst X.K (He.ga X.K cn) = true)
    (hm2 : Meth X.K (He.ga X.K cn2) (PySem.dunder op.info.2) f2) (hr2 : NoAttr X.K (He.ga X.K cn2) (dunderR op.info.2)) (sf2 : PySem.W.selfFirst X.K (He.ga X.K cn2) = true) (hsub : PySem.W.subIn X.K (.ref (He.ga X.K cn2)) (.ref (He.ga X.K cn)) = some false) (hne : (Value.ref (He.ga X.K cn) == Value.ref (He.ga X.K cn2)) = false)
    (F : FnOk X.prog X.w X.K X.mg X.base (L2.CX X.prog X.w) k f fd ps (Pr X.K Wd)) (hroom : Room k X.A) (hbd : Binds X.K fd ps []) (tk : Takes X W) : DE X W (.BinOp a op b pos) (eOwn2 cn (okC cn2) Wd wa wb) := by
  refine ⟨fun pins s σ H Z I h => ?_⟩
  obtain ⟨C, G, en, Q, E, R, xo, q, kk⟩ := h
  refine wpAny_BinOp (binT ha hb I (R := fun x y H2 => ∃ G2 en2 dx dy, Rel X.K C G2 H2 σ en2 ∧ Same G G2 ∧ Rep X.K G2 x dx ∧ Rep X.K G2 y dy ∧ (match dx with
      | .obj c fs => c = cn ∧ okC cn2 dy = true ∧ Wd [.d (.obj c fs), .d dy] en2.b (fun z b' => Q z { en2 with b := b' }) (fun z b' => E z { en2 with b := b' })
      | _ => False)) ?_ fun v u s2 x y H2 I2 rx ry q2 => ?_)
  · refine ⟨C, G, en, _, E, R, xo, q, fun v x G1 H1 en1 R1 s1 r1 q1 => ?_⟩
    exact ⟨C, G1, en1, _, E, R1, xo, q1, fun u y G2 H2 en2 R2 s2 r2 q2 => ⟨G2, en2, x, y, R2, s1.trans s2, r1.mono s2, r2, q2⟩⟩
  · obtain ⟨G2, en2, dx, dy, R2, s2', r1, r2, q2⟩ := q2
    cases r1 with
    | @obj a0 dx0 c0 vs0 xs0 h1 h2 =>
      obtain ⟨ec, ok, q2⟩ := q2
      subst ec
      obtain rfl : v = Value.ref _ := rx
      obtain ⟨mA, J, _⟩ := ins_get I2.hok (R2.sub _ _ h1)
      obtain ⟨od, J, _⟩ := J.look
      have r2' := r2
      cases r2' with
      | @obj a1 dx1 c1 vs1 xs1 g1 g2 =>
        have e1 : c1 = cn2 := beq_iff_eq.mp ok
        subst e1
        obtain rfl : u = Value.ref _ := ry
        obtain ⟨mB, J2, _⟩ := ins_get I2.hok (R2.sub _ _ g1)
        obtain ⟨od2, J2, _⟩ := J2.look
        obtain ⟨cd, hcd, hmr⟩ := PySem.W.any_some sf2
        obtain ⟨rest, hmr⟩ : ∃ rest, cd.mro = .ref (He.ga X.K c1) :: rest := by
          cases q : cd.mro with
          | nil => rw [q] at hmr; cases hmr
          | cons a r => rw [q] at hmr; exact ⟨r, by rw [List.head?_cons] at hmr; cases (beq_iff_eq.mp hmr); rfl⟩
        refine binop2_K I2.kIn J J2.type hne sf hm.at_ hr hm.fn (PySem.W.fills_K I2.kIn hcd hmr hm2.at_) (PySem.W.looks_subIn I2.kIn hsub) (nsip_K I2.kIn hm2.at_ hr2) (PySem.W.looks_findIn I2.kIn hr2) ?_
        refine wpAny_mono (run_fnSD (dvs := []) (ds := []) (E := L2.WE W) (Q := Z) (us := [.ref _, .ref _]) (vs := [.ref _, .ref _]) F hroom hbd .nil (passAt tk σ) I2 (.cons rfl (.cons rfl .nil)) ?_) (fun _ _ h => ep_back h) fun _ _ h => h
        exact pr_of R2 xo (.cons (argd (Rep.obj h1 h2)) (.cons (argd r2) .nil)) q2 fun v y G' H' en' R' s' r' q' => kk v y G' H' en' R' (s2'.trans s') r' q'
      | _ => cases ok
    | _ => exact q2.elim
/-- -own -/
theorem d_negO (ha : DE X W a wa) (hm : Meth X.K (He.ga X.K cn) "__neg__" f) (F : FnOk X.prog X.w X.K X.mg X.base (L2.CX X.prog X.w) k f fd ps (Pr X.K Wd)) (hroom : Room k X.A) (hbd : Binds X.K fd ps []) (tk : Takes X W) : DE X W (.UnaryOp .USub a pos) (eOwn1 cn Wd wa) := by
  refine ⟨fun pins s σ H Z I h => ?_⟩
  obtain ⟨C, G, en, Q, E, R, xo, q, kk⟩ := h
  refine UnaryOp_ (thn (ha.run pins s σ H _ I ⟨C, G, en, _, E, R, xo, q, fun v x G1 H1 en1 R1 s1 r1 q1 => (show (∃ G2 en2 dx, Rel X.K C G2 H1 σ en2 ∧ Same G G2 ∧ Rep X.K G2 v dx ∧ (match dx with
      | .obj c fs => c = cn ∧ Wd [.d (.obj c fs)] en2.b (fun z b' => Q z { en2 with b := b' }) (fun z b' => E z { en2 with b := b' })
      | _ => False)) from ⟨G1, en1, x, R1, s1, r1, q1⟩)⟩) fun v s1 ⟨x, H1, I1, rx, G2, en2, dx, R2, s2', r1, q2⟩ => ?_)
  cases r1 with
  | obj h1 h2 =>
    obtain ⟨rfl, q2⟩ := q2
    obtain rfl : v = Value.ref _ := rx
    obtain ⟨mA, J, _⟩ := ins_get I1.hok (R2.sub _ _ h1)
    obtain ⟨od, J, _⟩ := J.look
    unfold unaryOp
    refine wpAny_holding ?_
    dsimp only
    rw [if_neg (by decide)]
    refine wpAny_bind (PySem.W.special_fn I1.kIn J hm.at_ (beq_iff_eq.mp hm.fn) (wpAny_mono (run_fnSD (dvs := []) (ds := []) (E := L2.WE W) (Q := Z) (us := [.ref _]) (vs := [.ref _]) F hroom hbd .nil (passAt tk σ) I1 (.cons rfl .nil) ?_) (fun _ _ h => wpAny_pure h) fun _ _ h => h))
    exact pr_of R2 xo (.cons (argd (Rep.obj h1 h2)) .nil) q2 fun v y G' H' en' R' s' r' q' => kk v y G' H' en' R' (s2'.trans s') r' q'
  | _ => exact q2.elim
end
end KD

/-! Calls with keywords. -/
namespace KD
open PySem PySem.Spec PyProof.Rows L2 KP
section
variable {X : Cx} {W : WX} {e : Expr} {es : List Expr} {w : WE} {r rk : WA} {p pos kpos : Pos} {x : Str} {k n : Nat} {f : Addr} {fd : FuncData} {ps ks : List Str} {Wd : WD} {kws : List Keyword} {nm : Option Str} {CX : CXT} {sp : Sp} {g : List Value → List Value → List Value} {gV : List V → List V → List V} {E : L2.St → XK}
theorem PK.of {t t' : TA} (h : PK X kws t) (k : ∀ σ H Z, t' σ H Z → t σ H Z) : PK X kws t' := ⟨fun p pins s σ H Q I q => h.run p pins s σ H Q I (k σ H Q q)⟩
theorem dk_nil : PK X [] (RlA X.K W aNil) := PK.of pk_nil fun σ H Z ⟨C, G, en, Q, E, R, xo, q, k⟩ => k [] [] G H en R (Same.refl G) .nil q
theorem dk_cons (ha : DE X W e w) (hr : PK X kws (RlA X.K W r)) : PK X (⟨nm, e, kpos⟩ :: kws) (RlA X.K W (aCons w r)) := PK.of (pk_cons ha hr) fun σ H Z ⟨C, G, en, Q, E, R, xo, q, k⟩ => by
  refine ⟨C, G, en, _, E, R, xo, q, fun v x G1 H1 en1 R1 s1 r1 q1 => ?_⟩
  exact ⟨C, G1, en1, _, E, R1, xo, q1, fun vs bs G2 H2 en2 R2 s2 r2 q2 => k (v :: vs) (.d x :: bs) G2 H2 en2 R2 (s1.trans s2) (.cons (r1.mono s2) r2) q2⟩
theorem run_fnNS {pins : List (Addr × Obj)} {σ : L2.St} {H : Hp} {s : Shared} {Q : VK} {us ws : List Value} {vs zs : List V} (F : FnOk X.prog X.w X.K X.mg X.base CX k f fd ps sp) (hr : Room k X.A) (hb : KBn X.K fd ps n ks g gV) (hx : PassesAt CX X σ (E σ))
    (I : Inv X pins σ H s) (r : Vals vs us) (rz : Vals zs ws) (l1 : vs.length = n) (l2 : zs.length = ks.length) (h : sp (gV vs zs) H Q (E σ)) : wpAny (model X.prog X.w) X.A (call (.ref f) us (ks.zip ws)) (EP X pins σ Q) X.xe s := by
  have r2 := hb.rel r rz
  refine wpAny_call (codeAny_mono (F.run X.A X.stack s H ⟨us, ks.zip ws⟩ (g us ws) (gV vs zs) Q (E σ) hr I.env0 (hb.to s us ws I.kIn (r.length.symm.trans l1) (rz.length.symm.trans l2)) r2 h) fun r s' hq => ?_)
  cases r with
  | error e => exact hx pins H s e s' I hq
  | ok fl =>
    cases fl with
    | ret u => exact I.after hq
    | next => exact False.elim hq
    | brk => exact False.elim hq
    | cont => exact False.elim hq
def eCallN (Wd : WD) (gD : List B → List B → List B) (n m : Nat) (r rk : WA) : WE := fun en Q E => r en (fun bs en1 => rk en1 (fun cs en2 => bs.length = n ∧ cs.length = m ∧ Wd (gD bs cs) en2.b (fun x b' => Q x { en2 with b := b' }) (fun x b' => E x { en2 with b := b' })) E) E
theorem d_callN {gD : List B → List B → List B} (F : FnOk X.prog X.w X.K X.mg X.base (L2.CX X.prog X.w) k f fd ps (Pr X.K Wd)) (hr : Room k X.A) (hg : Gl X x) (hm : X.mg x = some (.ref f)) (hk : PySem.W.keepIn X.K (.ref f) = true) (hb : KBn X.K fd ps n ks g gV) (hgd : ∀ {C : Ctx} {G : Hp} {vs zs : List V} {bs cs : List B}, ArgsR X.K C G vs bs → ArgsR X.K C G zs cs → ArgsR X.K C G (gV vs zs) (gD bs cs)) (tk : Takes X W)
    (ha : DA X W (e :: es) r) (hkw : PK X kws (RlA X.K W rk)) (hall : (backToKw pos (keywordEach kws X.env)).all (·.1.isSome) = true := by rfl) (hks : (backToKw pos (keywordEach kws X.env)).filterMap (·.1) = ks := by rfl)
    (hdb : (x == ("__debug__" : Str)) = false := by decide) (he : starEach (e :: es) X.env = (false, eval e X.env) :: starEach es X.env := by rfl)
    (hpl : ((backTo pos (starEach (e :: es) X.env)).any (·.1) || (backToKw pos (keywordEach kws X.env)).any (·.1.isNone)) = false := by rfl) :
    DE X W (.Call (.Name x p) (e :: es) kws pos) (eCallN Wd gD n ks.length r rk) := by
  refine ⟨fun pins s σ H Z I h => ?_⟩
  refine wpAny_Call_Name_kw (ld_glob I hg hm ?_ hdb)
  obtain ⟨C, G, en, Q, E, R, xo, q, kk⟩ := h
  have q0 : RlA X.K W r σ H (fun vs H1 => RlA X.K W rk σ H1 fun zs H2 => vs.length = n ∧ zs.length = ks.length ∧ Pr X.K Wd (gV vs zs) H2 Z (L2.WE W σ)) := by
    refine ⟨C, G, en, _, E, R, xo, q, fun vs bs G1 H1 en1 R1 s1 r1 q1 => ?_⟩
    refine ⟨C, G1, en1, _, E, R1, xo, q1, fun zs cs G2 H2 en2 R2 s2 r2 q2 => ?_⟩
    refine ⟨r1.length.trans q2.1, r2.length.trans q2.2.1, ?_⟩
    exact pr_of R2 xo (hgd (ArgsR.mono s2 r1) r2) q2.2.2 fun v y G' H' en' R' s' r' q' => kk v y G' H' en' R' ((s1.trans s2).trans s') r' q'
  refine PySem.W.callWith_KW (h₀ := X.base) I.ok.mod.kin hk hall (thn (ha.run pos pins s σ H _ I q0) fun us s1 ⟨vs, H1, I1, r, q⟩ => ?_) hpl he
  refine thn (hkw.run pos pins s1 σ H1 _ I1 q) fun ws s2 ⟨zs, H2, I2, rz, l1, l2, q2⟩ => ⟨I2.kIn, ?_⟩
  rw [hks]
  exact run_fnNS (E := L2.WE W) F hr hb (passAt tk σ) I2 r rz l1 l2 q2
end
end KD

/-! enumerate over a tuple. -/
namespace KD
open PySem PySem.Spec PyProof.Rows L2 KP
open AutoSeq1 (wpAny_loadPart')
section
variable {prog : Program} {w : World} {A : Around} {E : Value → Shared → Prop} {s : Shared}
theorem nextOf_tuple_item {it t : Addr} {i : Nat} {items : Array Value} {x : Value} {Q : Value → Shared → Prop} (hit : s.heap.IsTupleIter it t i) (ht : s.heap.IsTuple t items) (hx : items[i]? = some x)
    (hQ : ∀ h', h'.IsTupleIter it t (i + 1) → Heap.SameBut it s.heap h' → Q x { s with heap := h' }) : wpAny (model prog w) A (Builtin.SmallTypes.nextOf (.ref it)) Q E s := by
  obtain ⟨o, ho, hc, hd⟩ := id hit
  obtain ⟨ol, hol, _, nl, hdl⟩ := ht
  unfold Builtin.SmallTypes.nextOf
  refine wpAny_bind (wpAny_callSpecial?_slot (name := Str.ofString "__next__") hit.typeIs slot_tupleiter_next
    (wpAny_call_entry slot_tupleiter_next hit.typeIs entry_tupleiter_next ?_ (args_tupleiter_next _)))
  show wpAny _ _ (field (.ref it) 0 >>= _) _ _ s
  refine wpAny_bind (wpAny_field ho hd (x := .ref t) rfl ?_)
  show wpAny _ _ (if (Value.ref t == Value.none) = true then _ else _) _ _ s
  rw [if_neg (show ¬ ((Value.ref t == Value.none) = true) from Bool.false_ne_true)]
  show wpAny _ _ (field (.ref it) 1 >>= _) _ _ s
  refine wpAny_bind (wpAny_field ho hd (x := .int i 0) rfl ?_)
  show wpAny _ _ (seqItems? (.ref t) >>= _) _ _ s
  refine wpAny_bind (wpAny_seqItems hol hdl ?_)
  simp only [Int.toNat_natCast, hx]
  refine wpAny_bind (wpAny_setField ho hd (by simp) (wpAny_pure ⟨x, rfl, wpAny_pure (hQ _ ?_ (Heap.SameBut.update ..))⟩))
  exact ⟨_, Heap.get?_update_self _ ho (Obj.isFreed_of_fields (Obj.data_mapFields hd _)), (Obj.cls_mapFields ..).trans hc, by
    rw [Obj.data_mapFields hd]; simp [rawInt]⟩
theorem nextOf_tuple_end {it t : Addr} {i : Nat} {items : Array Value} {Q : Value → Shared → Prop} (hh : A.handled = none) (hit : s.heap.IsTupleIter it t i) (ht : s.heap.IsTuple t items) (hx : items[i]? = none)
    (hE : ∀ h' e, Heap.ExtBut it s.heap h' → (∃ o, h'.get? e = some o ∧ o.cls = .type "StopIteration") → E (.ref e) { s with heap := h' }) :
    wpAny (model prog w) A (Builtin.SmallTypes.nextOf (.ref it)) Q E s := by
  obtain ⟨o, ho, hc, hd⟩ := id hit
  obtain ⟨ol, hol, _, nl, hdl⟩ := ht
  unfold Builtin.SmallTypes.nextOf
  refine wpAny_bind (wpAny_callSpecial?_slot (name := Str.ofString "__next__") hit.typeIs slot_tupleiter_next
    (wpAny_call_entry slot_tupleiter_next hit.typeIs entry_tupleiter_next ?_ (args_tupleiter_next _)))
  show wpAny _ _ (field (.ref it) 0 >>= _) _ _ s
  refine wpAny_bind (wpAny_field ho hd (x := .ref t) rfl ?_)
  show wpAny _ _ (if (Value.ref t == Value.none) = true then _ else _) _ _ s
  rw [if_neg (show ¬ ((Value.ref t == Value.none) = true) from Bool.false_ne_true)]
  show wpAny _ _ (field (.ref it) 1 >>= _) _ _ s
  refine wpAny_bind (wpAny_field ho hd (x := .int i 0) rfl ?_)
  show wpAny _ _ (seqItems? (.ref t) >>= _) _ _ s
  refine wpAny_bind (wpAny_seqItems hol hdl ?_)
  simp only [Int.toNat_natCast, hx]
  refine wpAny_bind (wpAny_rule (wpAny_bind (wpAny_setField ho hd (by simp) ?_)))
  show wpAny _ _ (newExc (.type "StopIteration") [] >>= _) _ _ _
  refine wpAny_bind ?_
  simp only [newExc, newTuple]
  refine wpAny_bind (wpAny_newObj_type ?_ (by size_fits))
  refine wpAny_bind (m := firstArgMember _ _) (wpAny_of_eq (a := Value.none) (by first | rfl | (simp only [firstArgMember]; rfl)) ?_)
  refine wpAny_newObj_type ?_ (by size_fits)
  simp only [raiseNew]
  refine wpAny_bind (wpAny_handled ?_)
  first | rw [show A.in1.handled = none from hh] | rw [hh]
  refine wpAny_bind (wpAny_pure (wpAny_throw ?_))
  exact hE _ _ (((Heap.SameBut.update ..).extBut.push _).push _) ⟨_, Heap.get?_push_size _ rfl, rfl⟩
end
theorem drawsTuple {prog : Program} {w : World} {A : Around} (hh : A.handled = none) (it l : Addr) (hne : l ≠ it) (items : Array Value) :
    Draws prog w A it [it, l] items.size (fun i v => items[i]? = some v) (fun i h => h.IsTupleIter it l i ∧ h.IsTuple l items) where
  live := fun _ _ st => let ⟨o, ho, _⟩ := st.1; ⟨o, ho⟩
  frame := fun _ _ _ st hk => ⟨st.1.at fun o e => hk it (by simp) o e, let ⟨o, ho, r⟩ := st.2; ⟨o, hk l (by simp) o ho, r⟩⟩
  item := fun i s Q E hi st hQ => by
    refine nextOf_tuple_item st.1 st.2 (x := items[i]) (by simp [hi]) fun h' hit' hs' => ?_
    exact hQ _ h' s.toks (by simp [hi]) ⟨hit', let ⟨o, ho, r⟩ := st.2; ⟨o, (hs'.2 l hne).trans ho, r⟩⟩ hs'
  done := fun s Q E st hE => nextOf_tuple_end hh st.1 st.2 (by simp) hE
theorem meets_enumerate_newT (l : Addr) (items : Array Value) (n : Nat) (dct : Option Addr) (sl : Array (Option Value)) :
    Meets (Builtin.«enumerate.__new__» ⟨[.type "enumerate", .ref l], []⟩) (fun _ R s => s.heap.get? l = some { cls := .type "tuple", dict := dct, data := .seq items n, slots := sl } ∧
      R (.ok (.ret (.ref (s.heap.push { cls := .type "tuple_iterator", data := .fields #[.ref l, .int 0 0] }).objs.size)))
        { s with heap := (s.heap.push { cls := .type "tuple_iterator", data := .fields #[.ref l, .int 0 0] }).push { cls := .type "enumerate", data := .fields #[.none, .bool false, .ref s.heap.objs.size, rawInt 0, .none, .none] } }) :=
  .of_wp fun prog w A R s h => by
    obtain ⟨hp, g, d, tk, os⟩ := s; obtain ⟨hl, h⟩ := h
    have hsub := sub_enumerate
    have hL : Heap.IsTuple (Shared.heap ⟨hp, g, d, tk, os⟩) l items := ⟨_, hl, rfl, n, rfl⟩
    wp_walk using wpAny_loadPart' hl
    refine wpAny_stack_any fun st => wpAny_pure ?_
    split
    · rename_i c _ _ _ _ _
      cases (c == Value.type "enumerate")
      · wp_walk using wpAny_loadPart' hl, wpAny_pyIter_tuple hL
        exact ⟨_, rfl, h⟩
      · wp_walk using wpAny_loadPart' hl, wpAny_pyIter_tuple hL
        exact ⟨_, rfl, h⟩
    · wp_walk using wpAny_loadPart' hl, wpAny_pyIter_tuple hL
      exact ⟨_, rfl, h⟩
section
variable {prog : Program} {w : World} {A : Around} {E : Value → Shared → Prop} {s : Shared}
theorem call_enumerate_tuple {l : Addr} {items : Array Value} {Q : Value → Shared → Prop} (hL : s.heap.IsTuple l items)
    (h : ∀ h', IsEnum h' (s.heap.objs.size + 1) s.heap.objs.size 0 .none → h'.IsTupleIter s.heap.objs.size l 0 → h'.objs.size = s.heap.objs.size + 2 →
      (∀ b o, s.heap.get? b = some o → h'.get? b = some o) → Q (.ref (s.heap.objs.size + 1)) { s with heap := h' }) :
    wpAny (model prog w) A (call (.type "enumerate") [.ref l]) Q E s := by
  obtain ⟨⟨c, dct, dt, sl⟩, hl, hc, n, hd⟩ := hL
  replace hc : c = .type "tuple" := hc
  replace hd : dt = .seq items n := hd
  subst hc hd
  refine callType_new F.called_enumerate (by decide) (F.typeCall_enumerate_1 _) (F.newCall_enumerate_1 _) (fun obj => F.args_object_init_2 obj _) F.entry_enumerate_new
    (meets_enumerate_newT l items n dct sl) ⟨hl, ?_⟩
  have hz : (s.heap.push { cls := .type "tuple_iterator", data := .fields #[.ref l, .int 0 0] }).objs.size = s.heap.objs.size + 1 := Heap.size_push ..
  show _ ∧ _
  rw [hz]
  have he : IsEnum ((s.heap.push { cls := .type "tuple_iterator", data := .fields #[.ref l, .int 0 0] }).push
      { cls := .type "enumerate", data := .fields #[.none, .bool false, .ref s.heap.objs.size, rawInt 0, .none, .none] }) (s.heap.objs.size + 1) s.heap.objs.size 0 .none := by
    have := Heap.get?_push_size (s.heap.push { cls := .type "tuple_iterator", data := .fields #[.ref l, .int 0 0] })
      (o := { cls := .type "enumerate", data := .fields #[.none, .bool false, .ref s.heap.objs.size, rawInt 0, .none, .none] }) rfl
    rw [hz] at this; exact this
  refine ⟨⟨_, he, rfl⟩, h _ he ⟨_, Heap.get?_push_of_some _ (Heap.get?_push_size _ rfl), rfl, rfl⟩ (by rw [Heap.size_push, hz]) fun b o x => Heap.get?_push_of_some _ (Heap.get?_push_of_some _ x)⟩
end
def IteT (K : PySem.W.Frag) (a : Addr) : It :=
  ⟨fun i H => ∃ (xs : List V) (x : V), SqT K H a xs ∧ xs[i]? = some x, fun i H v H' => ∃ T x, v = .ref T ∧ H T = none ∧ H' = upd H T (.tup [.int (i : Nat), x]) ∧ ∀ xs, SqT K H a xs → xs[i]? = some x, fun i H => ∃ xs : List V, SqT K H a xs ∧ xs.length = i⟩
theorem turn_enumT {P : Program} {w : World} {K : PySem.W.Frag} {elts : List Expr} {kk : Nat} {tpos : Pos} (a e it : Addr) (hai : a ≠ it) (hae : a ≠ e) :
    Turn P w K (.Tuple elts kk tpos) (IteT K a) [e, it] e (fun i h => (∃ old, IsEnum h e it ((i : Nat) : Int) old) ∧ h.IsTupleIter it a i ∧ e ≠ it) where
  mem := by simp
  obj := fun i h st b hb => by
    obtain ⟨⟨old, he⟩, ⟨o, ho, hc, hd⟩, _⟩ := st
    have e' : b = e ∨ b = it := by simpa using hb
    rcases e' with z | z
    · rw [z]; exact ⟨_, he, fun v q => nomatch q⟩
    · rw [z]; exact ⟨o, ho, fun v q => by rw [hd] at q; cases q⟩
  keep := fun i h h' st k => let ⟨⟨old, he⟩, hi, hne⟩ := st; ⟨⟨old, k e (by simp) _ he⟩, hi.at fun o q => k it (by simp) o q, hne⟩
  item := by
    intro X hP hw hK hc i pins s σ H E I hf st hg
    subst hP hw hK
    obtain ⟨⟨old, he⟩, hit, hne⟩ := st
    obtain ⟨xs, x, hq, hx⟩ := hg
    obtain ⟨its, rv, p, hz⟩ := I.tuple hq
    obtain ⟨u, hu, ru⟩ := rv.get hx
    have hel : e < s.heap.objs.size := Heap.lt_size he
    have hil : it < s.heap.objs.size := by obtain ⟨_, q, _⟩ := hit; exact Heap.lt_size q
    have hlt : i < its.toArray.size := by
      have := (List.getElem?_eq_some_iff.mp hu).1
      simpa using this
    refine wpAny_pyNext_enum_itemD (drawsTuple (A := X.A.in1) (I.ok.hd hc) it a hai its.toArray) he ⟨hit, p⟩ hlt hne (by simp [hne, Ne.symm hae]) fun u' h' tk hPx ho hst' hT hsz hk => ?_
    obtain rfl : u' = u := by
      have : its[i]? = some u' := by simpa using hPx
      rw [hu] at this; cases this; rfl
    refine ⟨_, rfl, wpAny_letOwnedTupleGo_enum (s := { s with heap := h', toks := tk + 1 }) ho fun h'' he' sb => ?_⟩
    have hT2 : h''.get? s.heap.objs.size = some { cls := .type "tuple", data := .seq #[.int i tk, u'] } := (sb.2 _ (Nat.ne_of_gt hel)).trans hT
    have new : ObjOk X.prog X.w (upd H s.heap.objs.size (.tup [.int (i : Nat), x])) h'' s.heap.objs.size (.tup [.int (i : Nat), x]) :=
      ⟨by show 2 ≤ sizeLine; decide, [.int i tk, u'], .cons ⟨_, rfl⟩ (.cons ru .nil), ⟨_, hT2, rfl, _, rfl⟩⟩
    have I1 : Inv X pins σ (upd H s.heap.objs.size (.tup [.int (i : Nat), x])) { s with heap := h'', toks := tk + 1 } :=
      I.turnedNew (ch := [e, it]) (fun b ob hb q => (sb.2 b (fun z => hb (by simp [z]))).trans (hk b ob (fun z => hb (by simp [z])) (fun z => hb (by simp [z])) q)) hf (Nat.le_refl _) new
    refine ⟨.ref s.heap.objs.size, _, I1, rfl, ⟨_, x, rfl, I.hok.fresh (Nat.le_refl _), rfl, fun ys hy => by rw [I.tuple_inj hy hq]; exact hx⟩, ⟨⟨u', ?_⟩, hst'.1.at fun o q => (sb.2 it (Ne.symm hne)).trans q, hne⟩, fun b hb => ?_⟩
    · have e1 : ((i + 1 : Nat) : Int) = (i : Int) + 1 := by omega
      rw [e1]; exact he'
    · have hb' : b < s.heap.objs.size := by
        have e' : b = e ∨ b = it := by simpa using hb
        rcases e' with z | z
        · rw [z]; exact hel
        · rw [z]; exact hil
      rw [upd_ne (Nat.ne_of_lt hb')]
      exact (hf b hb).1
  done := by
    intro X hP hw hK hc i pins s σ H E I hf st hg
    subst hP hw hK
    obtain ⟨⟨old, he⟩, hit, hne⟩ := st
    obtain ⟨xs, hq, hx⟩ := hg
    obtain ⟨its, rv, p, hz⟩ := I.tuple hq
    obtain ⟨f0, f1, f2, f3, f4, f5⟩ := hf it (by simp)
    have hl := rv.length
    have hn : its.toArray.size = i := by simp; omega
    exact wpAny_pyNext_enum_endD (drawsTuple (A := X.A.in1) (I.ok.hd hc) it a hai its.toArray) he (by rw [hn]; exact ⟨hit, p⟩) fun h' eb => ⟨rfl, I.turned (t' := s.toks) (fun b o hb q => eb b o hb q) f0 f1 f3 f4 f5⟩
  self := fun A i s Q E st h => let ⟨⟨_, he⟩, _⟩ := st; wpAny_pyIter_enum he h
def iEnumT (K : PySem.W.Frag) (ta : TA) : TI := fun σ H R => ta σ H fun vs H1 => ∃ a xs, vs = [.ref a] ∧ SqT K H1 a xs ∧ R (IteT K a) H1
theorem pi_enumT {X : Cx} {e : Expr} {ta : TA} {p pos tpos : Pos} {elts : List Expr} {kk : Nat} (hg : Gl X "enumerate") (hm : X.mg "enumerate" = none) (ha : PA X [e] ta) (hs : starEach [e] X.env = [(false, eval e X.env)] := by rfl) :
    PI X (.Tuple elts kk tpos) (.Call (.Name "enumerate" p) [e] [] pos) (iEnumT X.K ta) := by
  refine ⟨fun pins s σ H R I h => ?_⟩
  refine Call_ (ld_blt I hg hm boot_enumerate (PyProof.Rows.callWith_type1 (thn (ha.run pos pins s σ H _ I h) fun us s1 ⟨vs, H1, I1, r1, q1⟩ => ?_) hs rfl))
  obtain ⟨a, xs, ex, hq, q⟩ := q1
  subst ex
  cases r1 with
  | cons r rr =>
    cases rr
    cases r
    obtain ⟨its, rv, p', hz⟩ := I1.tuple hq
    have hal : a < s1.heap.objs.size := by obtain ⟨o, ho, _⟩ := p'; exact Heap.lt_size ho
    refine call_enumerate_tuple p' fun h' he hit hsz hk => wpAny_pyIter_enum he ?_
    have I2 : Inv X pins σ H1 { s1 with heap := h' } := I1.kept (t' := s1.toks) hk
    refine ⟨s1.heap.objs.size + 1, [s1.heap.objs.size + 1, s1.heap.objs.size], _, _, H1, rfl, I2, turn_enumT a (s1.heap.objs.size + 1) s1.heap.objs.size (Nat.ne_of_lt hal) (Nat.ne_of_lt (Nat.lt_succ_of_lt hal)), ⟨⟨.none, he⟩, hit, Nat.succ_ne_self _⟩, fun b hb => ?_, q⟩
    have e' : b = s1.heap.objs.size + 1 ∨ b = s1.heap.objs.size := by simpa using hb
    have hle : s1.heap.objs.size ≤ b := by
      rcases e' with z | z
      · rw [z]; exact Nat.le_add_right _ _
      · rw [z]; exact Nat.le_refl _
    exact I1.fpOk hle (I1.hok.fresh hle)
def iEnT (r : WA) : WI := fun en Q E => aD r en (fun xs en1 => match xs with | [.tup ys] => Q (pairs ys) en1 | _ => False) E
theorem goes_enumT {K : PySem.W.Frag} {G : Hp} {a : Addr} {vs : List V} {xs : List D} (h : SqT K G a vs) (r : Reps K G vs xs) : Goes K (IteT K a) (pairs xs) G := fun G1 H1 s1 s2 => by
  have hl : SqT K H1 a vs := Same.tup (s1.trans s2) h
  refine ⟨fun i x hx => ?_, vs, hl, by rw [r.length, pairs_length]⟩
  obtain ⟨y, hy, rfl⟩ := pairs_get hx
  obtain ⟨v, hv, rv⟩ := r.at hy
  refine ⟨⟨vs, v, hl, hv⟩, fun u H2 ⟨T, x', e1, n, e2, hy⟩ => ?_⟩
  have := hy vs hl
  rw [hv] at this; cases this
  subst e1; subst e2
  have g := Gr.new1 (o := .tup [.int (i : Nat), v]) s2 n
  exact ⟨_, g, .tup (SqT.of upd_same) (.cons (.int _) (.cons ((rv.mono s1).mono g.gg) .nil))⟩
theorem di_enT {X : Cx} {W : WX} {e tg : Expr} {r : WA} (h : PI X tg e (iEnumT X.K (RlA X.K W r))) : DI X W tg e (iEnT r) := PI.of h fun σ H R ⟨C, G, en, Q, E, R0, xo, q, k⟩ => by
  refine rla R0 xo q fun vs xs G1 H1 en1 R1 s1 rr q1 => ?_
  split at q1
  · obtain ⟨v, rfl, rv⟩ := reps1 rr
    cases rv with
    | tup h1 h2 => exact ⟨_, _, rfl, Same.tup R1.sub h1, k _ _ G1 H1 en1 R1 s1 (goes_enumT h1 h2) q1⟩
  · exact q1.elim
end KD

/-! Star parameters of an __init__, star arguments. -/
namespace KD
open PySem PySem.Spec PyProof.Rows L2 KP
section
variable {M : Model} {A : Around} {E : Value → Shared → Prop} {s : Shared}
theorem evalArgs_two {f : Value} {a b : Bool × Sem Value} {rest : List (Bool × Sem Value)} {Q : Args → Shared → Prop} (h : wpAny M A (spliced (a :: b :: rest)) (fun vs s₁ => Q ⟨vs, []⟩ s₁) E s) : wpAny M A (evalArgs f true (a :: b :: rest) []) Q E s := by
  obtain ⟨x, y⟩ := a
  cases x
  · exact Calls.evalArgs_plain h
  · unfold evalArgs
    show wpAny M A (spliced ((true, y) :: b :: rest) >>= _) Q E s
    refine wpAny_bind (wpAny_mono h (fun vs s' h' => ?_) fun _ _ x => x)
    refine wpAny_holding ?_
    exact wpAny_bind (wpAny_pure (wpAny_bind (wpAny_pure (wpAny_pure h'))))
theorem callWith_S3 {K : PySem.W.Frag} {env : Env} {pos : Pos} {f : Value} {first : List Value} {Q : Value → Shared → Prop} {a b : Expr} {es : List Expr} (hk : PySem.W.keepIn K f = true) (h : wpAny M A (spliced (backTo pos (starEach (a :: b :: es) env))) (fun vs s₁ => K.In s₁.heap ∧ wpAny M A (call f (first ++ vs)) Q E s₁) E s)
    (h2 : ∃ x y r, backTo pos (starEach (a :: b :: es) env) = x :: y :: r) (hst : (backTo pos (starEach (a :: b :: es) env)).any (·.1) = true) :
    wpAny M A (callWith pos f first (backTo pos (starEach (a :: b :: es) env)) []) Q E s := by
  obtain ⟨x, y, r, e⟩ := h2
  rw [e] at h hst ⊢
  exact PySem.W.ks_call hst (PySem.W.keeps_K hk) (evalArgs_two h)
end
/-- n parameters, then a star parameter -/
def starN (n : Nat) (W : WN) : WN := fun bs b Q E => n ≤ bs.length ∧ match allD (bs.drop n) with
  | some xs => xs.length ≤ 100000 ∧ W (bs.take n ++ [.d (.tup xs)]) b Q E
  | none => False
section
variable {P : Program} {w : World} {K : PySem.W.Frag} {mg : Str → Option Value} {base : Heap} {x qual : Str} {params : Arguments} {body : List Stmt} {scope : Scope} {dvs : List V} {kws : List (Str × V)} {f : Addr} {fd : FuncData} {k : Nat}
theorem ArgsR.take {C : Ctx} {G : Hp} : ∀ (n : Nat) {vs : List V} {bs : List B}, ArgsR K C G vs bs → ArgsR K C G (vs.take n) (bs.take n)
  | 0, _, _, _ => by simp; exact .nil
  | _ + 1, _, _, .nil => .nil
  | n + 1, _, _, .cons h r => .cons h (ArgsR.take n r)
theorem ArgsR.drop {C : Ctx} {G : Hp} : ∀ (n : Nat) {vs : List V} {bs : List B}, ArgsR K C G vs bs → ArgsR K C G (vs.drop n) (bs.drop n)
  | 0, _, _, r => r
  | _ + 1, _, _, .nil => .nil
  | n + 1, _, _, .cons _ r => ArgsR.drop n r
theorem Fr.after {π : Option Pid} {μ : List Addr} {G H G1 H1 G2 H2 : Hp} {b : Int} (g : Gr G H G1 H1) (y : Fr K π μ G1 H1 G2 H2 b) (hp : ∀ p, π = some p → H p.a ≠ none) : Fr K π μ G H G2 H2 b := by
  refine ⟨g.gg.trans y.gg, y.sub, fun a h gn => ?_, fun a o h n m => y.keep a o (g.hh a o h) n m, y.pen, y.slf⟩
  cases q : G1 a with
  | some o => exact .inl (g.new a (by rw [q]; exact fun z => nomatch z) gn)
  | none =>
    rcases y.new a h q with z | ⟨xs, z⟩
    · cases r : H a with
      | none => exact .inl r
      | some o => rw [g.hh a o r] at z; cases z
    · cases r : H a with
      | none => exact .inl r
      | some o => rw [g.hh a o r] at z; cases z; exact .inr ⟨xs, r⟩
theorem init_okS {N ps : List Str} {pv : Str} {wb : WS} {cn : Str} (F : FunD K x qual params body scope dvs kws f fd) (S : FnScope N (ps ++ [pv]) scope)
    (hb : ∀ us rest : List Value, us.length = ps.length → bindArgs fd ⟨us ++ rest, []⟩ = (newTuple rest >>= fun t => pure (ps.zip us ++ [(pv, t)])))
    (hps : 0 < ps.length)
    (hbody : ∀ (cdv : Value) (A : Around) (outer : List Env) (s : Shared) (H : Hp) (E : XK), Room k (A.deeper (envOfC qual scope s.heap.objs.size f cdv)) →
      Takes (cxOf (L2.CX P w) P w K mg base N qual scope f cdv A outer s H E) (fun cls d _ H => E cls d H) →
      DSs (cxOf (L2.CX P w) P w K mg base N qual scope f cdv A outer s H E) (fun cls d _ H => E cls d H) body wb) : FnR P w K mg base (L2.CX P w) (k + 1) f (PrI K cn (starN (ps.length - 1) (runN cn (ps.length + 1) N.length wb))) := by
  obtain ⟨oc, od, dV, kV, doc, pmv, an, cdv, ct, osl, e, lk, hcd, _, _⟩ := F.ex
  subst e
  refine FnR.imp (StX.fn_star (sp := PrI K cn (runN cn (ps.length + 1) N.length wb)) lk hcd S StX.cxUp hb fun A outer s H vs Z E hr ⟨π, G, b, bs, Q, EQ, a, dx, us, ev, sg, hp, ar, ha, ga, np, wq, kq, ke⟩ => ?_) fun vs H Z E ⟨π, G, b, bs, Q, EQ, a, dx, us, ev, sg, hp, ar, ha, ga, np, wq, kq, ke⟩ => ?_
  · subst ev
    have fin : ∀ {G' H' : Hp} {σ : L2.St} {en : En}, Rel K ⟨π, [a], G, fun _ => none, G, H⟩ G' H' σ en → (slfF cn en fun fs => Q fs en.b) → Z .non H' := fun {G' H' σ en} R q => by
      unfold slfF at q
      split at q
      · rename_i c fs e
        obtain ⟨v, e1, a', dx', vs', m, e2, h1, h2, r⟩ := R.var e
        cases m; cases e2
        obtain ⟨rfl, q⟩ := q
        exact kq G' H' en.b dx' vs' fs R.fr h1 r q
      · exact q.elim
    refine ⟨_, hbody cdv A outer s H E hr (takes_of rfl rfl rfl rfl), ⟨⟨π, [a], G, fun _ => none, G, H⟩, G, _, _, Rel.startI sg hp ar N.length ha ga np, fun y en σ G' H' cls od R rx q => ke cls od y G' H' en.b R.fr rx q, wq.2, ⟨fun G' H' σ en R q => fin R q, fun v y G' H' σ en R r q => ?_, fun _ _ _ _ _ q => q.elim, fun _ _ _ _ _ q => q.elim⟩⟩⟩
    obtain ⟨rfl, q⟩ := q
    cases r
    exact fin R q
  · subst ev
    obtain ⟨hn, wq⟩ := wq
    split at wq
    · rename_i xs e
      have rx := (ar.drop (ps.length - 1)).reps e
      have ln := ar.length
      refine ⟨.ref a :: us.take (ps.length - 1), us.drop (ps.length - 1), by simp, by simp; omega, by rw [rx.length]; exact sz5 wq.1, fun p np' => ?_⟩
      have g := Gr.new1 (o := .tup (us.drop (ps.length - 1))) sg np'
      have nap : a ≠ p := ne_of_none ha np'
      have nph : ∀ q, π = some q → H q.a ≠ none := fun q e z => by
        obtain ⟨kvs, e'⟩ := (hp q e).1.is_
        rw [z] at e'; cases e'
      refine ⟨π, _, b, _, Q, EQ, a, dx, us.take (ps.length - 1) ++ [.ref p], rfl, g.sub, fun q e => ⟨(hp q e).1.same g.hh, by rw [upd_ne (fun z => nph q e (by rw [z]; exact np'))]; exact (hp q e).2⟩, (ArgsR.mono g.gg (ar.take (ps.length - 1))).append (.cons (argd (Rep.tup (SqT.of upd_same) (rx.mono g.gg))) .nil), g.hh _ _ ha, by rw [upd_ne nap]; exact ga, np, wq.2, fun G' H' b' dx' vs' fs fr ha' rf q => ?_, fun cls od y G' H' b' fr rx' q => ?_⟩
      · exact kq G' H' b' dx' vs' fs (Fr.after g fr nph) ha' rf q
      · exact ke cls od y G' H' b' (Fr.after g fr nph) rx' q
    · exact wq.elim
end
section
variable {X : Cx} {W : WX} {e o : Expr} {es : List Expr} {w : WE} {r : WA} {p pos apos sp_ : Pos} {x m cn : Str} {k : Nat} {f : Addr} {Wn : WN}
theorem run_makeRS {C : Addr} {CX : CXT} {sp : Sp} {E : XK} {pins : List (Addr × Obj)} {σ : L2.St} {H : Hp} {s : Shared} {Q : VK} {us : List Value} {vs : List V} (M : Mk X.K C f) (F : FnR X.prog X.w X.K X.mg X.base CX k f sp) (hr : Room (k + 1) X.A) (hx : PassesAt CX X σ E) (I : Inv X pins σ H s) (r : Vals vs us)
    (h : ∀ x dx, H x = none → H dx = none → dx ≠ x → sp (.ref x :: vs) (upd (upd H dx (.own x)) x (.ins C dx [])) (fun v H2 => v = .non ∧ Q (.ref x) H2) E) :
    wpAny (model X.prog X.w) X.A (call (.ref C) us) (EP X pins σ Q) X.xe s := by
  have hq := h (s.heap.objs.size + 1) s.heap.objs.size (I.hok.fresh (Nat.le_succ _)) (I.hok.fresh (Nat.le_refl _)) (Nat.ne_of_lt (Nat.lt_succ_self _))
  have I2 := Inv.made (C := C) I
  have r2 : Vals (V.ref (s.heap.objs.size + 1) :: vs) (Value.ref (s.heap.objs.size + 1) :: us) := .cons rfl r
  refine wpAny_call (make_map (f := f) I.kIn M.makes M.init (beq_iff_eq.mp M.fn) (codeAny_mono (F _ X.stack _ _ (Value.ref (s.heap.objs.size + 1) :: us) _ _ E (hr.make C us []) (I2.env0.make C us []) r2 hq) fun r s' hq' => ?_))
  cases r with
  | error e => exact hx pins _ _ e s' I2 hq'
  | ok fl =>
    cases fl with
    | ret u =>
      obtain ⟨v, H', I3, rv, ev, q3⟩ := I2.after hq'
      subst ev
      exact ⟨rv, ⟨V.ref (s.heap.objs.size + 1), H', I3, rfl, q3⟩⟩
    | next => exact False.elim hq'
    | brk => exact False.elim hq'
    | cont => exact False.elim hq'
/-- C() -/
theorem d_makeR0 (M : Mk X.K (He.ga X.K cn) f) (F : FnR X.prog X.w X.K X.mg X.base (L2.CX X.prog X.w) k f (PrI X.K cn Wn)) (hr : Room (k + 1) X.A) (hg : Gl X x) (hm : X.mg x = some (.ref (He.ga X.K cn))) (tk : Takes X W)
    (hdb : (x == ("__debug__" : Str)) = false := by decide) : DE X W (.Call (.Name x p) [] [] pos) (eMake cn Wn aNil) := by
  refine ⟨fun pins s σ H Z I h => ?_⟩
  refine wpAny_Call_Name_kw (ld_glob I hg hm ?_ hdb)
  obtain ⟨C, G, en, Q, E, R, xo, q, k⟩ := h
  exact PySem.W.callWith_K0 I.kIn M.kp (run_makeRS (us := []) M F hr (passAt tk σ) I .nil (make_of (vs := []) R xo .nil q k))
/-- C(*e) -/
theorem d_makeR1 (M : Mk X.K (He.ga X.K cn) f) (F : FnR X.prog X.w X.K X.mg X.base (L2.CX X.prog X.w) k f (PrI X.K cn Wn)) (hr : Room (k + 1) X.A) (hg : Gl X x) (hm : X.mg x = some (.ref (He.ga X.K cn))) (tk : Takes X W) (he : DE X W e w)
    (hdb : (x == ("__debug__" : Str)) = false := by decide) (hst : starEach [.Starred e sp_] X.env = [(true, eval e X.env)] := by rfl) : DE X W (.Call (.Name x p) [.Starred e sp_] [] pos) (eMake cn Wn (aStar w aNil)) := by
  refine ⟨fun pins s σ H Z I h => ?_⟩
  refine wpAny_Call_Name_kw (ld_glob I hg hm ?_ hdb)
  obtain ⟨C, G, en, Q, E, R, xo, q, k⟩ := h
  have h1 : Rl X.K W w σ H (fun y H1 => ∃ a xs, y = V.ref a ∧ (SqT X.K H1 a xs ∨ SqL X.K H1 a xs) ∧ ∀ x dx, H1 x = none → H1 dx = none → dx ≠ x → PrI X.K cn Wn (.ref x :: xs) (upd (upd H1 dx (.own x)) x (.ins (He.ga X.K cn) dx [])) (fun v H2 => v = .non ∧ Z (.ref x) H2) (L2.WE W σ)) :=
    ⟨C, G, en, _, E, R, xo, q, fun v x G1 H1 en1 R1 s1 r1 q1 => by
      split at q1
      · rename_i xs e0
        obtain ⟨a, vs, rfl, hq, rr⟩ := r1.star e0 R1.sub
        refine ⟨a, vs, rfl, hq, make_of R1 xo (reps_args rr) (by simpa [aNil] using q1) fun v y G' H' en' R' s' r' q' => k v y G' H' en' R' (s1.trans s') r' q'⟩
      · exact q1.elim⟩
  refine PySem.W.callWith_S (h₀ := X.base) I.ok.mod.kin M.kp (thn (he.run pins s σ H _ I h1) fun v s1 ⟨y, H1, I1, ry, a, xs, ey, hxs, q⟩ => ?_) hst
  subst ey
  obtain rfl : v = Value.ref a := ry
  refine StX.star_any I1 hxs fun us s2 I2 rv => ⟨I2.kIn, ?_⟩
  exact run_makeRS M F hr (passAt tk σ) I2 rv q
/-- C(.., *e, ..): two arguments or more -/
theorem d_makeR2 {a b : Expr} (M : Mk X.K (He.ga X.K cn) f) (F : FnR X.prog X.w X.K X.mg X.base (L2.CX X.prog X.w) k f (PrI X.K cn Wn)) (hr : Room (k + 1) X.A) (hg : Gl X x) (hm : X.mg x = some (.ref (He.ga X.K cn))) (tk : Takes X W) (ha : DA X W (a :: b :: es) r)
    (hdb : (x == ("__debug__" : Str)) = false := by decide) (h2 : ∃ y z r, backTo pos (starEach (a :: b :: es) X.env) = y :: z :: r := by exact ⟨_, _, _, rfl⟩) (hst : (backTo pos (starEach (a :: b :: es) X.env)).any (·.1) = true := by rfl) : DE X W (.Call (.Name x p) (a :: b :: es) [] pos) (eMake cn Wn r) := by
  refine ⟨fun pins s σ H Z I h => ?_⟩
  refine wpAny_Call_Name_kw (ld_glob I hg hm ?_ hdb)
  obtain ⟨C, G, en, Q, E, R, xo, q, k⟩ := h
  have h1 : RlA X.K W r σ H (fun vs H1 => ∀ x dx, H1 x = none → H1 dx = none → dx ≠ x → PrI X.K cn Wn (.ref x :: vs) (upd (upd H1 dx (.own x)) x (.ins (He.ga X.K cn) dx [])) (fun v H2 => v = .non ∧ Z (.ref x) H2) (L2.WE W σ)) :=
    ⟨C, G, en, _, E, R, xo, q, fun vs bs G1 H1 en1 R1 s1 r1 q1 => make_of R1 xo r1 q1 fun v y G' H' en' R' s' r' q' => k v y G' H' en' R' (s1.trans s') r' q'⟩
  refine callWith_S3 (K := X.K) M.kp (thn (ha.run pos pins s σ H _ I h1) fun us s1 ⟨vs, H1, I1, r, q⟩ => ⟨I1.kIn, ?_⟩) h2 hst
  exact run_makeRS M F hr (passAt tk σ) I1 r q
end
end KD

/-! isinstance of own classes; dicts of one's own, dict comprehensions. -/
namespace KD
open PySem PySem.Spec PyProof.Rows L2 KP
/-! ### isinstance -/
def tyL : List String := ["NoneType", "bool", "int", "str", "list", "tuple", "dict"]
theorem tn_mem {x : D} {t : String} (e : x.tn = some t) : t ∈ tyL := by
  cases x <;> first | (cases e; decide) | cases e
theorem sub_no {K : PySem.W.Frag} {C : Addr} {t : String} (h : t ∈ tyL) : PySem.W.subIn K (.type t) (.ref C) = some false := by
  have key : ∀ t ∈ tyL, ∃ l, fastBuiltinMro t = some l ∧ (l.all fun v => match v with | .type _ => true | _ => false) = true := by
    intro t ht
    simp only [tyL, List.mem_cons, List.mem_nil_iff, or_false] at ht
    rcases ht with rfl | rfl | rfl | rfl | rfl | rfl | rfl <;> exact ⟨_, rfl, by decide +kernel⟩
  obtain ⟨l, hl, hlc⟩ := key t h
  show (fastBuiltinMro t).map (fun l => l.contains (Value.ref C)) = some false
  rw [hl]
  show some _ = some false
  congr 1
  show l.contains (Value.ref C) = false
  rw [List.contains_eq_any_beq, List.any_eq_false]
  intro z hz
  have := List.all_eq_true.mp hlc z hz
  intro q
  rw [← beq_iff_eq.mp q] at this
  exact Bool.false_ne_true this
/-- isinstance(x, C): others: classes that are not below C -/
@[irreducible] def oIsiC (cn : Str) (others : List Str) : OC := fun xs Q => match xs with
  | [.obj c _, .cls d] => d = cn ∧ ((c = cn ∧ Q (.bl true)) ∨ (c ∈ others ∧ Q (.bl false)))
  | [x, .cls d] => d = cn ∧ x.tn.isSome = true ∧ Q (.bl false)
  | _ => False
theorem call_isiC {X : Cx} {cn : Str} {others : List Str} (c : Cls X.K (He.ga X.K cn)) (i : IsC X.K (He.ga X.K cn)) (ho : ∀ d ∈ others, Cls X.K (He.ga X.K d) ∧ IsC X.K (He.ga X.K d) ∧ PySem.W.subIn X.K (.ref (He.ga X.K d)) (.ref (He.ga X.K cn)) = some false ∧ (Value.ref (He.ga X.K d) == Value.ref (He.ga X.K cn)) = false) : CallD X (.builtin "isinstance") (oIsiC cn others) := ⟨_, call_isi, fun G H vs xs Q Z s r q k => by
  unfold oIsiC at q
  split at q
  · obtain ⟨v, u, rfl, rv, ru⟩ := reps2 r
    cases ru
    obtain ⟨rfl, q⟩ := q
    cases rv with
    | obj h1 h2 =>
      rcases q with ⟨rfl, q⟩ | ⟨hm, q⟩
      · exact ⟨_, _, _, _, true, rfl, .own _, .base (.ins (s _ _ h1) c i.ha i.hn i.htk i.hm), by unfold PySem.W.kitOne; rw [if_pos (beq_self_eq_true _)], k _ _ G H (Gr.refl s) (.bl _) q⟩
      · obtain ⟨c', i', hs, hne⟩ := ho _ hm
        refine ⟨_, _, _, _, false, rfl, .own _, .base (.ins (s _ _ h1) c' i'.ha i'.hn i'.htk i'.hm), ?_, k _ _ G H (Gr.refl s) (.bl _) q⟩
        unfold PySem.W.kitOne
        rw [if_neg (by rw [hne]; exact Bool.false_ne_true)]
        show (if _ then _ else _) = _
        rw [if_pos i.ic]; exact hs
  · obtain ⟨v, u, rfl, rv, ru⟩ := reps2 r
    cases ru
    obtain ⟨rfl, ht, q⟩ := q
    obtain ⟨t, et⟩ := Option.isSome_iff_exists.mp ht
    refine ⟨_, _, _, _, false, rfl, .own _, (rv.toH s).tyx et, ?_, k _ _ G H (Gr.refl s) (.bl _) q⟩
    unfold PySem.W.kitOne
    rw [if_neg (show ¬ ((Value.type t == Value.ref (He.ga X.K _)) = true) from Bool.false_ne_true)]
    show (if _ then _ else _) = _
    rw [if_pos i.ic]; exact sub_no (tn_mem et)
  · exact q.elim⟩
/-! ### dicts of one's own -/
def putD {κ : Type} [DecidableEq κ] (kvs : List (κ × D)) (k : κ) (v : D) : List (κ × D) :=
  if (kvs.any fun kv => decide (kv.1 = k)) = true then kvs.map (fun kv => if kv.1 = k then (kv.1, v) else kv) else kvs ++ [(k, v)]
def dropD {κ : Type} [DecidableEq κ] (kvs : List (κ × D)) (k : κ) : List (κ × D) := kvs.filter fun kv => decide (kv.1 ≠ k)
section
variable {K : PySem.W.Frag} {G H : Hp}
theorem RepK.any {k : Key} : ∀ {vs : List (Key × V)} {xs : List (Key × D)}, RepK K G vs xs → (vs.any fun kv => decide (kv.1 = k)) = (xs.any fun kv => decide (kv.1 = k))
  | _, _, .nil => rfl
  | _, _, .cons _ r => by rw [List.any_cons, List.any_cons, RepK.any r]
theorem RepK.snoc {k : Key} {v : V} {x : D} (h : Rep K G v x) : ∀ {vs : List (Key × V)} {xs : List (Key × D)}, RepK K G vs xs → RepK K G (vs ++ [(k, v)]) (xs ++ [(k, x)])
  | _, _, .nil => .cons h .nil
  | _, _, .cons h0 r => .cons h0 (RepK.snoc h r)
theorem RepK.mapK {k : Key} {v : V} {x : D} (h : Rep K G v x) : ∀ {vs : List (Key × V)} {xs : List (Key × D)}, RepK K G vs xs → RepK K G (vs.map fun kv => if kv.1 = k then (kv.1, v) else kv) (xs.map fun kv => if kv.1 = k then (kv.1, x) else kv)
  | _, _, .nil => .nil
  | _, _, .cons (k := k0) h0 r => by
    rw [List.map_cons, List.map_cons]
    by_cases e : k0 = k
    · rw [if_pos e, if_pos e]; exact .cons h (RepK.mapK h r)
    · rw [if_neg e, if_neg e]; exact .cons h0 (RepK.mapK h r)
theorem RepK.put {k : Key} {v : V} {x : D} {vs : List (Key × V)} {xs : List (Key × D)} (h : Rep K G v x) (r : RepK K G vs xs) : RepK K G (putK vs k v) (putD xs k x) := by
  unfold putK putD
  rw [r.any (k := k)]
  split
  · exact r.mapK h
  · exact r.snoc h
theorem RepK.drop {k : Key} : ∀ {vs : List (Key × V)} {xs : List (Key × D)}, RepK K G vs xs → RepK K G (dropK vs k) (dropD xs k)
  | _, _, .nil => .nil
  | _, _, .cons (k := k0) h r => by
    unfold dropK dropD
    rw [List.filter_cons, List.filter_cons]
    by_cases e : k0 = k
    · rw [if_neg (by simp [e]), if_neg (by simp [e])]; exact RepK.drop r
    · rw [if_pos (by simp [e]), if_pos (by simp [e])]; exact .cons h (RepK.drop r)
theorem RepT.any {k : List Key} : ∀ {vs : List (List Key × V)} {xs : List (List Key × D)}, RepT K G vs xs → (vs.any fun kv => decide (kv.1 = k)) = (xs.any fun kv => decide (kv.1 = k))
  | _, _, .nil => rfl
  | _, _, .cons _ r => by rw [List.any_cons, List.any_cons, RepT.any r]
theorem RepT.snoc {k : List Key} {v : V} {x : D} (h : Rep K G v x) : ∀ {vs : List (List Key × V)} {xs : List (List Key × D)}, RepT K G vs xs → RepT K G (vs ++ [(k, v)]) (xs ++ [(k, x)])
  | _, _, .nil => .cons h .nil
  | _, _, .cons h0 r => .cons h0 (RepT.snoc h r)
theorem RepT.mapK {k : List Key} {v : V} {x : D} (h : Rep K G v x) : ∀ {vs : List (List Key × V)} {xs : List (List Key × D)}, RepT K G vs xs → RepT K G (vs.map fun kv => if kv.1 = k then (kv.1, v) else kv) (xs.map fun kv => if kv.1 = k then (kv.1, x) else kv)
  | _, _, .nil => .nil
  | _, _, .cons (k := k0) h0 r => by
    rw [List.map_cons, List.map_cons]
    by_cases e : k0 = k
    · rw [if_pos e, if_pos e]; exact .cons h (RepT.mapK h r)
    · rw [if_neg e, if_neg e]; exact .cons h0 (RepT.mapK h r)
theorem RepT.put {k : List Key} {v : V} {x : D} {vs : List (List Key × V)} {xs : List (List Key × D)} (h : Rep K G v x) (r : RepT K G vs xs) : RepT K G (putK vs k v) (putD xs k x) := by
  unfold putK putD
  rw [r.any (k := k)]
  split
  · exact r.mapK h
  · exact r.snoc h
theorem RepT.length : ∀ {vs : List (List Key × V)} {xs : List (List Key × D)}, RepT K G vs xs → vs.length = xs.length
  | _, _, .nil => rfl
  | _, _, .cons _ r => by simp [RepT.length r]
end
/-! ### dict comprehensions -/
def dcGo (g : WG) (tt : WT) (tk tv : WE) (vs : List Nat) (Q : List (Key × D) → En → Prop) : List D → List (Key × D) → En → Prop
  | [], acc, en => Q acc en
  | x :: xs, acc, en => g x en (fun en1 => tt en1 (fun c en2 => if c = true then tk en2 (fun y en3 => tv en3 (fun z en4 => match keyD y with
      | some k => acc.length < 100000 ∧ dcGo g tt tk tv vs Q xs (putD acc k z) (wipeE en4 vs)
      | none => False) noE) noE else dcGo g tt tk tv vs Q xs acc (wipeE en2 vs)) noE)
abbrev WFK := En → (List (Key × D) → En → Prop) → EK → Prop
def fDc (wi : WI) (g : WG) (tt : WT) (tk tv : WE) (vs : List Nat) : WFK := fun en Q E => wi en (fun xs en1 => dcGo g tt tk tv vs Q xs [] (wipeE en1 vs)) E
/-- a new dict that no name has -/
def RlFK (K : PySem.W.Frag) (W : WX) (w : WFK) : TE := fun σ H Z => ∃ C G en Q E, Rel K C G H σ en ∧ XOk K W C E ∧ w en Q E ∧
  ∀ a vs xs G' H' en', Rel K C G' H' σ en' → Same G G' → H' a = some (.dK vs) → Nw C G' H' σ en' a → RepK K G' vs xs → Q xs en' → Z (.ref a) H'
def eFK (w : WFK) : WE := fun en Q E => w en (fun xs en1 => Q (.dic xs) en1) E
section
variable {W : WX} {J : It} {n : Nat} {g : TG} {tt : TT} {tk tv : TE} {vs : List Nat} {σ : L2.St} {H H1 : Hp} {Dl : Addr} {Qd : Hp → Prop}
theorem dc_by (Pv : Nat → Hp → Prop) (h0 : Pv 0 (upd H1 Dl (.dK []))) (hgo : ∀ i H, i < n → Pv i H → J.go i H) (hst : ∀ H, Pv n H → J.stop n H)
    (hs : ∀ i H x H', i < n → Pv i H → J.yld i H x H' → g x (L2.wipe σ vs) H' fun σ2 H2 => L2.wipe σ2 vs = L2.wipe σ vs ∧ tt σ2 H2 fun b H3 => if b = true then tk σ2 H3 fun y H4 => tv σ2 H4 fun z H5 => ∃ kvs k, y = kV k ∧ H5 Dl = some (.dK kvs) ∧ kvs.length < sizeLine ∧ Pv (i + 1) (upd H5 Dl (.dK (putK kvs k z))) else Pv (i + 1) H3)
    (hd : ∀ H, Pv n H → Qd H) : ∃ W : Nat → Nat → Hp → Prop, (∃ m, W 0 m (upd H1 Dl (.dK []))) ∧ ∀ i m H, W i m H → (J.stop i H ∧ Qd H) ∨ (J.go i H ∧ ∃ Nx : Hp → Prop, (∀ H', Nx H' → ∃ m', m' < m ∧ W (i + 1) m' H') ∧
      ∀ x H', J.yld i H x H' → g x (L2.wipe σ vs) H' fun σ2 H2 => L2.wipe σ2 vs = L2.wipe σ vs ∧ tt σ2 H2 fun b H3 => if b = true then tk σ2 H3 fun y H4 => tv σ2 H4 fun z H5 => ∃ kvs k, y = kV k ∧ H5 Dl = some (.dK kvs) ∧ kvs.length < sizeLine ∧ Nx (upd H5 Dl (.dK (putK kvs k z))) else Nx H3) := by
  refine ⟨fun i m H => m = n - i ∧ i ≤ n ∧ Pv i H, ⟨n, by omega, Nat.zero_le _, h0⟩, fun i m H ⟨hm, hi, pv⟩ => ?_⟩
  by_cases lt : i < n
  · exact .inr ⟨hgo i H lt pv, Pv (i + 1), fun H' z => ⟨n - (i + 1), by omega, rfl, lt, z⟩, fun x H' y => hs i H x H' lt pv y⟩
  · have e : i = n := by omega
    subst e
    exact .inl ⟨hst H pv, hd H pv⟩
theorem rlf_dc {K : PySem.W.Frag} {wi : WI} {g : WG} {tt : WT} {tk tv : WE} {vs : List Nat} {σ : L2.St} {H : Hp} {Z : VK} (h : RlFK K W (fDc wi g tt tk tv vs) σ H Z) :
    tDc (RlI K W wi) (RlG K vs g) (RlT K (fun _ _ _ _ => False) tt) (Rl K (fun _ _ _ _ => False) tk) (Rl K (fun _ _ _ _ => False) tv) vs σ H Z := by
  obtain ⟨C0, G, en, Q, E, R, xo0, q, k⟩ := h
  refine ⟨C0, G, en, _, E, R, xo0, q, fun J xs G1 H1 en1 R1' s1 go q1 Dl nD => ?_⟩
  have xw : ∀ C : Ctx, XOk K (fun _ _ _ _ => False) C noE := fun C _ _ _ _ _ _ _ _ _ z => z
  have hk0 := R1'.hk0 nD
  have h00 := R1'.H0 nD
  have R1 := ((R1'.newH (o := .dK []) nD).wipe vs).anchor
  have ha : ∀ G H σ en, Rel K { C0 with an := G1 } G H σ en → Same G1 G := fun _ _ _ _ R => R.anc
  have hw : ∀ {G H σ en}, Rel K { C0 with an := G1 } G H σ en → Rel K C0 G H σ en := fun R => R.weak R1'.anc
  have e1 : ({ C0 with an := G1 } : Ctx).H0 Dl = none := h00
  have e2 : ({ C0 with an := G1 } : Ctx).hk Dl = none := hk0
  generalize { C0 with an := G1 } = C at R1 ha hw e1 e2
  refine dc_by (n := xs.length) (fun i H => ∃ G2 en2 vacc acc, Rel K C G2 H (L2.wipe σ vs) en2 ∧ H Dl = some (.dK vacc) ∧ Nw C G2 H (L2.wipe σ vs) en2 Dl ∧ RepK K G2 vacc acc ∧ (∀ i ∈ vs, en2.sl[i]? = some none ∨ en2.sl[i]? = none) ∧ dcGo g tt tk tv vs Q (xs.drop i) acc en2)
    ⟨G1, _, [], [], R1, upd_same, ⟨R1'.sub.free nD, e1, freeW (R1'.freeN nD), e2⟩, .nil, fun i hi => wipeE_none hi, q1⟩ (fun i H2 hi ⟨G2, en2, vacc, acc, R2, _⟩ => ?_) (fun H2 ⟨G2, en2, vacc, acc, R2, _⟩ => ?_) (fun i H2 v H3 hi ⟨G2, en2, vacc, acc, R2, hd, nw, rp, en0, q2⟩ hy => ?_) fun H2 ⟨G2, en2, vacc, acc, R2, hd, nw, rp, en0, q2⟩ => ?_
  · exact ((go G2 H2 (ha _ _ _ _ R2) R2.sub).1 i _ (List.getElem?_eq_getElem hi)).1
  · exact (go G2 H2 (ha _ _ _ _ R2) R2.sub).2
  · obtain ⟨G3, g3, r3⟩ := ((go G2 H2 (ha _ _ _ _ R2) R2.sub).1 i _ (List.getElem?_eq_getElem hi)).2 v H3 hy
    rw [List.drop_eq_getElem_cons hi] at q2
    have R3 := (R2.hold hd (fun _ z => nomatch z) nw.1 nw.2.1 nw.2.2.1).grow g3
    refine ⟨_, G3, en2, _, _, R3, r3, q2, fun G4 H4 σ4 en4 R4 s4 t4 q4 => ⟨(wipe_eq t4).trans wipe_wipe, ?_⟩⟩
    refine ⟨_, G4, en4, _, _, R4, xw _, q4, fun c G5 H5 en5 R5 s5 q5 => ?_⟩
    have wσ : L2.wipe σ4 vs = L2.wipe σ vs := (wipe_eq t4).trans wipe_wipe
    cases c with
    | true =>
      rw [if_pos rfl] at q5
      refine iteT ?_
      refine ⟨_, G5, en5, _, _, R5, xw _, q5, fun y x G6 H6 en6 R6 s6 r6 q6 => ?_⟩
      refine ⟨_, G6, en6, _, _, R6, xw _, q6, fun y2 x2 G7 H7 en7 R7 s7 r7 q7 => ?_⟩
      split at q7
      · rename_i ky eky
        obtain ⟨d1, _, d2, d3, d4⟩ := R7.hkk Dl _ upd_same
        refine ⟨vacc, ky, r6.key eky, d1, by rw [rp.length]; exact sz5l q7.1, ?_⟩
        have R7' := R7.unhold nw.2.2.2
        have R8 := (R7'.mutN (o := .dK (putK vacc ky y2)) d2 d3 (fun _ z => nomatch z) d4 nw.2.2.2).wipe vs
        have fw := freeW (vs := vs) (R7'.freeU (o := .dK (putK vacc ky y2)) d4)
        rw [wσ] at R8 fw
        exact ⟨G7, _, _, _, R8, upd_same, ⟨d2, d3, fw, nw.2.2.2⟩, (rp.mono ((((g3.gg.trans s4).trans s5).trans s6).trans s7)).put r7, fun i hi => wipeE_none hi, q7.2⟩
      · exact q7.elim
    | false =>
      rw [if_neg (by decide)] at q5
      refine iteF ?_
      obtain ⟨d1, _, d2, d3, d4⟩ := R5.hkk Dl _ upd_same
      have R8 := (R5.unhold nw.2.2.2).wipe vs
      have fw := freeW (vs := vs) d4
      rw [wσ] at R8 fw
      exact ⟨G5, _, _, _, R8, d1, ⟨d2, d3, fw, nw.2.2.2⟩, rp.mono ((g3.gg.trans s4).trans s5), fun i hi => wipeE_none hi, q5⟩
  · rw [List.drop_length] at q2
    have hu : Rel K C G2 H2 σ en2 := R2.unwipe en0
    exact k Dl vacc acc G2 H2 en2 (hw hu) (s1.trans (ha _ _ _ _ R2)) hd ⟨nw.1, h00, fun j z => nw.2.2.1 j (by rw [fpW en0]; exact z), hk0⟩ rp q2
theorem rlFK {K : PySem.W.Frag} {wf : WFK} {σ : L2.St} {H : Hp} {Z : VK} (h : Rl K W (eFK wf) σ H Z) : RlFK K W wf σ H Z := by
  obtain ⟨C, G, en, Q, E, R, xo, q, k⟩ := h
  refine ⟨C, G, en, _, E, R, xo, q, fun a vs xs G1 H1 en1 R1 s1 h1 n r1 q1 => ?_⟩
  have sg : Same G1 (upd G1 a (.dK vs)) := KP.Same.new n.1
  exact k (.ref a) (.dic xs) _ H1 en1 (R1.adopt h1 n.1 n.2.1 n.2.2.1 n.2.2.2) (s1.trans sg) (.dic upd_same (r1.mono sg)) q1
/-- {k: v for ..} as data -/
theorem d_dc {X : Cx} {e : Expr} {wi : WI} {g : WG} {tt : WT} {tk tv : WE} {vs : List Nat} (h : PE X e (tDc (RlI X.K W wi) (RlG X.K vs g) (RlT X.K (fun _ _ _ _ => False) tt) (Rl X.K (fun _ _ _ _ => False) tk) (Rl X.K (fun _ _ _ _ => False) tv) vs)) : DE X W e (eFK (fDc wi g tt tk tv vs)) := PE.of h fun _ _ _ q => rlf_dc (rlFK q)
theorem df_dc {X : Cx} {e : Expr} {wi : WI} {g : WG} {tt : WT} {tk tv : WE} {vs : List Nat} (h : PE X e (tDc (RlI X.K W wi) (RlG X.K vs g) (RlT X.K (fun _ _ _ _ => False) tt) (Rl X.K (fun _ _ _ _ => False) tk) (Rl X.K (fun _ _ _ _ => False) tv) vs)) : PE X e (RlFK X.K W (fDc wi g tt tk tv vs)) := PE.of h fun _ _ _ q => rlf_dc q
end
/-! ### names with a dict of their own -/
section
variable {X : Cx} {W : WX} {st : Stmt} {w : WE}
def sSetFK (i : Nat) (w : WFK) : WS := fun N en => w en (fun xs en1 => N.nx (en1.set i (some (.odk xs)))) N.ex
theorem ds_setFK {i : Nat} {wf : WFK} (h : PS X st (tAsg (RlFK X.K W wf) (gName i))) : DS X W st (sSetFK i wf) := PS.of h fun D σ H ⟨C, G, en, N, R, xo, q, L⟩ =>
  ⟨C, G, en, _, _, R, xo, q, fun a vs xs G1 H1 en1 R1 s1 h1 n r1 q1 => L.nx G1 H1 _ _ (R1.setO (b := .odk _) ⟨a, vs, rfl, h1, n.1, n.2.1, r1⟩ rfl n.2.2.1 n.2.2.2) q1⟩
end
end KD

/-! tuple(d), list(d) of a dict. -/
namespace KD
open PySem PySem.Spec PyProof.Rows L2 KP
section
variable {prog : Program} {w : World} {A : Around} {E : Value → Shared → Prop} {s : Shared} {T : String} {r d : Addr} {n : Nat} {P : Nat → Value → Prop} {OK : Heap → Prop}
theorem collect_kdl {Q : List Value → Shared → Prop} (Ks : PySem.W.KdlSrc prog w T r d n P OK) (hh : A.handled = none) (hok : OK s.heap) (hn : n ≤ sizeLine)
    (hQ : ∀ (h' : Heap) (tk : Nat) (acc : Array Value), (∀ b o, s.heap.get? b = some o → h'.get? b = some o) → ItemsOf P acc n → Q acc.toList { s with heap := h', toks := tk }) :
    wpAny (model prog w) A (collect (.ref r)) Q E s := by
  unfold collect
  refine wpAny_bind (wpAny_runValue (codeAny_builtin F.entry_proto_collect ?_))
  rw [Around.under_plainId F.plain_proto_collect _]
  show wpAny _ A.in1 (newList [] >>= fun l => again (.builtin "list.__iadd__" ⟨[l, .ref r], []⟩)) _ _ s
  refine wpAny_bind (wpAny_newObj_type ?_)
  refine wpAny_pure ⟨plainId_quiet F.plain_list_iadd _, codeAny_builtin F.entry_list_iadd ?_⟩
  rw [Around.under_plainId F.plain_list_iadd _]
  show wpAny _ A.in1 (Builtin.List.listExtendWith (.ref s.heap.objs.size) (.ref r) (.ref s.heap.objs.size)) _ _ _
  have hS : (s.heap.push { cls := .type "list", data := .seq ([] : List Value).toArray }).get? s.heap.objs.size = some { cls := .type "list", data := .seq #[] 0 } := Heap.get?_push_size _ rfl
  have hlt := Ks.there _ hok
  refine wpAny_mono (PySem.W.kdl_extend (A := A) (R := fun rr s' => rr = .ok (.ret (.ref s.heap.objs.size)) ∧ ∃ (h' : Heap) (tk : Nat) (acc : Array Value) (c' : Nat), s' = { s with heap := h', toks := tk } ∧
      (∀ b o, s.heap.get? b = some o → h'.get? b = some o) ∧ h'.get? s.heap.objs.size = some { cls := .type "list", dict := none, data := .seq acc c', slots := #[] } ∧ ItemsOf P acc n)
    (s := { s with heap := s.heap.push { cls := .type "list", data := .seq ([] : List Value).toArray } }) Ks hh (Ks.keep _ _ hok fun b _ o e => Heap.get?_push_of_some _ e) _ (Nat.ne_of_gt hlt.1) (Nat.ne_of_gt hlt.2) (.ref s.heap.objs.size) 0 hS
    (fun h' tk acc c' hk e hi => ⟨rfl, h', tk, acc, c', rfl, fun b o q => hk b o (Nat.ne_of_lt (Heap.lt_size q)) (Heap.get?_push_of_some _ q), e, hi⟩) hn) (fun fin s' h => ?_) (fun e s' h => ?_)
  · cases fin with
    | done f =>
      obtain ⟨e, h', tk, acc, c', rfl, hk, hS', hi⟩ := h
      cases e
      show wpAny _ A (load s.heap.objs.size >>= _) _ _ _
      exact wpAny_bind (wpAny_load hS' (wpAny_pure (hQ h' tk acc hk hi)))
    | again c' =>
      refine ⟨h.1, codeAny_mono h.2 fun rr s'' hr' => ?_⟩
      obtain ⟨rfl, h', tk, acc, c', rfl, hk, hS', hi⟩ := hr'
      show wpAny _ A (load s.heap.objs.size >>= _) _ _ _
      exact wpAny_bind (wpAny_load hS' (wpAny_pure (hQ h' tk acc hk hi)))
  · exact absurd h.1 (by simp)
theorem code_tuple_new_kdl {Q₁ : Value → Shared → Prop} (Ks : PySem.W.KdlSrc prog w "dict" r d n P OK) (hh : A.handled = none) (hok : OK s.heap) (hn : n ≤ sizeLine)
    (h : ∀ (h' : Heap) (tk : Nat) (acc : Array Value), (∀ b o, s.heap.get? b = some o → h'.get? b = some o) → ItemsOf P acc n →
      Q₁ (.ref h'.objs.size) { s with heap := h'.push { cls := .type "tuple", data := .seq acc }, toks := tk }) :
    codeAny (model prog w) A (.call (.builtin "tuple.__new__") ⟨[.type "tuple", .ref r], []⟩) (wants Q₁ E) s := by
  refine codeAny_of_tree ?_
  show wpAny _ A.in1 (do checkBuiltinCall "tuple.__new__" ⟨[.type "tuple", .ref r], []⟩; again (.builtin "tuple.__new__" ⟨[.type "tuple", .ref r], []⟩)) _ _ s
  refine wpAny_bind (wpAny_of_eq (F.newCall_tuple_1 _) (wpAny_pure ⟨plainId_quiet F.plain_tuple_new _, codeAny_builtin F.entry_tuple_new ?_⟩))
  rw [Around.under_plainId F.plain_tuple_new _]
  have hsub := sub_tuple_self
  have hinit := init_tuple_lookup
  have hmh := madeHere_tuple
  have hTI : s.TypeIs (.ref r) "dict" := Ks.type s hok
  have hh1 : A.in1.handled = none := hh
  wp_walk using wpAny_typeOf hTI, collect_kdl (A := A.in1) Ks hh1 hok hn
  intro h' tk acc hk hacc
  show wpAny _ _ (Builtin.Tuple.tupleExact acc.toList.toArray >>= fun v => ret v) _ _ _
  unfold Builtin.Tuple.tupleExact
  refine wpAny_bind (wpAny_newObj_type ?_ (by show acc.toList.toArray.size ≤ sizeLine; simp only [Array.toArray_toList]; rw [hacc.1]; exact hn))
  refine wpAny_pure ?_
  have e : acc.toList.toArray = acc := by simp
  rw [e]
  exact h h' tk acc hk hacc
theorem call_tuple_kdl {Q : Value → Shared → Prop} (Ks : PySem.W.KdlSrc prog w "dict" r d n P OK) (hh : A.handled = none) (hok : OK s.heap) (hn : n ≤ sizeLine)
    (hQ : ∀ (h' : Heap) (tk : Nat) (acc : Array Value), (∀ b o, s.heap.get? b = some o → h'.get? b = some o) → ItemsOf P acc n →
      Q (.ref h'.objs.size) { s with heap := h'.push { cls := .type "tuple", data := .seq acc }, toks := tk }) :
    wpAny (model prog w) A (call (.type "tuple") [.ref r]) Q E s := by
  refine callType_codes (Q₁ := fun obj s₁ => s₁.TypeIs obj "tuple" ∧ Q obj s₁) F.called_tuple (F.typeCall_tuple_1 _) F.entry_object_init
    (code_tuple_new_kdl (A := A.in1) Ks hh hok hn fun h' tk acc hk hacc => ⟨⟨_, Heap.get?_push_size _ rfl, rfl⟩, hQ h' tk acc hk hacc⟩) fun obj s₁ h₁ => ?_
  exact ⟨h₁.1, F.args_object_init_2 obj _, object_init_meets F.called_tuple.init.lookup F.called_tuple.made (by decide) prog w A.in1 _ s₁ ⟨h₁.1, rfl, h₁.2⟩⟩
end
theorem call_tuple_dK {X : Cx} (hc : X.calm = true) : CallR X (.type "tuple") (fun xs H Q => ∃ p kvs, xs = [V.ref p] ∧ H p = some (.dK kvs) ∧ ∀ q, H q = none → Q (.ref q) (upd H q (.tup (kvs.map fun kv => kV kv.1)))) := by
  intro pins s σ H xs us Q I r h
  obtain ⟨p, kvs, e, hk, q⟩ := h
  subst e
  obtain ⟨u, eu, rx⟩ := vals1 r
  subst eu
  obtain rfl : u = Value.ref p := rx
  obtain ⟨z, lo, vs, rk, hd⟩ := (show ObjOk X.prog X.w H s.heap p (.dK kvs) from I.hok p _ hk)
  obtain ⟨ep, hat⟩ := hd.dictAt
  have hl : kvs.length = vs.length := Paired.length rk
  refine call_tuple_kdl (PySem.W.kdl_dict (knd := mixKind X.prog X.w) (kvs := vs) (ep := ep) lo) (I.ok.hd hc) hat (by rw [← hl]; exact z) fun h' tk acc' hkeep hacc => ?_
  have I1 : Inv X pins σ H { s with heap := h', toks := tk } := I.kept hkeep
  have el : acc'.toList.length = acc'.size := by simp
  have rv : Vals (kvs.map fun kv => kV kv.1) acc'.toList := by
    refine vals_of_at (by rw [List.length_map, el, hacc.1, hl]) fun j x w h1 h2 => ?_
    obtain ⟨k, y, hky, hi⟩ := hacc.2 j w (by rw [← Array.getElem?_toList]; exact h2)
    have e1 : (kvs.map (·.1))[j]? = some k := by
      rw [KV.keys rk, List.getElem?_map, hky] <;> rfl
    have e2 : (kvs.map fun kv => kV kv.1)[j]? = some (kV k) := by
      have e3 : (kvs.map fun kv => kV kv.1) = (kvs.map (·.1)).map kV := by rw [List.map_map] <;> rfl
      rw [e3, List.getElem?_map, e1] <;> rfl
    rw [e2] at h1
    cases h1
    exact keyIs_rel hi
  have I2 : Inv X pins σ (upd H h'.objs.size (.tup (kvs.map fun kv => kV kv.1))) { s with heap := h'.push { cls := .type "tuple", data := .seq acc' }, toks := tk } :=
    I1.laid (t' := tk) (fun b o e => Heap.get?_push_of_some _ e) (Nat.le_refl _) (show ObjOk X.prog X.w _ _ _ (.tup (kvs.map fun kv => kV kv.1)) from ⟨by rw [List.length_map]; exact z, acc'.toList, rv, by
      have := IsTup.new h' acc'.toList.toArray
      simpa using this⟩)
  exact ⟨.ref h'.objs.size, _, I2, rfl, q _ (I1.hok.fresh (Nat.le_refl _))⟩
def kD : Key → D
  | .inl i => .int i
  | .inr z => .str z
theorem reps_keys {K : PySem.W.Frag} {G : Hp} {vs : List (Key × V)} {xs : List (Key × D)} : RepK K G vs xs → Reps K G (vs.map fun kv => kV kv.1) (xs.map fun kv => kD kv.1)
  | .nil => .nil
  | .cons (k := k) _ r => .cons (by cases k with | inl i => exact .int i | inr z => exact .str z) (reps_keys r)
def oTuple2 : OC := fun xs Q => match xs with | [.dic kvs] => Q (.tup (kvs.map fun kv => kD kv.1)) | xs => oTuple xs Q
theorem call_tuple2D {X : Cx} (hc : X.calm = true) : CallD X (.type "tuple") oTuple2 := by
  obtain ⟨r0, h1, h2⟩ := call_tupleD (X := X)
  refine ⟨_, CallR.or (call_tuple_dK hc) h1, fun G H vs xs Q Z s r q k => ?_⟩
  unfold oTuple2 at q
  split at q
  · obtain ⟨v, rfl, rv⟩ := reps1 r
    cases rv with
    | dic h1 h2 => exact .inl ⟨_, _, rfl, s _ _ h1, fun p np => k _ _ _ _ (Gr.new1 s np) (.tup (SqT.of upd_same) ((reps_keys h2).mono (KP.Same.new (s.free np)))) q⟩
  · exact .inr (h2 G H vs _ Q Z s r q k)
end KD

/-! + and - of own classes, as they are printed. -/
namespace KD
open PySem PySem.Spec PyProof.Rows L2 KP
theorem fl_int_add : fillsNumberSlot (.type "int") "add" = pure true := by
  unfold fillsNumberSlot
  simp only [typeLookup_type, builtinLookup_eq_fast]
  kernel_rfl
theorem fl_str_sub : fillsNumberSlot (.type "str") "sub" = pure false := by
  unfold fillsNumberSlot
  simp only [typeLookup_type, builtinLookup_eq_fast]
  kernel_rfl
theorem ra_int_add : typeLookup (.type "int") (dunderR "add") = pure (some (.builtin "int.__radd__")) := by rw [typeLookup_type, builtinLookup_eq_fast]; kernel_rfl
theorem ra_str_sub : typeLookup (.type "str") (dunderR "sub") = pure none := by rw [typeLookup_type, builtinLookup_eq_fast]; kernel_rfl
theorem mro_int : fastBuiltinMro "int" = some [.type "int", .type "object"] := by kernel_rfl
theorem mro_str : fastBuiltinMro "str" = some [.type "str", .type "object"] := by kernel_rfl
theorem dn_add : PySem.dunder "add" = ("__add__" : Str) := by decide +kernel
theorem dn_radd : dunderR "add" = ("__radd__" : Str) := by decide +kernel
theorem dn_sub : PySem.dunder "sub" = ("__sub__" : Str) := by decide +kernel
theorem dn_rsub : dunderR "sub" = ("__rsub__" : Str) := by decide +kernel
section
variable {X : Cx} {W : WX} {a b : Expr} {wa wb : WE} {pos : Pos} {k : Nat} {f : Addr} {fd : FuncData} {ps : List Str} {Wd : WD} {cn : Str}
theorem d_addI (ha : DE X W a wa) (hb : DE X W b wb) (hm : Meth X.K (He.ga X.K cn) "__add__" f) (hr : NoAttr X.K (He.ga X.K cn) "__radd__") (sf : PySem.W.selfFirst X.K (He.ga X.K cn) = true)
    (F : FnOk X.prog X.w X.K X.mg X.base (L2.CX X.prog X.w) k f fd ps (Pr X.K Wd)) (hroom : Room k X.A) (hbd : Binds X.K fd ps []) (tk : Takes X W) : DE X W (.BinOp a .Add b pos) (eOwn2 cn (okT "int") Wd wa wb) :=
  d_binT (op := .Add) ha hb (by show Meth X.K _ (PySem.dunder "add") f; rw [dn_add]; exact hm) (by show NoAttr X.K _ (dunderR "add"); rw [dn_radd]; exact hr) sf mro_int (by decide +kernel) fl_int_add rfl ra_int_add F hroom hbd tk
theorem d_subS (ha : DE X W a wa) (hb : DE X W b wb) (hm : Meth X.K (He.ga X.K cn) "__sub__" f) (hr : NoAttr X.K (He.ga X.K cn) "__rsub__") (sf : PySem.W.selfFirst X.K (He.ga X.K cn) = true)
    (F : FnOk X.prog X.w X.K X.mg X.base (L2.CX X.prog X.w) k f fd ps (Pr X.K Wd)) (hroom : Room k X.A) (hbd : Binds X.K fd ps []) (tk : Takes X W) : DE X W (.BinOp a .Sub b pos) (eOwn2 cn (okT "str") Wd wa wb) :=
  d_binT (op := .Sub) ha hb (by show Meth X.K _ (PySem.dunder "sub") f; rw [dn_sub]; exact hm) (by show NoAttr X.K _ (dunderR "sub"); rw [dn_rsub]; exact hr) sf mro_str (by decide +kernel) fl_str_sub rfl ra_str_sub F hroom hbd tk
theorem d_addC {cn2 : Str} {f2 : Addr} (ha : DE X W a wa) (hb : DE X W b wb) (hm : Meth X.K (He.ga X.K cn) "__add__" f) (hr : NoAttr X.K (He.ga X.K cn) "__radd__") (sf : PySem.W.selfFirst X.K (He.ga X.K cn) = true)
    (hm2 : Meth X.K (He.ga X.K cn2) "__add__" f2) (hr2 : NoAttr X.K (He.ga X.K cn2) "__radd__") (sf2 : PySem.W.selfFirst X.K (He.ga X.K cn2) = true) (hsub : PySem.W.subIn X.K (.ref (He.ga X.K cn2)) (.ref (He.ga X.K cn)) = some false ∧ (Value.ref (He.ga X.K cn) == Value.ref (He.ga X.K cn2)) = false)
    (F : FnOk X.prog X.w X.K X.mg X.base (L2.CX X.prog X.w) k f fd ps (Pr X.K Wd)) (hroom : Room k X.A) (hbd : Binds X.K fd ps []) (tk : Takes X W) : DE X W (.BinOp a .Add b pos) (eOwn2 cn (okC cn2) Wd wa wb) :=
  d_binC (op := .Add) ha hb (by show Meth X.K _ (PySem.dunder "add") f; rw [dn_add]; exact hm) (by show NoAttr X.K _ (dunderR "add"); rw [dn_radd]; exact hr) sf (by show Meth X.K _ (PySem.dunder "add") f2; rw [dn_add]; exact hm2) (by show NoAttr X.K _ (dunderR "add"); rw [dn_radd]; exact hr2) sf2 hsub.1 hsub.2 F hroom hbd tk
end
/-- a def with keyword-only parameters, as its callers want it -/
structure CalK (P : Program) (w : World) (K : PySem.W.Frag) (mg : Str → Option Value) (base : Heap) (k : Nat) (f : Addr) (fd : FuncData) (ps : List Str) (sp : Sp) : Prop where
  F : FnOk P w K mg base (L2.CX P w) k f fd ps sp
  kp : PySem.W.keepIn K (.ref f) = true
end KD

/-! What the law's drawing defs do, over data. -/
namespace KD
open PySem PySem.Spec PyProof.Rows L2 KP
@[irreducible] def W_draw : WD := fun bs b Q _ => match bs with
  | [.pen, .d (.int many)] => 0 < many ∧ many ≤ 10 ^ 100 ∧ b < 10 ^ 11 ∧ ∀ r b', b' ≤ b + 13 → 0 ≤ r → r < many → Q (.int r) b'
  | _ => False
@[irreducible] def W_around : WD := fun bs b Q _ => match bs with
  | [.pen, .d (.int most)] => 0 ≤ most ∧ most ≤ 10 ^ 99 ∧ b < 10 ^ 11 ∧ ∀ r b', b' ≤ b + 13 → -most ≤ r → r ≤ most → Q (.int r) b'
  | _ => False
/-- the items of a list, a tuple, a text -/
def seqD : D → Option (List D)
  | .lst xs => some xs
  | .tup xs => some xs
  | .str z => if z.length ≤ 1000 then some (z.cps.toList.map fun c => .str ⟨#[c]⟩) else none
  | _ => none
@[irreducible] def W_pick : WD := fun bs b Q _ => match bs with
  | [.pen, .d x] => (match seqD x with
    | some xs => xs ≠ [] ∧ xs.length ≤ 1000 ∧ b < 10 ^ 11 ∧ ∀ y, y ∈ xs → ∀ b', b' ≤ b + 13 → Q y b'
    | none => False)
  | _ => False
/-- a name: one to eight small letters -/
def NameD (z : Str) : Prop := 1 ≤ z.length ∧ z.length ≤ 8 ∧ ∀ c ∈ z.cps.toList, 97 ≤ c ∧ c ≤ 122
@[irreducible] def W_names : WD := fun bs b Q _ => match bs with
  | [.pen, .d (.int many)] => 0 ≤ many ∧ many ≤ 52 ∧ b < 10 ^ 10 ∧ ∀ (zs : List Str) (b' : Int), b' ≤ b + 1000 → (zs.length : Int) = many → (∀ z ∈ zs, NameD z) → zs.Nodup → Q (.lst (zs.map D.str)) b'
  | _ => False
@[irreducible] def W_power : WD := fun bs b Q _ => match bs with
  | [.d (.int n)] => 0 ≤ n ∧ n ≤ 90 ∧ Q (.int (10 ^ n.toNat)) b
  | _ => False
@[irreducible] def W_great : WD := fun bs b Q _ => match bs with
  | [.pen, .d (.int n)] => 1 ≤ n ∧ n ≤ 90 ∧ b < 10 ^ 10 ∧ ∀ (r b' : Int), b' ≤ b + 100 → 0 ≤ r → r < 10 ^ n.toNat → Q (.int r) b'
  | _ => False
/-- a painter's parts -/
structure Pt where
  nm : Str
  dy : Int
  po : Int
  sr : Int
def Pt.d (q : Pt) : D := .tup [.str q.nm, .int q.dy, .int q.po, .int q.sr]
structure Pt.In (q : Pt) (D0 P0 S0 : Int) : Prop where
  nm : NameD q.nm
  d0 : 0 ≤ q.dy
  d1 : q.dy ≤ D0
  p0 : -P0 ≤ q.po
  p1 : q.po ≤ P0
  s0 : -S0 ≤ q.sr
  s1 : q.sr ≤ S0
  sn : q.sr ≠ 0
/-- what a painter may be -/
abbrev Pt.Ok (q : Pt) : Prop := q.In (10 ^ 30) (10 ^ 30) (10 ^ 18)
theorem Pt.In.mono {q : Pt} {a b c a' b' c' : Int} (h : q.In a b c) (h1 : a ≤ a') (h2 : b ≤ b') (h3 : c ≤ c') : q.In a' b' c' :=
  ⟨h.nm, h.d0, by have := h.d1; omega, by have := h.p0; omega, by have := h.p1; omega, by have := h.s0; omega, by have := h.s1; omega, h.sn⟩
/-- lists of painters, small or great -/
@[irreducible] def W_drawn (D0 P0 S0 B0 : Int) : WD := fun bs b Q _ => match bs with
  | [.pen, .d (.int most)] => 0 < most ∧ most ≤ 50 ∧ b < 10 ^ 9 ∧ ∀ (qs : List Pt) (b' : Int), b' ≤ b + B0 → (∀ q ∈ qs, q.In D0 P0 S0) → (qs.length : Int) ≤ most → 1 ≤ qs.length → (qs.map Pt.nm).Nodup → Q (.lst (qs.map Pt.d)) b'
  | _ => False
abbrev W_small : WD := W_drawn 7 9 9 30000
abbrev W_aimed : WD := W_drawn (2 * 10 ^ 29) (2 * 10 ^ 29) (2 * 10 ^ 17) 60000
abbrev W_lined : WD := W_drawn (2 * 10 ^ 29) (2 * 10 ^ 29) (2 * 10 ^ 17) 60000
@[irreducible] def W_painters : WD := fun bs b Q _ => match bs with
  | [.pen] => b < 10 ^ 8 ∧ ∀ (qs : List Pt) (b' : Int), b' ≤ b + 70000 → (∀ q ∈ qs, q.In (2 * 10 ^ 29) (2 * 10 ^ 29) (2 * 10 ^ 17)) → qs.length ≤ 6 → (qs.map Pt.nm).Nodup → Q (.lst (qs.map Pt.d)) b'
  | _ => False
section
variable {K : PySem.W.Frag} {G H H' G2 : Hp} {π : Option Pid} {p : Pid} {b b' : Int}
theorem args1 {C : Ctx} {vs : List V} {c : B} (h : ArgsR K C G vs [c]) : ∃ v, vs = [v] ∧ ArgR K C G v c := by
  cases h with
  | cons h r => cases r; exact ⟨_, rfl, h⟩
theorem args2 {C : Ctx} {vs : List V} {c d : B} (h : ArgsR K C G vs [c, d]) : ∃ v u, vs = [v, u] ∧ ArgR K C G v c ∧ ArgR K C G u d := by
  cases h with
  | cons h r => obtain ⟨u, rfl, h2⟩ := args1 r; exact ⟨_, _, rfl, h, h2⟩
/-- all but the pen is kept: behind an old promise -/
theorem fr_ext (s : Same G H) (e : Ext p.a H H') (hp : Pen K H' p b') (g : G p.a = none) : Fr K (some p) [] G H G H' b' :=
  ⟨Same.refl G, fun a o h => e.keep a o (fun z => by subst z; rw [g] at h; cases h) (s a o h), fun a h g => absurd g h, fun a o h n _ => e.keep a o (n p rfl) h, fun q eq => by cases eq; exact ⟨hp, g⟩, fun x e => nomatch e⟩
theorem fr_same (s : Same G H) (e : Same H H') (hp : ∀ q, π = some q → Pen K H q b ∧ G q.a = none) : Fr K π [] G H G H' b :=
  ⟨Same.refl G, fun a o h => e a o (s a o h), fun a h g => absurd g h, fun a o h _ _ => e a o h, fun q eq => ⟨(hp q eq).1.same e, (hp q eq).2⟩, fun x e => nomatch e⟩
/-- a new list of data behind an old promise -/
theorem fr_list (s : Same G H) (e : Ext p.a H H') (hp : Pen K H' p b') (g : G p.a = none) {l : Addr} {vs : List V} (nl : H l = none) (hl : H' l = some (.lst vs)) : Fr K (some p) [] G H (upd G l (.lst vs)) H' b' := by
  have f := fr_ext s e hp g
  have gl : G l = none := s.free nl
  refine ⟨KP.Same.new gl, fun a o h => ?_, fun a h g => ?_, f.keep, fun q eq => ⟨(f.pen q eq).1, ?_⟩, fun x e => nomatch e⟩
  · by_cases q : a = l
    · subst q; rw [upd_same] at h; cases h; exact hl
    · rw [upd_ne q] at h; exact f.sub a o h
  · by_cases q : a = l
    · subst q; exact .inl nl
    · rw [upd_ne q] at h; exact absurd g h
  · cases eq
    obtain ⟨kvs, hk⟩ := e.was
    rw [upd_ne (ne_of_none hk nl)]; exact g
/-- all tuples become data -/
def tups (G H' : Hp) : Hp := fun a => match H' a with
  | some (.tup xs) => some (.tup xs)
  | _ => G a
theorem fr_tups (f : Fr K (some p) [] G H G2 H' b') : Fr K (some p) [] G H (tups G2 H') H' b' := by
  have gt : Same G2 (tups G2 H') := fun a o h => by
    have := f.sub a o h
    unfold tups
    split
    · rename_i xs e; rw [this] at e; rw [← e]
    · exact h
  refine ⟨f.gg.trans gt, fun a o h => ?_, fun a h g => ?_, f.keep, fun q eq => ⟨(f.pen q eq).1, ?_⟩, fun x e => nomatch e⟩
  · unfold tups at h
    split at h
    · rename_i xs e; rw [e]; exact h
    · exact f.sub a o h
  · unfold tups at h
    split at h
    · rename_i xs e
      cases r : H a with
      | none => exact .inl r
      | some o =>
        by_cases z : a = p.a
        · subst z
          obtain ⟨kvs, e2⟩ := (f.pen p rfl).1.is_
          rw [e] at e2; cases e2
        · have := f.keep a o r (fun q eq => by cases eq; exact z) (fun q => nomatch q)
          rw [e] at this; cases this
          exact .inr ⟨xs, r⟩
    · exact f.new a h g
  · have g := (f.pen q eq).2
    obtain ⟨kvs, e2⟩ := (f.pen q eq).1.is_
    unfold tups
    rw [e2]; exact g
/-- the law: what is wanted, where it begins (its script of n ints, its pen) -/
def lawN : DN := ⟨fun _ => False, fun x _ => x = .bl true, fun _ => False, fun _ => False, fun _ _ => False⟩
def lawE (m n : Nat) : En := ⟨some (.scr n) :: some .pen :: List.replicate (m - 2) none, 0⟩
theorem law_start {W : WX} {ns : List Int} {a : Addr} {wl : WS} {m : Nat} {Q : VK} (hS : SqL K H a (ns.map V.int)) (s1 : Same H H') (np : H p.a = none) (hP : Pen K H' p 0) (hw : wl lawN (lawE (m + 2) ns.length)) (k : ∀ H2, Q (.bl true) H2) :
    RlS K W wl { nx := fun _ H' => Q .non H', rt := Q } (((V.ref a :: []).map some ++ List.replicate (m + 2 - 1) none).set 1 (some (V.ref p.a))) H' := by
  let G : Hp := fun x => if x = p.a then none else H' x
  have gs : Same G H' := fun x o h => by
    by_cases e : x = p.a
    · simp [G, e] at h
    · simpa [G, e] using h
  have gp : G p.a = none := by simp [G]
  have gH : ∀ x o, H x = some o → G x = some o := fun x o h => by
    have ne : x ≠ p.a := ne_of_none h np
    simp [G, ne]; exact s1 x o h
  have hS' : SqL K G a (ns.map V.int) := Same.seq gH hS
  have hs : (((V.ref a :: []).map some ++ List.replicate (m + 2 - 1) none).set 1 (some (V.ref p.a)) : L2.St) = some (V.ref a) :: some (V.ref p.a) :: List.replicate m none := by
    show (some (V.ref a) :: List.replicate (m + 1) none).set 1 (some (V.ref p.a)) = _
    rw [List.replicate_succ]; rfl
  rw [hs]
  refine ⟨⟨some p, [], G, fun _ => none, G, H'⟩, G, lawE (m + 2) ns.length, lawN, ⟨⟨Same.refl G, gs, fun a h g => absurd g h, fun a o h _ _ => h, fun q e => by cases e; exact ⟨hP, gp⟩, fun x e => nomatch e⟩, fun q e => by cases e; exact ⟨0, hP⟩, (fun p x _ e => nomatch e), (fun x e => nomatch e), Same.refl G, (fun a o h => nomatch h), by simp [lawE], fun i v c h1 h2 => ?_, fun i j c h1 h2 => ?_⟩,
    fun _ _ _ _ _ _ _ _ _ z => z.elim, hw, ⟨fun _ _ _ _ _ z => z.elim, fun v x G H σ en R r q => by subst q; cases r; exact k H, fun _ _ _ _ _ z => z.elim, fun _ _ _ _ _ z => z.elim⟩⟩
  · have h2 : (some (B.scr ns.length) :: some B.pen :: List.replicate m none)[i]? = some c := h2
    match i, h1, h2 with
    | 0, h1, h2 => cases h1; cases h2; exact ⟨a, _, rfl, hS', by simp⟩
    | 1, h1, h2 => cases h1; cases h2; exact ⟨p, rfl, rfl⟩
    | i + 2, h1, h2 =>
      have : (List.replicate m (none : Option B))[i]? = some c := by simpa using h2
      rw [List.getElem?_replicate] at this
      split at this <;> cases this
      trivial
  · have h1 : c ∈ fpB H' (some (V.ref a) :: some (V.ref p.a) :: List.replicate m none)[i]? (some (B.scr ns.length) :: some B.pen :: List.replicate m none)[i]? := h1
    match i, h1 with
    | 0, h1 => cases h1
    | 1, h1 => cases h1
    | i + 2, h1 =>
      have h1 : c ∈ fpB H' (List.replicate m (none : Option V))[i]? (List.replicate m (none : Option B))[i]? := by simpa using h1
      rw [List.getElem?_replicate, List.getElem?_replicate] at h1
      split at h1 <;> cases h1
end
end KD

namespace KP
open PySem PySem.Spec PyProof.Rows L2
/-! ### the text -/
def topS (i : Nat) : Stmt := PySem.Challenge.pw_paintposts_k12_whole_common_posts_seen_f.main.body.getD i (.Pass ⟨0, 0, 0, 0⟩)

abbrev s_is_integer : Stmt := topS 10
abbrev N_is_integer : List Str := ["value"]
abbrev P_is_integer : List Str := ["value"]
theorem sc_is_integer : FnScope N_is_integer P_is_integer (defScope s_is_integer) := ⟨rfl, rfl, rfl, by decide +kernel, rfl, by decide +kernel, by decide +kernel⟩
abbrev s_is_between : Stmt := topS 11
abbrev N_is_between : List Str := ["value", "low", "high"]
abbrev P_is_between : List Str := ["value", "low", "high"]
theorem sc_is_between : FnScope N_is_between P_is_between (defScope s_is_between) := ⟨rfl, rfl, rfl, by decide +kernel, rfl, by decide +kernel, by decide +kernel⟩
abbrev s_need_count : Stmt := topS 13
abbrev N_need_count : List Str := ["value", "limit"]
abbrev P_need_count : List Str := ["value", "limit"]
theorem sc_need_count : FnScope N_need_count P_need_count (defScope s_need_count) := ⟨rfl, rfl, rfl, by decide +kernel, rfl, by decide +kernel, by decide +kernel⟩
abbrev s_need_post : Stmt := topS 12
abbrev N_need_post : List Str := ["value"]
abbrev P_need_post : List Str := ["value"]
theorem sc_need_post : FnScope N_need_post P_need_post (defScope s_need_post) := ⟨rfl, rfl, rfl, by decide +kernel, rfl, by decide +kernel, by decide +kernel⟩
abbrev s_is_name : Stmt := topS 23
abbrev N_is_name : List Str := ["value", "letter"]
abbrev P_is_name : List Str := ["value"]
theorem sc_is_name : FnScope N_is_name P_is_name (defScope s_is_name) := ⟨rfl, rfl, rfl, by decide +kernel, rfl, by decide +kernel, by decide +kernel⟩
abbrev s_Painter_init : Stmt := inClass (topS 31) 3
abbrev N_Painter_init : List Str := ["self", "name", "day", "post", "stride"]
abbrev P_Painter_init : List Str := ["self", "name", "day", "post", "stride"]
theorem sc_Painter_init : FnScope N_Painter_init P_Painter_init (defScope s_Painter_init) := ⟨rfl, rfl, rfl, by decide +kernel, rfl, by decide +kernel, by decide +kernel⟩
abbrev s_Painter_name : Stmt := inClass (topS 31) 6
abbrev N_Painter_name : List Str := ["self"]
abbrev P_Painter_name : List Str := ["self"]
theorem sc_Painter_name : FnScope N_Painter_name P_Painter_name (defScope s_Painter_name) := ⟨rfl, rfl, rfl, by decide +kernel, rfl, by decide +kernel, by decide +kernel⟩
abbrev s_Painter_day : Stmt := inClass (topS 31) 7
abbrev N_Painter_day : List Str := ["self"]
abbrev P_Painter_day : List Str := ["self"]
theorem sc_Painter_day : FnScope N_Painter_day P_Painter_day (defScope s_Painter_day) := ⟨rfl, rfl, rfl, by decide +kernel, rfl, by decide +kernel, by decide +kernel⟩
abbrev s_Painter_post : Stmt := inClass (topS 31) 8
abbrev N_Painter_post : List Str := ["self"]
abbrev P_Painter_post : List Str := ["self"]
theorem sc_Painter_post : FnScope N_Painter_post P_Painter_post (defScope s_Painter_post) := ⟨rfl, rfl, rfl, by decide +kernel, rfl, by decide +kernel, by decide +kernel⟩
abbrev s_Painter_stride : Stmt := inClass (topS 31) 9
abbrev N_Painter_stride : List Str := ["self"]
abbrev P_Painter_stride : List Str := ["self"]
theorem sc_Painter_stride : FnScope N_Painter_stride P_Painter_stride (defScope s_Painter_stride) := ⟨rfl, rfl, rfl, by decide +kernel, rfl, by decide +kernel, by decide +kernel⟩
abbrev s_Painter_way : Stmt := inClass (topS 31) 10
abbrev N_Painter_way : List Str := ["self"]
abbrev P_Painter_way : List Str := ["self"]
theorem sc_Painter_way : FnScope N_Painter_way P_Painter_way (defScope s_Painter_way) := ⟨rfl, rfl, rfl, by decide +kernel, rfl, by decide +kernel, by decide +kernel⟩
abbrev s_Painter_post_after : Stmt := inClass (topS 31) 12
abbrev N_Painter_post_after : List Str := ["self", "count"]
abbrev P_Painter_post_after : List Str := ["self", "count"]
theorem sc_Painter_post_after : FnScope N_Painter_post_after P_Painter_post_after (defScope s_Painter_post_after) := ⟨rfl, rfl, rfl, by decide +kernel, rfl, by decide +kernel, by decide +kernel⟩
abbrev s_Painter_count_at : Stmt := inClass (topS 31) 13
abbrev N_Painter_count_at : List Str := ["self", "post", "count", "rest"]
abbrev P_Painter_count_at : List Str := ["self", "post"]
theorem sc_Painter_count_at : FnScope N_Painter_count_at P_Painter_count_at (defScope s_Painter_count_at) := ⟨rfl, rfl, rfl, by decide +kernel, rfl, by decide +kernel, by decide +kernel⟩
abbrev s_Painter_add : Stmt := inClass (topS 31) 15
abbrev N_Painter_add : List Str := ["self", "posts"]
abbrev P_Painter_add : List Str := ["self", "posts"]
theorem sc_Painter_add : FnScope N_Painter_add P_Painter_add (defScope s_Painter_add) := ⟨rfl, rfl, rfl, by decide +kernel, rfl, by decide +kernel, by decide +kernel⟩
abbrev s_Painter_neg : Stmt := inClass (topS 31) 16
abbrev N_Painter_neg : List Str := ["self"]
abbrev P_Painter_neg : List Str := ["self"]
theorem sc_Painter_neg : FnScope N_Painter_neg P_Painter_neg (defScope s_Painter_neg) := ⟨rfl, rfl, rfl, by decide +kernel, rfl, by decide +kernel, by decide +kernel⟩
abbrev s_inverse : Stmt := topS 15
abbrev N_inverse : List Str := ["number", "modulus", "one", "other", "first", "second", "turns"]
abbrev P_inverse : List Str := ["number", "modulus"]
theorem sc_inverse : FnScope N_inverse P_inverse (defScope s_inverse) := ⟨rfl, rfl, rfl, by decide +kernel, rfl, by decide +kernel, by decide +kernel⟩
abbrev s_greatest_divisor : Stmt := topS 16
abbrev N_greatest_divisor : List Str := ["one", "other"]
abbrev P_greatest_divisor : List Str := ["one", "other"]
theorem sc_greatest_divisor : FnScope N_greatest_divisor P_greatest_divisor (defScope s_greatest_divisor) := ⟨rfl, rfl, rfl, by decide +kernel, rfl, by decide +kernel, by decide +kernel⟩
abbrev s_least_fit : Stmt := topS 17
abbrev N_least_fit : List Str := ["conditions", "low", "high", "base", "growth", "bound"]
abbrev P_least_fit : List Str := ["conditions"]
theorem sc_least_fit : FnScope N_least_fit P_least_fit (defScope s_least_fit) := ⟨rfl, rfl, rfl, by decide +kernel, rfl, by decide +kernel, by decide +kernel⟩
abbrev s_Crossing_init : Stmt := inClass (topS 18) 0
abbrev N_Crossing_init : List Str := ["self", "one", "other", "stride", "other_stride", "divisor", "gap", "rest"]
abbrev P_Crossing_init : List Str := ["self", "one", "other"]
theorem sc_Crossing_init : FnScope N_Crossing_init P_Crossing_init (defScope s_Crossing_init) := ⟨rfl, rfl, rfl, by decide +kernel, rfl, by decide +kernel, by decide +kernel⟩
abbrev s_Crossing_number : Stmt := inClass (topS 18) 1
abbrev N_Crossing_number : List Str := ["self", "m"]
abbrev P_Crossing_number : List Str := ["self", "m"]
theorem sc_Crossing_number : FnScope N_Crossing_number P_Crossing_number (defScope s_Crossing_number) := ⟨rfl, rfl, rfl, by decide +kernel, rfl, by decide +kernel, by decide +kernel⟩
abbrev s_Crossing_common_post : Stmt := inClass (topS 18) 3
abbrev N_Crossing_common_post : List Str := ["self", "m"]
abbrev P_Crossing_common_post : List Str := ["self", "m"]
theorem sc_Crossing_common_post : FnScope N_Crossing_common_post P_Crossing_common_post (defScope s_Crossing_common_post) := ⟨rfl, rfl, rfl, by decide +kernel, rfl, by decide +kernel, by decide +kernel⟩
abbrev s_Crossing_bounds : Stmt := inClass (topS 18) 4
abbrev N_Crossing_bounds : List Str := ["self", "more"]
abbrev P_Crossing_bounds : List Str := ["self", "more"]
theorem sc_Crossing_bounds : FnScope N_Crossing_bounds P_Crossing_bounds (defScope s_Crossing_bounds) := ⟨rfl, rfl, rfl, by decide +kernel, rfl, by decide +kernel, by decide +kernel⟩
abbrev s_Crossing_first_block : Stmt := inClass (topS 18) 5
abbrev N_Crossing_first_block : List Str := ["self", "count", "is_earlier", "late", "more", "low", "high"]
abbrev P_Crossing_first_block : List Str := ["self", "count", "is_earlier"]
theorem sc_Crossing_first_block : FnScope N_Crossing_first_block P_Crossing_first_block (defScope s_Crossing_first_block) := ⟨rfl, rfl, rfl, by decide +kernel, rfl, by decide +kernel, by decide +kernel⟩
abbrev s_common_posts : Stmt := topS 19
abbrev N_common_posts : List Str := ["one", "other", "crossing", "low", "high", "last"]
abbrev P_common_posts : List Str := ["one", "other"]
theorem sc_common_posts : FnScope N_common_posts P_common_posts (defScope s_common_posts) := ⟨rfl, rfl, rfl, by decide +kernel, rfl, by decide +kernel, by decide +kernel⟩
abbrev s_first_block : Stmt := topS 20
abbrev N_first_block : List Str := ["one", "other", "count", "is_earlier"]
abbrev P_first_block : List Str := ["one", "other", "count", "is_earlier"]
theorem sc_first_block : FnScope N_first_block P_first_block (defScope s_first_block) := ⟨rfl, rfl, rfl, by decide +kernel, rfl, by decide +kernel, by decide +kernel⟩
abbrev s_pen : Stmt := topS 33
abbrev N_pen : List Str := ["_law_script"]
abbrev P_pen : List Str := ["_law_script"]
theorem sc_pen : FnScope N_pen P_pen (defScope s_pen) := ⟨rfl, rfl, rfl, by decide +kernel, rfl, by decide +kernel, by decide +kernel⟩
abbrev s_draw : Stmt := topS 34
abbrev N_draw : List Str := ["_law_pen_here", "_law_many", "_law_digit", "_law_site", "_law_cell", "_law_mixed"]
abbrev P_draw : List Str := ["_law_pen_here", "_law_many"]
theorem sc_draw : FnScope N_draw P_draw (defScope s_draw) := ⟨rfl, rfl, rfl, by decide +kernel, rfl, by decide +kernel, by decide +kernel⟩
abbrev s_pick : Stmt := topS 35
abbrev N_pick : List Str := ["_law_pen_here", "_law_options"]
abbrev P_pick : List Str := ["_law_pen_here", "_law_options"]
theorem sc_pick : FnScope N_pick P_pick (defScope s_pick) := ⟨rfl, rfl, rfl, by decide +kernel, rfl, by decide +kernel, by decide +kernel⟩
abbrev s_around : Stmt := topS 36
abbrev N_around : List Str := ["_law_pen_here", "_law_most"]
abbrev P_around : List Str := ["_law_pen_here", "_law_most"]
theorem sc_around : FnScope N_around P_around (defScope s_around) := ⟨rfl, rfl, rfl, by decide +kernel, rfl, by decide +kernel, by decide +kernel⟩
abbrev s_power : Stmt := topS 37
abbrev N_power : List Str := ["_law_figures", "_law_found", "_law_k"]
abbrev P_power : List Str := ["_law_figures"]
theorem sc_power : FnScope N_power P_power (defScope s_power) := ⟨rfl, rfl, rfl, by decide +kernel, rfl, by decide +kernel, by decide +kernel⟩
abbrev s_great : Stmt := topS 38
abbrev N_great : List Str := ["_law_pen_here", "_law_figures", "_law_most", "_law_some"]
abbrev P_great : List Str := ["_law_pen_here", "_law_figures"]
theorem sc_great : FnScope N_great P_great (defScope s_great) := ⟨rfl, rfl, rfl, by decide +kernel, rfl, by decide +kernel, by decide +kernel⟩
abbrev s_names : Stmt := topS 39
abbrev N_names : List Str := ["_law_pen_here", "_law_many", "_law_letters", "_law_stem", "_law_front", "_law_found", "_law_step", "_law_k", "_law_own", "_law_tail"]
abbrev P_names : List Str := ["_law_pen_here", "_law_many"]
theorem sc_names : FnScope N_names P_names (defScope s_names) := ⟨rfl, rfl, rfl, by decide +kernel, rfl, by decide +kernel, by decide +kernel⟩
abbrev s_made : Stmt := topS 40
abbrev N_made : List Str := ["_law_painter", "_law_name", "_law_start", "_law_post", "_law_stride"]
abbrev P_made : List Str := ["_law_painter"]
theorem sc_made : FnScope N_made P_made (defScope s_made) := ⟨rfl, rfl, rfl, by decide +kernel, rfl, by decide +kernel, by decide +kernel⟩
abbrev s_duo : Stmt := topS 41
abbrev N_duo : List Str := ["_law_pen_here", "_law_names_here", "_law_found", "_law_k", "_law_stride"]
abbrev P_duo : List Str := ["_law_pen_here"]
theorem sc_duo : FnScope N_duo P_duo (defScope s_duo) := ⟨rfl, rfl, rfl, by decide +kernel, rfl, by decide +kernel, by decide +kernel⟩
abbrev s_great_duo : Stmt := topS 42
abbrev N_great_duo : List Str := ["_law_pen_here", "_law_names_here", "_law_hub", "_law_found", "_law_lot", "_law_base", "_law_k", "_law_stride", "_law_steps", "_law_start"]
abbrev P_great_duo : List Str := ["_law_pen_here"]
theorem sc_great_duo : FnScope N_great_duo P_great_duo (defScope s_great_duo) := ⟨rfl, rfl, rfl, by decide +kernel, rfl, by decide +kernel, by decide +kernel⟩
abbrev s_turned : Stmt := topS 43
abbrev N_turned : List Str := ["_law_told", "_law_add", "_law_sign"]
abbrev P_turned : List Str := ["_law_told", "_law_add", "_law_sign"]
theorem sc_turned : FnScope N_turned P_turned (defScope s_turned) := ⟨rfl, rfl, rfl, by decide +kernel, rfl, by decide +kernel, by decide +kernel⟩
abbrev s_posts_right : Stmt := topS 44
abbrev N_posts_right : List Str := ["_law_one", "_law_other", "_law_add", "_law_told", "_law_back"]
abbrev P_posts_right : List Str := ["_law_one", "_law_other", "_law_add"]
theorem sc_posts_right : FnScope N_posts_right P_posts_right (defScope s_posts_right) := ⟨rfl, rfl, rfl, by decide +kernel, rfl, by decide +kernel, by decide +kernel⟩
abbrev s_is_later : Stmt := topS 45
abbrev N_is_later : List Str := ["_law_one", "_law_other"]
abbrev P_is_later : List Str := ["_law_one", "_law_other"]
theorem sc_is_later : FnScope N_is_later P_is_later (defScope s_is_later) := ⟨rfl, rfl, rfl, by decide +kernel, rfl, by decide +kernel, by decide +kernel⟩
abbrev s_blocks_right : Stmt := topS 46
abbrev N_blocks_right : List Str := ["_law_pen_here", "_law_one", "_law_other", "_law_add", "_law_told", "_law_early", "_law_limit", "_law_less", "_law_more", "_law_later", "_law_steps"]
abbrev P_blocks_right : List Str := ["_law_pen_here", "_law_one", "_law_other", "_law_add"]
theorem sc_blocks_right : FnScope N_blocks_right P_blocks_right (defScope s_blocks_right) := ⟨rfl, rfl, rfl, by decide +kernel, rfl, by decide +kernel, by decide +kernel⟩
abbrev s_law : Stmt := topS 47
abbrev N_law : List Str := ["_law_script", "_law_pen_here", "_law_turn", "_law_small", "_law_great_here", "_law_a", "_law_b", "_law_one", "_law_other"]
abbrev P_law : List Str := ["_law_script"]
theorem sc_law : FnScope N_law P_law (defScope s_law) := ⟨rfl, rfl, rfl, by decide +kernel, rfl, by decide +kernel, by decide +kernel⟩
/-! ### what the top leaves -/
structure Tx (K : PySem.W.Frag) (mg : Str → Option Value) : Type where
  b_abs : mg "abs" = none
  b_all : mg "all" = none
  b_bool : mg "bool" = none
  b_divmod : mg "divmod" = none
  b_int : mg "int" = none
  b_isinstance : mg "isinstance" = none
  b_len : mg "len" = none
  b_list : mg "list" = none
  b_max : mg "max" = none
  b_min : mg "min" = none
  b_range : mg "range" = none
  b_str : mg "str" = none
  g_is_integer : mg "is_integer" = some (.ref (He.ga K "is_integer"))
  g_is_between : mg "is_between" = some (.ref (He.ga K "is_between"))
  g_need_count : mg "need_count" = some (.ref (He.ga K "need_count"))
  g_need_post : mg "need_post" = some (.ref (He.ga K "need_post"))
  g_is_name : mg "is_name" = some (.ref (He.ga K "is_name"))
  g_inverse : mg "inverse" = some (.ref (He.ga K "inverse"))
  g_greatest_divisor : mg "greatest_divisor" = some (.ref (He.ga K "greatest_divisor"))
  g_least_fit : mg "least_fit" = some (.ref (He.ga K "least_fit"))
  g_common_posts : mg "common_posts" = some (.ref (He.ga K "common_posts"))
  g_first_block : mg "first_block" = some (.ref (He.ga K "first_block"))
  g_pen : mg "_law_pen" = some (.ref (He.ga K "_law_pen"))
  g_draw : mg "_law_draw" = some (.ref (He.ga K "_law_draw"))
  g_pick : mg "_law_pick" = some (.ref (He.ga K "_law_pick"))
  g_around : mg "_law_around" = some (.ref (He.ga K "_law_around"))
  g_power : mg "_law_power" = some (.ref (He.ga K "_law_power"))
  g_great : mg "_law_great" = some (.ref (He.ga K "_law_great"))
  g_names : mg "_law_names" = some (.ref (He.ga K "_law_names"))
  g_made : mg "_law_made" = some (.ref (He.ga K "_law_made"))
  g_duo : mg "_law_duo" = some (.ref (He.ga K "_law_duo"))
  g_great_duo : mg "_law_great_duo" = some (.ref (He.ga K "_law_great_duo"))
  g_turned : mg "_law_turned" = some (.ref (He.ga K "_law_turned"))
  g_posts_right : mg "_law_posts_right" = some (.ref (He.ga K "_law_posts_right"))
  g_is_later : mg "_law_is_later" = some (.ref (He.ga K "_law_is_later"))
  g_blocks_right : mg "_law_blocks_right" = some (.ref (He.ga K "_law_blocks_right"))
  g_law : mg "law" = some (.ref (He.ga K "law"))
  g_is_name_names : mg "is_name_names" = some (.ref (He.ga K "is_name"))
  g_MAX_NAME : ∃ t, mg "MAX_NAME" = some (.int 8 t)
  g_LETTERS : ∃ t, mg "LETTERS" = some (.str "abcdefghijklmnopqrstuvwxyz" t)
  g_MAX_ARGUMENT : ∃ t, mg "MAX_ARGUMENT" = some (.int 100000000000000000000000000000000000000000000000000000000000000000000000000000000 t)
  g_Painter : mg "Painter" = some (.ref (He.ga K "Painter"))
  c_Painter : Cls K (He.ga K "Painter")
  k_Painter : Mk K (He.ga K "Painter") (He.ma K (He.ga K "Painter") "__init__")
  n_Painter_parts : NoAttr K (He.ga K "Painter") "parts"
  o_Painter_MAX_DAY : ∃ u, Con K (He.ga K "Painter") "MAX_DAY" (.int 1000000000000000000000000000000) u
  o_Painter_MAX_POST : ∃ u, Con K (He.ga K "Painter") "MAX_POST" (.int 1000000000000000000000000000000) u
  o_Painter_MAX_STRIDE : ∃ u, Con K (He.ga K "Painter") "MAX_STRIDE" (.int 1000000000000000000) u
  p_Painter_name : PropOf K (He.ga K "Painter") "name" (He.ma K (He.ga K "Painter") "name") (pgA K (He.ga K "Painter") "name")
  p_Painter_day : PropOf K (He.ga K "Painter") "day" (He.ma K (He.ga K "Painter") "day") (pgA K (He.ga K "Painter") "day")
  p_Painter_post : PropOf K (He.ga K "Painter") "post" (He.ma K (He.ga K "Painter") "post") (pgA K (He.ga K "Painter") "post")
  p_Painter_stride : PropOf K (He.ga K "Painter") "stride" (He.ma K (He.ga K "Painter") "stride") (pgA K (He.ga K "Painter") "stride")
  p_Painter_way : PropOf K (He.ga K "Painter") "way" (He.ma K (He.ga K "Painter") "way") (pgA K (He.ga K "Painter") "way")
  m_Painter_post_after : Meth K (He.ga K "Painter") "post_after" (He.ma K (He.ga K "Painter") "post_after")
  m_Painter_count_at : Meth K (He.ga K "Painter") "count_at" (He.ma K (He.ga K "Painter") "count_at")
  m_Painter___add__ : Meth K (He.ga K "Painter") "__add__" (He.ma K (He.ga K "Painter") "__add__")
  m_Painter___neg__ : Meth K (He.ga K "Painter") "__neg__" (He.ma K (He.ga K "Painter") "__neg__")
  g_Crossing : mg "Crossing" = some (.ref (He.ga K "Crossing"))
  c_Crossing : Cls K (He.ga K "Crossing")
  k_Crossing : Mk K (He.ga K "Crossing") (He.ma K (He.ga K "Crossing") "__init__")
  n_Crossing_one : NoAttr K (He.ga K "Crossing") "one"
  n_Crossing_other : NoAttr K (He.ga K "Crossing") "other"
  n_Crossing_is_empty : NoAttr K (He.ga K "Crossing") "is_empty"
  n_Crossing_step : NoAttr K (He.ga K "Crossing") "step"
  n_Crossing_other_step : NoAttr K (He.ga K "Crossing") "other_step"
  n_Crossing_start : NoAttr K (He.ga K "Crossing") "start"
  n_Crossing_other_start : NoAttr K (He.ga K "Crossing") "other_start"
  m_Crossing_number : Meth K (He.ga K "Crossing") "number" (He.ma K (He.ga K "Crossing") "number")
  m_Crossing_common_post : Meth K (He.ga K "Crossing") "common_post" (He.ma K (He.ga K "Crossing") "common_post")
  m_Crossing_bounds : Meth K (He.ga K "Crossing") "bounds" (He.ma K (He.ga K "Crossing") "bounds")
  m_Crossing_first_block : Meth K (He.ga K "Crossing") "first_block" (He.ma K (He.ga K "Crossing") "first_block")
  n_Painter___radd__ : NoAttr K (He.ga K "Painter") "__radd__"
  sf_Painter : PySem.W.selfFirst K (He.ga K "Painter") = true
  t_bounds : ∀ H : Hp, SqT K H (He.dflAt ("Crossing", some "bounds") 0 K) []
  fd_is_integer : FuncData
  fn_is_integer : FunD K "is_integer" "is_integer" (defArgs s_is_integer) (defBody s_is_integer) (defScope s_is_integer) [] [] (He.ga K "is_integer") fd_is_integer
  fd_is_between : FuncData
  fn_is_between : FunD K "is_between" "is_between" (defArgs s_is_between) (defBody s_is_between) (defScope s_is_between) [] [] (He.ga K "is_between") fd_is_between
  fd_need_count : FuncData
  fn_need_count : FunD K "need_count" "need_count" (defArgs s_need_count) (defBody s_need_count) (defScope s_need_count) [.int (10 ^ 80)] [] (He.ga K "need_count") fd_need_count
  fd_need_post : FuncData
  fn_need_post : FunD K "need_post" "need_post" (defArgs s_need_post) (defBody s_need_post) (defScope s_need_post) [] [] (He.ga K "need_post") fd_need_post
  fd_is_name : FuncData
  fn_is_name : FunD K "is_name" "is_name" (defArgs s_is_name) (defBody s_is_name) (defScope s_is_name) [] [] (He.ga K "is_name") fd_is_name
  fd_Painter_init : FuncData
  fn_Painter_init : FunD K "__init__" "Painter.__init__" (defArgs s_Painter_init) (defBody s_Painter_init) (defScope s_Painter_init) [] [] (He.ma K (He.ga K "Painter") "__init__") fd_Painter_init
  fd_Painter_name : FuncData
  fn_Painter_name : FunD K "name" "Painter.name" (defArgs s_Painter_name) (defBody s_Painter_name) (defScope s_Painter_name) [] [] (pgA K (He.ga K "Painter") "name") fd_Painter_name
  fd_Painter_day : FuncData
  fn_Painter_day : FunD K "day" "Painter.day" (defArgs s_Painter_day) (defBody s_Painter_day) (defScope s_Painter_day) [] [] (pgA K (He.ga K "Painter") "day") fd_Painter_day
  fd_Painter_post : FuncData
  fn_Painter_post : FunD K "post" "Painter.post" (defArgs s_Painter_post) (defBody s_Painter_post) (defScope s_Painter_post) [] [] (pgA K (He.ga K "Painter") "post") fd_Painter_post
  fd_Painter_stride : FuncData
  fn_Painter_stride : FunD K "stride" "Painter.stride" (defArgs s_Painter_stride) (defBody s_Painter_stride) (defScope s_Painter_stride) [] [] (pgA K (He.ga K "Painter") "stride") fd_Painter_stride
  fd_Painter_way : FuncData
  fn_Painter_way : FunD K "way" "Painter.way" (defArgs s_Painter_way) (defBody s_Painter_way) (defScope s_Painter_way) [] [] (pgA K (He.ga K "Painter") "way") fd_Painter_way
  fd_Painter_post_after : FuncData
  fn_Painter_post_after : FunD K "post_after" "Painter.post_after" (defArgs s_Painter_post_after) (defBody s_Painter_post_after) (defScope s_Painter_post_after) [] [] (He.ma K (He.ga K "Painter") "post_after") fd_Painter_post_after
  fd_Painter_count_at : FuncData
  fn_Painter_count_at : FunD K "count_at" "Painter.count_at" (defArgs s_Painter_count_at) (defBody s_Painter_count_at) (defScope s_Painter_count_at) [] [] (He.ma K (He.ga K "Painter") "count_at") fd_Painter_count_at
  fd_Painter_add : FuncData
  fn_Painter_add : FunD K "__add__" "Painter.__add__" (defArgs s_Painter_add) (defBody s_Painter_add) (defScope s_Painter_add) [] [] (He.ma K (He.ga K "Painter") "__add__") fd_Painter_add
  fd_Painter_neg : FuncData
  fn_Painter_neg : FunD K "__neg__" "Painter.__neg__" (defArgs s_Painter_neg) (defBody s_Painter_neg) (defScope s_Painter_neg) [] [] (He.ma K (He.ga K "Painter") "__neg__") fd_Painter_neg
  fd_inverse : FuncData
  fn_inverse : FunD K "inverse" "inverse" (defArgs s_inverse) (defBody s_inverse) (defScope s_inverse) [] [] (He.ga K "inverse") fd_inverse
  fd_greatest_divisor : FuncData
  fn_greatest_divisor : FunD K "greatest_divisor" "greatest_divisor" (defArgs s_greatest_divisor) (defBody s_greatest_divisor) (defScope s_greatest_divisor) [] [] (He.ga K "greatest_divisor") fd_greatest_divisor
  fd_least_fit : FuncData
  fn_least_fit : FunD K "least_fit" "least_fit" (defArgs s_least_fit) (defBody s_least_fit) (defScope s_least_fit) [] [] (He.ga K "least_fit") fd_least_fit
  fd_Crossing_init : FuncData
  fn_Crossing_init : FunD K "__init__" "Crossing.__init__" (defArgs s_Crossing_init) (defBody s_Crossing_init) (defScope s_Crossing_init) [] [] (He.ma K (He.ga K "Crossing") "__init__") fd_Crossing_init
  fd_Crossing_number : FuncData
  fn_Crossing_number : FunD K "number" "Crossing.number" (defArgs s_Crossing_number) (defBody s_Crossing_number) (defScope s_Crossing_number) [] [] (He.ma K (He.ga K "Crossing") "number") fd_Crossing_number
  fd_Crossing_common_post : FuncData
  fn_Crossing_common_post : FunD K "common_post" "Crossing.common_post" (defArgs s_Crossing_common_post) (defBody s_Crossing_common_post) (defScope s_Crossing_common_post) [] [] (He.ma K (He.ga K "Crossing") "common_post") fd_Crossing_common_post
  fd_Crossing_bounds : FuncData
  fn_Crossing_bounds : FunD K "bounds" "Crossing.bounds" (defArgs s_Crossing_bounds) (defBody s_Crossing_bounds) (defScope s_Crossing_bounds) [.ref (He.dflAt ("Crossing", some "bounds") 0 K)] [] (He.ma K (He.ga K "Crossing") "bounds") fd_Crossing_bounds
  fd_Crossing_first_block : FuncData
  fn_Crossing_first_block : FunD K "first_block" "Crossing.first_block" (defArgs s_Crossing_first_block) (defBody s_Crossing_first_block) (defScope s_Crossing_first_block) [] [] (He.ma K (He.ga K "Crossing") "first_block") fd_Crossing_first_block
  fd_common_posts : FuncData
  fn_common_posts : FunD K "common_posts" "common_posts" (defArgs s_common_posts) (defBody s_common_posts) (defScope s_common_posts) [] [] (He.ga K "common_posts") fd_common_posts
  fd_first_block : FuncData
  fn_first_block : FunD K "first_block" "first_block" (defArgs s_first_block) (defBody s_first_block) (defScope s_first_block) [] [("count", .non), ("is_earlier", .bl false)] (He.ga K "first_block") fd_first_block
  fd_pen : FuncData
  fn_pen : FunD K "_law_pen" "_law_pen" (defArgs s_pen) (defBody s_pen) (defScope s_pen) [] [] (He.ga K "_law_pen") fd_pen
  fd_draw : FuncData
  fn_draw : FunD K "_law_draw" "_law_draw" (defArgs s_draw) (defBody s_draw) (defScope s_draw) [] [] (He.ga K "_law_draw") fd_draw
  fd_pick : FuncData
  fn_pick : FunD K "_law_pick" "_law_pick" (defArgs s_pick) (defBody s_pick) (defScope s_pick) [] [] (He.ga K "_law_pick") fd_pick
  fd_around : FuncData
  fn_around : FunD K "_law_around" "_law_around" (defArgs s_around) (defBody s_around) (defScope s_around) [] [] (He.ga K "_law_around") fd_around
  fd_power : FuncData
  fn_power : FunD K "_law_power" "_law_power" (defArgs s_power) (defBody s_power) (defScope s_power) [] [] (He.ga K "_law_power") fd_power
  fd_great : FuncData
  fn_great : FunD K "_law_great" "_law_great" (defArgs s_great) (defBody s_great) (defScope s_great) [] [] (He.ga K "_law_great") fd_great
  fd_names : FuncData
  fn_names : FunD K "_law_names" "_law_names" (defArgs s_names) (defBody s_names) (defScope s_names) [] [] (He.ga K "_law_names") fd_names
  fd_made : FuncData
  fn_made : FunD K "_law_made" "_law_made" (defArgs s_made) (defBody s_made) (defScope s_made) [] [] (He.ga K "_law_made") fd_made
  fd_duo : FuncData
  fn_duo : FunD K "_law_duo" "_law_duo" (defArgs s_duo) (defBody s_duo) (defScope s_duo) [] [] (He.ga K "_law_duo") fd_duo
  fd_great_duo : FuncData
  fn_great_duo : FunD K "_law_great_duo" "_law_great_duo" (defArgs s_great_duo) (defBody s_great_duo) (defScope s_great_duo) [] [] (He.ga K "_law_great_duo") fd_great_duo
  fd_turned : FuncData
  fn_turned : FunD K "_law_turned" "_law_turned" (defArgs s_turned) (defBody s_turned) (defScope s_turned) [] [] (He.ga K "_law_turned") fd_turned
  fd_posts_right : FuncData
  fn_posts_right : FunD K "_law_posts_right" "_law_posts_right" (defArgs s_posts_right) (defBody s_posts_right) (defScope s_posts_right) [] [] (He.ga K "_law_posts_right") fd_posts_right
  fd_is_later : FuncData
  fn_is_later : FunD K "_law_is_later" "_law_is_later" (defArgs s_is_later) (defBody s_is_later) (defScope s_is_later) [] [] (He.ga K "_law_is_later") fd_is_later
  fd_blocks_right : FuncData
  fn_blocks_right : FunD K "_law_blocks_right" "_law_blocks_right" (defArgs s_blocks_right) (defBody s_blocks_right) (defScope s_blocks_right) [] [] (He.ga K "_law_blocks_right") fd_blocks_right
  fd_law : FuncData
  fn_law : FunD K "law" "law" (defArgs s_law) (defBody s_law) (defScope s_law) [] [] (He.ga K "law") fd_law
def exs : List Fct := [(He.Fa.free "abs").ok,
  (He.Fa.free "all").ok,
  (He.Fa.free "bool").ok,
  (He.Fa.free "divmod").ok,
  (He.Fa.free "int").ok,
  (He.Fa.free "isinstance").ok,
  (He.Fa.free "len").ok,
  (He.Fa.free "list").ok,
  (He.Fa.free "max").ok,
  (He.Fa.free "min").ok,
  (He.Fa.free "range").ok,
  (He.Fa.free "str").ok,
  (He.Fa.glo "is_integer").ok,
  (He.Fa.glo "is_between").ok,
  (He.Fa.glo "need_count").ok,
  (He.Fa.glo "need_post").ok,
  (He.Fa.glo "is_name").ok,
  (He.Fa.glo "inverse").ok,
  (He.Fa.glo "greatest_divisor").ok,
  (He.Fa.glo "least_fit").ok,
  (He.Fa.glo "common_posts").ok,
  (He.Fa.glo "first_block").ok,
  (He.Fa.glo "_law_pen").ok,
  (He.Fa.glo "_law_draw").ok,
  (He.Fa.glo "_law_pick").ok,
  (He.Fa.glo "_law_around").ok,
  (He.Fa.glo "_law_power").ok,
  (He.Fa.glo "_law_great").ok,
  (He.Fa.glo "_law_names").ok,
  (He.Fa.glo "_law_made").ok,
  (He.Fa.glo "_law_duo").ok,
  (He.Fa.glo "_law_great_duo").ok,
  (He.Fa.glo "_law_turned").ok,
  (He.Fa.glo "_law_posts_right").ok,
  (He.Fa.glo "_law_is_later").ok,
  (He.Fa.glo "_law_blocks_right").ok,
  (He.Fa.glo "law").ok,
  (fun K => (He.Fa.glo "is_name_names").ok K && decide (He.ga K "is_name_names" = He.ga K "is_name")),
  (He.Fa.int "MAX_NAME" 8).ok,
  (He.Fa.str "LETTERS" "abcdefghijklmnopqrstuvwxyz").ok,
  (He.Fa.int "MAX_ARGUMENT" 100000000000000000000000000000000000000000000000000000000000000000000000000000000).ok,
  (He.Fa.glo "Painter").ok,
  (He.Fa.cls "Painter").ok,
  (He.Fa.mkr "Painter").ok,
  (He.Fa.noat "Painter" "parts").ok,
  (fun K => He.conB K "Painter" "MAX_DAY" (.int 1000000000000000000000000000000)),
  (fun K => He.conB K "Painter" "MAX_POST" (.int 1000000000000000000000000000000)),
  (fun K => He.conB K "Painter" "MAX_STRIDE" (.int 1000000000000000000)),
  (propB "Painter" "name"),
  (propB "Painter" "day"),
  (propB "Painter" "post"),
  (propB "Painter" "stride"),
  (propB "Painter" "way"),
  (He.Fa.meth "Painter" "post_after").ok,
  (He.Fa.meth "Painter" "count_at").ok,
  (He.Fa.meth "Painter" "__add__").ok,
  (He.Fa.meth "Painter" "__neg__").ok,
  (He.Fa.glo "Crossing").ok,
  (He.Fa.cls "Crossing").ok,
  (He.Fa.mkr "Crossing").ok,
  (He.Fa.noat "Crossing" "one").ok,
  (He.Fa.noat "Crossing" "other").ok,
  (He.Fa.noat "Crossing" "is_empty").ok,
  (He.Fa.noat "Crossing" "step").ok,
  (He.Fa.noat "Crossing" "other_step").ok,
  (He.Fa.noat "Crossing" "start").ok,
  (He.Fa.noat "Crossing" "other_start").ok,
  (He.Fa.meth "Crossing" "number").ok,
  (He.Fa.meth "Crossing" "common_post").ok,
  (He.Fa.meth "Crossing" "bounds").ok,
  (He.Fa.meth "Crossing" "first_block").ok,
  (He.Fa.noat "Painter" "__radd__").ok,
  (fun K => PySem.W.selfFirst K (He.ga K "Painter")),
  (tup0B (He.dflAt ("Crossing", some "bounds") 0))]
def d_is_integer : He5.DefA := ⟨fun K => He.ga K "is_integer", "is_integer", "is_integer", defArgs s_is_integer, defBody s_is_integer, defScope s_is_integer, [], []⟩
def d_is_between : He5.DefA := ⟨fun K => He.ga K "is_between", "is_between", "is_between", defArgs s_is_between, defBody s_is_between, defScope s_is_between, [], []⟩
def d_need_count : He5.DefA := ⟨fun K => He.ga K "need_count", "need_count", "need_count", defArgs s_need_count, defBody s_need_count, defScope s_need_count, [.int (10 ^ 80)], []⟩
def d_need_post : He5.DefA := ⟨fun K => He.ga K "need_post", "need_post", "need_post", defArgs s_need_post, defBody s_need_post, defScope s_need_post, [], []⟩
def d_is_name : He5.DefA := ⟨fun K => He.ga K "is_name", "is_name", "is_name", defArgs s_is_name, defBody s_is_name, defScope s_is_name, [], []⟩
def d_Painter_init : He5.DefA := ⟨fun K => He.ma K (He.ga K "Painter") "__init__", "__init__", "Painter.__init__", defArgs s_Painter_init, defBody s_Painter_init, defScope s_Painter_init, [], []⟩
def d_Painter_name : He5.DefA := ⟨fun K => pgA K (He.ga K "Painter") "name", "name", "Painter.name", defArgs s_Painter_name, defBody s_Painter_name, defScope s_Painter_name, [], []⟩
def d_Painter_day : He5.DefA := ⟨fun K => pgA K (He.ga K "Painter") "day", "day", "Painter.day", defArgs s_Painter_day, defBody s_Painter_day, defScope s_Painter_day, [], []⟩
def d_Painter_post : He5.DefA := ⟨fun K => pgA K (He.ga K "Painter") "post", "post", "Painter.post", defArgs s_Painter_post, defBody s_Painter_post, defScope s_Painter_post, [], []⟩
def d_Painter_stride : He5.DefA := ⟨fun K => pgA K (He.ga K "Painter") "stride", "stride", "Painter.stride", defArgs s_Painter_stride, defBody s_Painter_stride, defScope s_Painter_stride, [], []⟩
def d_Painter_way : He5.DefA := ⟨fun K => pgA K (He.ga K "Painter") "way", "way", "Painter.way", defArgs s_Painter_way, defBody s_Painter_way, defScope s_Painter_way, [], []⟩
def d_Painter_post_after : He5.DefA := ⟨fun K => He.ma K (He.ga K "Painter") "post_after", "post_after", "Painter.post_after", defArgs s_Painter_post_after, defBody s_Painter_post_after, defScope s_Painter_post_after, [], []⟩
def d_Painter_count_at : He5.DefA := ⟨fun K => He.ma K (He.ga K "Painter") "count_at", "count_at", "Painter.count_at", defArgs s_Painter_count_at, defBody s_Painter_count_at, defScope s_Painter_count_at, [], []⟩
def d_Painter_add : He5.DefA := ⟨fun K => He.ma K (He.ga K "Painter") "__add__", "__add__", "Painter.__add__", defArgs s_Painter_add, defBody s_Painter_add, defScope s_Painter_add, [], []⟩
def d_Painter_neg : He5.DefA := ⟨fun K => He.ma K (He.ga K "Painter") "__neg__", "__neg__", "Painter.__neg__", defArgs s_Painter_neg, defBody s_Painter_neg, defScope s_Painter_neg, [], []⟩
def d_inverse : He5.DefA := ⟨fun K => He.ga K "inverse", "inverse", "inverse", defArgs s_inverse, defBody s_inverse, defScope s_inverse, [], []⟩
def d_greatest_divisor : He5.DefA := ⟨fun K => He.ga K "greatest_divisor", "greatest_divisor", "greatest_divisor", defArgs s_greatest_divisor, defBody s_greatest_divisor, defScope s_greatest_divisor, [], []⟩
def d_least_fit : He5.DefA := ⟨fun K => He.ga K "least_fit", "least_fit", "least_fit", defArgs s_least_fit, defBody s_least_fit, defScope s_least_fit, [], []⟩
def d_Crossing_init : He5.DefA := ⟨fun K => He.ma K (He.ga K "Crossing") "__init__", "__init__", "Crossing.__init__", defArgs s_Crossing_init, defBody s_Crossing_init, defScope s_Crossing_init, [], []⟩
def d_Crossing_number : He5.DefA := ⟨fun K => He.ma K (He.ga K "Crossing") "number", "number", "Crossing.number", defArgs s_Crossing_number, defBody s_Crossing_number, defScope s_Crossing_number, [], []⟩
def d_Crossing_common_post : He5.DefA := ⟨fun K => He.ma K (He.ga K "Crossing") "common_post", "common_post", "Crossing.common_post", defArgs s_Crossing_common_post, defBody s_Crossing_common_post, defScope s_Crossing_common_post, [], []⟩
def d_Crossing_bounds : He5.DefA := ⟨fun K => He.ma K (He.ga K "Crossing") "bounds", "bounds", "Crossing.bounds", defArgs s_Crossing_bounds, defBody s_Crossing_bounds, defScope s_Crossing_bounds, [.adr (He.dflAt ("Crossing", some "bounds") 0)], []⟩
def d_Crossing_first_block : He5.DefA := ⟨fun K => He.ma K (He.ga K "Crossing") "first_block", "first_block", "Crossing.first_block", defArgs s_Crossing_first_block, defBody s_Crossing_first_block, defScope s_Crossing_first_block, [], []⟩
def d_common_posts : He5.DefA := ⟨fun K => He.ga K "common_posts", "common_posts", "common_posts", defArgs s_common_posts, defBody s_common_posts, defScope s_common_posts, [], []⟩
def d_first_block : He5.DefA := ⟨fun K => He.ga K "first_block", "first_block", "first_block", defArgs s_first_block, defBody s_first_block, defScope s_first_block, [], [("count", .non), ("is_earlier", .bl false)]⟩
def d_pen : He5.DefA := ⟨fun K => He.ga K "_law_pen", "_law_pen", "_law_pen", defArgs s_pen, defBody s_pen, defScope s_pen, [], []⟩
def d_draw : He5.DefA := ⟨fun K => He.ga K "_law_draw", "_law_draw", "_law_draw", defArgs s_draw, defBody s_draw, defScope s_draw, [], []⟩
def d_pick : He5.DefA := ⟨fun K => He.ga K "_law_pick", "_law_pick", "_law_pick", defArgs s_pick, defBody s_pick, defScope s_pick, [], []⟩
def d_around : He5.DefA := ⟨fun K => He.ga K "_law_around", "_law_around", "_law_around", defArgs s_around, defBody s_around, defScope s_around, [], []⟩
def d_power : He5.DefA := ⟨fun K => He.ga K "_law_power", "_law_power", "_law_power", defArgs s_power, defBody s_power, defScope s_power, [], []⟩
def d_great : He5.DefA := ⟨fun K => He.ga K "_law_great", "_law_great", "_law_great", defArgs s_great, defBody s_great, defScope s_great, [], []⟩
def d_names : He5.DefA := ⟨fun K => He.ga K "_law_names", "_law_names", "_law_names", defArgs s_names, defBody s_names, defScope s_names, [], []⟩
def d_made : He5.DefA := ⟨fun K => He.ga K "_law_made", "_law_made", "_law_made", defArgs s_made, defBody s_made, defScope s_made, [], []⟩
def d_duo : He5.DefA := ⟨fun K => He.ga K "_law_duo", "_law_duo", "_law_duo", defArgs s_duo, defBody s_duo, defScope s_duo, [], []⟩
def d_great_duo : He5.DefA := ⟨fun K => He.ga K "_law_great_duo", "_law_great_duo", "_law_great_duo", defArgs s_great_duo, defBody s_great_duo, defScope s_great_duo, [], []⟩
def d_turned : He5.DefA := ⟨fun K => He.ga K "_law_turned", "_law_turned", "_law_turned", defArgs s_turned, defBody s_turned, defScope s_turned, [], []⟩
def d_posts_right : He5.DefA := ⟨fun K => He.ga K "_law_posts_right", "_law_posts_right", "_law_posts_right", defArgs s_posts_right, defBody s_posts_right, defScope s_posts_right, [], []⟩
def d_is_later : He5.DefA := ⟨fun K => He.ga K "_law_is_later", "_law_is_later", "_law_is_later", defArgs s_is_later, defBody s_is_later, defScope s_is_later, [], []⟩
def d_blocks_right : He5.DefA := ⟨fun K => He.ga K "_law_blocks_right", "_law_blocks_right", "_law_blocks_right", defArgs s_blocks_right, defBody s_blocks_right, defScope s_blocks_right, [], []⟩
def d_law : He5.DefA := ⟨fun K => He.ga K "law", "law", "law", defArgs s_law, defBody s_law, defScope s_law, [], []⟩
def dfs : List He5.DefA := [d_is_integer, d_is_between, d_need_count, d_need_post, d_is_name, d_Painter_init, d_Painter_name, d_Painter_day, d_Painter_post, d_Painter_stride, d_Painter_way, d_Painter_post_after, d_Painter_count_at, d_Painter_add, d_Painter_neg, d_inverse, d_greatest_divisor, d_least_fit, d_Crossing_init, d_Crossing_number, d_Crossing_common_post, d_Crossing_bounds, d_Crossing_first_block, d_common_posts, d_first_block, d_pen, d_draw, d_pick, d_around, d_power, d_great, d_names, d_made, d_duo, d_great_duo, d_turned, d_posts_right, d_is_later, d_blocks_right, d_law]
theorem tx_of {K : PySem.W.Frag} {h : Heap} {mg : Str → Option Value} (X : K.In h) (G : h.Ns mainGlobals mg) (c : SaysM exs dfs K) : Nonempty (Tx K mg) := by
  obtain ⟨fd0, fn0⟩ := c.fn_ 0 (d := d_is_integer) rfl
  obtain ⟨fd1, fn1⟩ := c.fn_ 1 (d := d_is_between) rfl
  obtain ⟨fd2, fn2⟩ := c.fn_ 2 (d := d_need_count) rfl
  obtain ⟨fd3, fn3⟩ := c.fn_ 3 (d := d_need_post) rfl
  obtain ⟨fd4, fn4⟩ := c.fn_ 4 (d := d_is_name) rfl
  obtain ⟨fd5, fn5⟩ := c.fn_ 5 (d := d_Painter_init) rfl
  obtain ⟨fd6, fn6⟩ := c.fn_ 6 (d := d_Painter_name) rfl
  obtain ⟨fd7, fn7⟩ := c.fn_ 7 (d := d_Painter_day) rfl
  obtain ⟨fd8, fn8⟩ := c.fn_ 8 (d := d_Painter_post) rfl
  obtain ⟨fd9, fn9⟩ := c.fn_ 9 (d := d_Painter_stride) rfl
  obtain ⟨fd10, fn10⟩ := c.fn_ 10 (d := d_Painter_way) rfl
  obtain ⟨fd11, fn11⟩ := c.fn_ 11 (d := d_Painter_post_after) rfl
  obtain ⟨fd12, fn12⟩ := c.fn_ 12 (d := d_Painter_count_at) rfl
  obtain ⟨fd13, fn13⟩ := c.fn_ 13 (d := d_Painter_add) rfl
  obtain ⟨fd14, fn14⟩ := c.fn_ 14 (d := d_Painter_neg) rfl
  obtain ⟨fd15, fn15⟩ := c.fn_ 15 (d := d_inverse) rfl
  obtain ⟨fd16, fn16⟩ := c.fn_ 16 (d := d_greatest_divisor) rfl
  obtain ⟨fd17, fn17⟩ := c.fn_ 17 (d := d_least_fit) rfl
  obtain ⟨fd18, fn18⟩ := c.fn_ 18 (d := d_Crossing_init) rfl
  obtain ⟨fd19, fn19⟩ := c.fn_ 19 (d := d_Crossing_number) rfl
  obtain ⟨fd20, fn20⟩ := c.fn_ 20 (d := d_Crossing_common_post) rfl
  obtain ⟨fd21, fn21⟩ := c.fn_ 21 (d := d_Crossing_bounds) rfl
  obtain ⟨fd22, fn22⟩ := c.fn_ 22 (d := d_Crossing_first_block) rfl
  obtain ⟨fd23, fn23⟩ := c.fn_ 23 (d := d_common_posts) rfl
  obtain ⟨fd24, fn24⟩ := c.fn_ 24 (d := d_first_block) rfl
  obtain ⟨fd25, fn25⟩ := c.fn_ 25 (d := d_pen) rfl
  obtain ⟨fd26, fn26⟩ := c.fn_ 26 (d := d_draw) rfl
  obtain ⟨fd27, fn27⟩ := c.fn_ 27 (d := d_pick) rfl
  obtain ⟨fd28, fn28⟩ := c.fn_ 28 (d := d_around) rfl
  obtain ⟨fd29, fn29⟩ := c.fn_ 29 (d := d_power) rfl
  obtain ⟨fd30, fn30⟩ := c.fn_ 30 (d := d_great) rfl
  obtain ⟨fd31, fn31⟩ := c.fn_ 31 (d := d_names) rfl
  obtain ⟨fd32, fn32⟩ := c.fn_ 32 (d := d_made) rfl
  obtain ⟨fd33, fn33⟩ := c.fn_ 33 (d := d_duo) rfl
  obtain ⟨fd34, fn34⟩ := c.fn_ 34 (d := d_great_duo) rfl
  obtain ⟨fd35, fn35⟩ := c.fn_ 35 (d := d_turned) rfl
  obtain ⟨fd36, fn36⟩ := c.fn_ 36 (d := d_posts_right) rfl
  obtain ⟨fd37, fn37⟩ := c.fn_ 37 (d := d_is_later) rfl
  obtain ⟨fd38, fn38⟩ := c.fn_ 38 (d := d_blocks_right) rfl
  obtain ⟨fd39, fn39⟩ := c.fn_ 39 (d := d_law) rfl
  exact ⟨{
    b_abs := He.free_ok X G (c.fact 0 (f := (He.Fa.free "abs").ok) rfl)
    b_all := He.free_ok X G (c.fact 1 (f := (He.Fa.free "all").ok) rfl)
    b_bool := He.free_ok X G (c.fact 2 (f := (He.Fa.free "bool").ok) rfl)
    b_divmod := He.free_ok X G (c.fact 3 (f := (He.Fa.free "divmod").ok) rfl)
    b_int := He.free_ok X G (c.fact 4 (f := (He.Fa.free "int").ok) rfl)
    b_isinstance := He.free_ok X G (c.fact 5 (f := (He.Fa.free "isinstance").ok) rfl)
    b_len := He.free_ok X G (c.fact 6 (f := (He.Fa.free "len").ok) rfl)
    b_list := He.free_ok X G (c.fact 7 (f := (He.Fa.free "list").ok) rfl)
    b_max := He.free_ok X G (c.fact 8 (f := (He.Fa.free "max").ok) rfl)
    b_min := He.free_ok X G (c.fact 9 (f := (He.Fa.free "min").ok) rfl)
    b_range := He.free_ok X G (c.fact 10 (f := (He.Fa.free "range").ok) rfl)
    b_str := He.free_ok X G (c.fact 11 (f := (He.Fa.free "str").ok) rfl)
    g_is_integer := He.glo_ok X G (c.fact 12 (f := (He.Fa.glo "is_integer").ok) rfl)
    g_is_between := He.glo_ok X G (c.fact 13 (f := (He.Fa.glo "is_between").ok) rfl)
    g_need_count := He.glo_ok X G (c.fact 14 (f := (He.Fa.glo "need_count").ok) rfl)
    g_need_post := He.glo_ok X G (c.fact 15 (f := (He.Fa.glo "need_post").ok) rfl)
    g_is_name := He.glo_ok X G (c.fact 16 (f := (He.Fa.glo "is_name").ok) rfl)
    g_inverse := He.glo_ok X G (c.fact 17 (f := (He.Fa.glo "inverse").ok) rfl)
    g_greatest_divisor := He.glo_ok X G (c.fact 18 (f := (He.Fa.glo "greatest_divisor").ok) rfl)
    g_least_fit := He.glo_ok X G (c.fact 19 (f := (He.Fa.glo "least_fit").ok) rfl)
    g_common_posts := He.glo_ok X G (c.fact 20 (f := (He.Fa.glo "common_posts").ok) rfl)
    g_first_block := He.glo_ok X G (c.fact 21 (f := (He.Fa.glo "first_block").ok) rfl)
    g_pen := He.glo_ok X G (c.fact 22 (f := (He.Fa.glo "_law_pen").ok) rfl)
    g_draw := He.glo_ok X G (c.fact 23 (f := (He.Fa.glo "_law_draw").ok) rfl)
    g_pick := He.glo_ok X G (c.fact 24 (f := (He.Fa.glo "_law_pick").ok) rfl)
    g_around := He.glo_ok X G (c.fact 25 (f := (He.Fa.glo "_law_around").ok) rfl)
    g_power := He.glo_ok X G (c.fact 26 (f := (He.Fa.glo "_law_power").ok) rfl)
    g_great := He.glo_ok X G (c.fact 27 (f := (He.Fa.glo "_law_great").ok) rfl)
    g_names := He.glo_ok X G (c.fact 28 (f := (He.Fa.glo "_law_names").ok) rfl)
    g_made := He.glo_ok X G (c.fact 29 (f := (He.Fa.glo "_law_made").ok) rfl)
    g_duo := He.glo_ok X G (c.fact 30 (f := (He.Fa.glo "_law_duo").ok) rfl)
    g_great_duo := He.glo_ok X G (c.fact 31 (f := (He.Fa.glo "_law_great_duo").ok) rfl)
    g_turned := He.glo_ok X G (c.fact 32 (f := (He.Fa.glo "_law_turned").ok) rfl)
    g_posts_right := He.glo_ok X G (c.fact 33 (f := (He.Fa.glo "_law_posts_right").ok) rfl)
    g_is_later := He.glo_ok X G (c.fact 34 (f := (He.Fa.glo "_law_is_later").ok) rfl)
    g_blocks_right := He.glo_ok X G (c.fact 35 (f := (He.Fa.glo "_law_blocks_right").ok) rfl)
    g_law := He.glo_ok X G (c.fact 36 (f := (He.Fa.glo "law").ok) rfl)
    g_is_name_names := (by have z := He.ba (c.fact 37 (f := (fun K => (He.Fa.glo "is_name_names").ok K && decide (He.ga K "is_name_names" = He.ga K "is_name"))) rfl); rw [← of_decide_eq_true z.2]; exact He.glo_ok X G z.1)
    g_MAX_NAME := He.int_ok X G (c.fact 38 (f := (He.Fa.int "MAX_NAME" 8).ok) rfl)
    g_LETTERS := He.str_ok X G (c.fact 39 (f := (He.Fa.str "LETTERS" "abcdefghijklmnopqrstuvwxyz").ok) rfl)
    g_MAX_ARGUMENT := He.int_ok X G (c.fact 40 (f := (He.Fa.int "MAX_ARGUMENT" 100000000000000000000000000000000000000000000000000000000000000000000000000000000).ok) rfl)
    g_Painter := He.glo_ok X G (c.fact 41 (f := (He.Fa.glo "Painter").ok) rfl)
    c_Painter := He.cls_ok (c.fact 42 (f := (He.Fa.cls "Painter").ok) rfl)
    k_Painter := He.mkr_ok (c.fact 43 (f := (He.Fa.mkr "Painter").ok) rfl)
    n_Painter_parts := He.noat_ok (c.fact 44 (f := (He.Fa.noat "Painter" "parts").ok) rfl)
    o_Painter_MAX_DAY := con_of (c.fact 45 (f := (fun K => He.conB K "Painter" "MAX_DAY" (.int 1000000000000000000000000000000))) rfl)
    o_Painter_MAX_POST := con_of (c.fact 46 (f := (fun K => He.conB K "Painter" "MAX_POST" (.int 1000000000000000000000000000000))) rfl)
    o_Painter_MAX_STRIDE := con_of (c.fact 47 (f := (fun K => He.conB K "Painter" "MAX_STRIDE" (.int 1000000000000000000))) rfl)
    p_Painter_name := propB_ok (c.fact 48 (f := (propB "Painter" "name")) rfl)
    p_Painter_day := propB_ok (c.fact 49 (f := (propB "Painter" "day")) rfl)
    p_Painter_post := propB_ok (c.fact 50 (f := (propB "Painter" "post")) rfl)
    p_Painter_stride := propB_ok (c.fact 51 (f := (propB "Painter" "stride")) rfl)
    p_Painter_way := propB_ok (c.fact 52 (f := (propB "Painter" "way")) rfl)
    m_Painter_post_after := He.meth_ok (c.fact 53 (f := (He.Fa.meth "Painter" "post_after").ok) rfl)
    m_Painter_count_at := He.meth_ok (c.fact 54 (f := (He.Fa.meth "Painter" "count_at").ok) rfl)
    m_Painter___add__ := He.meth_ok (c.fact 55 (f := (He.Fa.meth "Painter" "__add__").ok) rfl)
    m_Painter___neg__ := He.meth_ok (c.fact 56 (f := (He.Fa.meth "Painter" "__neg__").ok) rfl)
    g_Crossing := He.glo_ok X G (c.fact 57 (f := (He.Fa.glo "Crossing").ok) rfl)
    c_Crossing := He.cls_ok (c.fact 58 (f := (He.Fa.cls "Crossing").ok) rfl)
    k_Crossing := He.mkr_ok (c.fact 59 (f := (He.Fa.mkr "Crossing").ok) rfl)
    n_Crossing_one := He.noat_ok (c.fact 60 (f := (He.Fa.noat "Crossing" "one").ok) rfl)
    n_Crossing_other := He.noat_ok (c.fact 61 (f := (He.Fa.noat "Crossing" "other").ok) rfl)
    n_Crossing_is_empty := He.noat_ok (c.fact 62 (f := (He.Fa.noat "Crossing" "is_empty").ok) rfl)
    n_Crossing_step := He.noat_ok (c.fact 63 (f := (He.Fa.noat "Crossing" "step").ok) rfl)
    n_Crossing_other_step := He.noat_ok (c.fact 64 (f := (He.Fa.noat "Crossing" "other_step").ok) rfl)
    n_Crossing_start := He.noat_ok (c.fact 65 (f := (He.Fa.noat "Crossing" "start").ok) rfl)
    n_Crossing_other_start := He.noat_ok (c.fact 66 (f := (He.Fa.noat "Crossing" "other_start").ok) rfl)
    m_Crossing_number := He.meth_ok (c.fact 67 (f := (He.Fa.meth "Crossing" "number").ok) rfl)
    m_Crossing_common_post := He.meth_ok (c.fact 68 (f := (He.Fa.meth "Crossing" "common_post").ok) rfl)
    m_Crossing_bounds := He.meth_ok (c.fact 69 (f := (He.Fa.meth "Crossing" "bounds").ok) rfl)
    m_Crossing_first_block := He.meth_ok (c.fact 70 (f := (He.Fa.meth "Crossing" "first_block").ok) rfl)
    n_Painter___radd__ := He.noat_ok (c.fact 71 (f := (He.Fa.noat "Painter" "__radd__").ok) rfl)
    sf_Painter := (c.fact 72 (f := (fun K => PySem.W.selfFirst K (He.ga K "Painter"))) rfl)
    t_bounds := tup0B_ok (c.fact 73 (f := (tup0B (He.dflAt ("Crossing", some "bounds") 0))) rfl)
    fd_is_integer := fd0
    fn_is_integer := fn0
    fd_is_between := fd1
    fn_is_between := fn1
    fd_need_count := fd2
    fn_need_count := fn2
    fd_need_post := fd3
    fn_need_post := fn3
    fd_is_name := fd4
    fn_is_name := fn4
    fd_Painter_init := fd5
    fn_Painter_init := fn5
    fd_Painter_name := fd6
    fn_Painter_name := fn6
    fd_Painter_day := fd7
    fn_Painter_day := fn7
    fd_Painter_post := fd8
    fn_Painter_post := fn8
    fd_Painter_stride := fd9
    fn_Painter_stride := fn9
    fd_Painter_way := fd10
    fn_Painter_way := fn10
    fd_Painter_post_after := fd11
    fn_Painter_post_after := fn11
    fd_Painter_count_at := fd12
    fn_Painter_count_at := fn12
    fd_Painter_add := fd13
    fn_Painter_add := fn13
    fd_Painter_neg := fd14
    fn_Painter_neg := fn14
    fd_inverse := fd15
    fn_inverse := fn15
    fd_greatest_divisor := fd16
    fn_greatest_divisor := fn16
    fd_least_fit := fd17
    fn_least_fit := fn17
    fd_Crossing_init := fd18
    fn_Crossing_init := fn18
    fd_Crossing_number := fd19
    fn_Crossing_number := fn19
    fd_Crossing_common_post := fd20
    fn_Crossing_common_post := fn20
    fd_Crossing_bounds := fd21
    fn_Crossing_bounds := fn21
    fd_Crossing_first_block := fd22
    fn_Crossing_first_block := fn22
    fd_common_posts := fd23
    fn_common_posts := fn23
    fd_first_block := fd24
    fn_first_block := fn24
    fd_pen := fd25
    fn_pen := fn25
    fd_draw := fd26
    fn_draw := fn26
    fd_pick := fd27
    fn_pick := fn27
    fd_around := fd28
    fn_around := fn28
    fd_power := fd29
    fn_power := fn29
    fd_great := fd30
    fn_great := fn30
    fd_names := fd31
    fn_names := fn31
    fd_made := fd32
    fn_made := fn32
    fd_duo := fd33
    fn_duo := fn33
    fd_great_duo := fd34
    fn_great_duo := fn34
    fd_turned := fd35
    fn_turned := fn35
    fd_posts_right := fd36
    fn_posts_right := fn36
    fd_is_later := fd37
    fn_is_later := fn37
    fd_blocks_right := fd38
    fn_blocks_right := fn38
    fd_law := fd39
    fn_law := fn39
  }⟩
def loo0 : List Str := ["_wall", "InvalidPainter", "InvalidPost", "InvalidCount", "ParseError", "MAX_ARGUMENT", "MAX_NAME", "MAX_DIGITS", "is_integer", "is_between", "need_post", "need_count", "inverse", "greatest_divisor", "least_fit", "Crossing", "common_posts", "first_block", "LETTERS", "is_name", "is_name_names", "DIGITS", "integer_in", "painter_line", "painter_parts", "Painter", "_law_pen", "_law_draw", "_law_pick", "_law_around"]
def loo1 : List Str := ["_law_power", "_law_great", "_law_names", "_law_made", "_law_duo", "_law_great_duo", "_law_turned", "_law_posts_right", "_law_is_later", "_law_blocks_right"]
def loo : List Str := loo0 ++ loo1
abbrev RR : PySem.W.OpenRow := PySem.W.OpenLaw.row PySem.Challenge.rw_paintposts_k12_whole_common_posts_seen_f
abbrev qq : Program := PySem.W.view RR.prog [47]
abbrev hk : PySem.W.Hook := hookM 7 exs dfs
def obh (s : PySem.W.SharedT) : He.AlD := obsMG 7 exs dfs (HandSHeadRun.getT s)
theorem obh_eq (s : PySem.W.SharedT) : obh s = hk.obs s.abs := obsMG_eq (HandSHeadRun.getT_eq s)
end KP

set_option maxHeartbeats 0
namespace KP
open PySem PySem.Spec PyProof.Rows L2
theorem runh (w : World) : HandSHeadRun.RunEq RR qq hk obh 20000 loo w := by
  intro os
  kernel_rfl
end KP

namespace KP
open PySem PySem.Spec PyProof.Rows L2
local macro_rules | `(tactic| walk_at "sc") => `(tactic| first | (show (0 : Int) < _; decide) | (show (0 : Int) < _; omega) | (refine ⟨?_, ?_, ?_, ?_⟩ <;> (first | omega | (unfold Big; omega))) | (refine ⟨?_, ?_, ?_⟩ <;> (first | omega | (unfold Big; omega))) | (refine ⟨?_, ?_⟩ <;> (first | omega | (unfold Big; omega))))
/-! ### draws -/
def dlim : Nat → Int
  | 0 => 60000000
  | d + 1 => 60000000 * (dlim d - 1)
theorem dlim_pos : ∀ d, 1 < dlim d
  | 0 => by decide
  | d + 1 => by
    have h := dlim_pos d
    show 1 < 60000000 * (dlim d - 1)
    omega
/-- a draw of a number below many, d calls deep at most -/
def spD (K : PySem.W.Frag) : Nat → Sp
  | 0 => fun _ _ _ _ => False
  | d + 1 => fun vs H Q _ => ∃ (p : Pid) (many b : Int), vs = [.ref p.a, .int many] ∧ Pen K H p b ∧ 0 < many ∧ many ≤ dlim d ∧ many < 10 ^ 150 ∧ b + d < 10 ^ 12 ∧
      ∀ (r : Int) (H' : Hp) (b' : Int), Ext p.a H H' → Pen K H' p b' → b' ≤ b + d + 1 → 0 ≤ r → r < many → Q (.int r) H'
section
variable {P : Program} {w : World} {K : PySem.W.Frag} {mg : Str → Option Value} {base : Heap}
theorem lay_ints : ∀ cs : List Int, PyData.canLayAll0 (cs.map PyData.int) = true ∧ PyData.depthAll (cs.map PyData.int) = 0
  | [] => ⟨rfl, rfl⟩
  | x :: r => by
    obtain ⟨h1, h2⟩ := lay_ints r
    constructor
    · show (PyData.canLay0 (.int x) && PyData.canLayAll0 (r.map PyData.int)) = true
      rw [h1]
      rfl
    · show max (PyData.depth (.int x)) (PyData.depthAll (r.map PyData.int)) = 0
      rw [h2]
      rfl
theorem dp_ints {K : PySem.W.Frag} {H : Hp} : ∀ cs : List Int, DpAll K H (cs.map V.int) (cs.map PyData.int)
  | [] => .nil
  | x :: r => .cons (.int x) (dp_ints r)
theorem shaped_ints (cs : List Int) (h : cs.length ≤ 1000) : SeqAt.shaped (.list (cs.map PyData.int)) = true := by
  obtain ⟨h1, h2⟩ := lay_ints cs
  show (PyData.canLayAll0 (cs.map PyData.int) && decide (PyData.depthAll (cs.map PyData.int) + 1 ≤ 64)) = true
  rw [h1, h2]
  rfl
theorem ok_draw (T : Tx K mg) : ∀ d : Nat, FnOk P w K mg base CX0 d (He.ga K "_law_draw") T.fd_draw P_draw (spD K d)
  | 0 => ⟨fun _ _ _ _ h => h.elim, fun _ _ _ _ _ _ _ _ _ _ _ _ _ h => h.elim⟩
  | d + 1 => by
    have c_draw : Cal P w K mg base d _ T.fd_draw P_draw (spD K d) := ⟨ok_draw T d, T.fn_draw.kp, FunD.bindsN T.fn_draw fun _ _ _ _ _ _ us hl => match us, hl with | [_, _], _ => rfl⟩
    refine T.fn_draw.ok sc_draw (fun vs H Q E h => ?_) (fun cdv A outer s H vs Q E hr h => ?_)
    · obtain ⟨p, many, b, rfl, _⟩ := h
      rfl
    · obtain ⟨⟨p, c, cs⟩, many, b, rfl, hP, h0, hl, hB, hb, q⟩ := h
      have hu := hu_of hr
      refine ⟨_, PSs.nox (pss_cons (ps_if (pt_cmpR op_gt (pe_dget hu (pv 0) pe_str (fun _ _ => rfl)) pe_int (nomark _)) (pss_cons (ps_set (i := 2) sc_draw.nd rfl (Or.inl rfl) (pe_op op_mod (pe_callTy call_int1 (by rfl) T.b_int PyProof.Rows.boot_int (pa_cons (pe_dget hu (pv 0) pe_str (fun _ _ => rfl)) pa_nil)) (pv 1)))
      (pss_cons (ps_dput hu (pv 0) pe_str (pe_op op_fdivB (pe_dget hu (pv 0) pe_str (fun _ _ => rfl)) (pv 1)) rfl)
      (pss_one (ps_ret (pv 2))))) pss_nil)
      (pss_cons (ps_set (i := 3) sc_draw.nd rfl (Or.inl rfl) (pe_dget hu (pv 0) pe_str (fun _ _ => rfl)))
      (pss_cons (ps_dput hu (pv 0) pe_str (pe_op op_add (pv 3) pe_int) rfl)
      (pss_cons (ps_set (i := 4) sc_draw.nd rfl (Or.inl rfl) (pe_op op_add (pe_op op_mulB pe_int (pv 3)) pe_int))
      (Evl.pss_cut (ps_if (pt_cmpR (op_neD hr.units) (pe_dget hu (pv 0) pe_str (fun _ _ => rfl)) (pe_lst pa_nil) (nomark _)) (pss_one (ps_set (i := 4) sc_draw.nd rfl (Or.inl rfl) (pe_ix ix_list (pe_dget hu (pv 0) pe_str (fun _ _ => rfl)) (pe_op op_mod (pe_callTy call_int1 (by rfl) T.b_int PyProof.Rows.boot_int (pa_cons (pv 3) pa_nil)) (pe_callB call_len_seq (by rfl) T.b_len PySem.boot_len (pa_cons (pe_dget hu (pv 0) pe_str (fun _ _ => rfl)) pa_nil))) (fun _ _ => rfl)))) pss_nil)
      (Evl.pss_cut (ps_if (PW.pt (pw_and (pt_cmpR op_lt (pv 3) (pe_callB call_len_seq (by rfl) T.b_len PySem.boot_len (pa_cons (pe_dget hu (pv 0) pe_str (fun _ _ => rfl)) pa_nil)) (nomark _)) (pw_and1 (pt_cmpR op_ge (pe_callB call_abs (by rfl) T.b_abs (by decide +kernel) (pa_cons (pv 4) pa_nil)) (ppow (c := 1000000000000000000) (by decide) (by decide +kernel)) (nomark _))))) (pss_cons (ps_dput hu (pv 0) pe_str (pe_op op_fdivB (pe_op op_sub (pe_callB call_abs (by rfl) T.b_abs (by decide +kernel) (pa_cons (pv 4) pa_nil)) (ppow (c := 1000000000000000000) (by decide) (by decide +kernel))) (pv 1)) rfl)
      (pss_one (ps_ret (pe_op op_mod (pe_op op_sub (pe_callB call_abs (by rfl) T.b_abs (by decide +kernel) (pa_cons (pv 4) pa_nil)) (ppow (c := 1000000000000000000) (by decide) (by decide +kernel))) (pv 1))))) pss_nil)
      (pss_cons (ps_set (i := 5) sc_draw.nd rfl (Or.inl rfl) (pe_op op_mod (pe_callTy call_int1 (by rfl) T.b_int PyProof.Rows.boot_int (pa_cons (pe_op op_add (pe_op op_add (pe_op op_mulB (pe_op op_mod (pe_callTy call_int1 (by rfl) T.b_int PyProof.Rows.boot_int (pa_cons (pv 4) pa_nil)) pe_int) pe_int) (pe_op op_mulB (pe_op op_mulB pe_int (pv 3)) (pv 3))) pe_int) pa_nil)) pe_int))
      (pss_cons (ps_set (i := 5) sc_draw.nd rfl (Or.inl rfl) (pe_op op_mod (pe_callTy call_int1 (by rfl) T.b_int PyProof.Rows.boot_int (pa_cons (pe_op op_add (pe_op op_add (pe_op op_add (pe_op op_mulB (pv 5) (pv 5)) (pe_op op_mulB pe_int (pv 5))) (pe_op op_mulB pe_int (pv 3))) pe_int) pa_nil)) pe_int))
      (pss_cons (ps_set (i := 5) sc_draw.nd rfl (Or.inl rfl) (pe_op op_fdivB (pe_op op_mod (pe_callTy call_int1 (by rfl) T.b_int PyProof.Rows.boot_int (pa_cons (pe_op op_mulB (pv 5) (pe_op op_add (pv 5) pe_int)) pa_nil)) pe_int) pe_int))
      (Evl.pss_cut (ps_if (pt_cmpR op_gt (pv 1) pe_int (nomark _)) (pss_one (ps_set (i := 5) sc_draw.nd rfl (Or.inl rfl) (pe_op op_add (pe_op op_mod (pe_callTy call_int1 (by rfl) T.b_int PyProof.Rows.boot_int (pa_cons (pv 5) pa_nil)) pe_int) (pe_op op_mulB pe_int (pe_call c_draw.F hr (by rfl) T.g_draw c_draw.kp c_draw.b .nil pass0 (pa_cons (pv 0) (pa_cons (pe_op op_add (pe_op op_fdivB (pv 1) pe_int) pe_int) pa_nil))))))) pss_nil)
      (pss_one (ps_ret (pe_op op_mod (pe_callTy call_int1 (by rfl) T.b_int PyProof.Rows.boot_int (pa_cons (pv 5) pa_nil)) (pv 1)))))))))))))), ?_⟩
      obtain ⟨r, hp, hc, hn, hb0, hr0⟩ := hP
      replace hp : H p = some (penO c b r) := hp
      replace hc : SqL K H c (cs.map V.int) := hc
      replace hn : cs.length ≤ 63 := hn
      have big : many < Big := by
        unfold Big
        omega
      -- if rest > 0
      refine ⟨.ref p, rfl, p, .int r, rfl, pen_rest hp, r, 0, rfl, rfl, _, rfl, ite2 (fun e => ?_) (fun e => ?_)⟩
      · refine ⟨.ref p, rfl, p, .int r, rfl, pen_rest hp, .inl ⟨r, rfl, .int many, rfl, r, many, rfl, rfl, h0, ?_⟩⟩
        refine ⟨.ref p, rfl, p, .int r, rfl, pen_rest hp, .int many, rfl, r, many, rfl, rfl, ⟨h0, big⟩, .ref p, rfl, p, _, rfl, put_rest hp (r / many), ?_⟩
        refine ⟨_, rfl, q (r % many) _ b (Ext.put hp) ⟨r / many, upd_same, (Ext.put hp).l hc, hn, hb0, Int.ediv_nonneg hr0 (by omega)⟩ (by omega) (Int.emod_nonneg _ (by omega)) (Int.emod_lt_of_pos _ h0)⟩
      · have rz : r = 0 := by
          have := of_decide_eq_false (Bool.eq_false_iff.mpr e)
          omega
        -- site, begun
        refine ⟨.ref p, rfl, p, .int b, rfl, pen_begun hp, ?_⟩
        refine ⟨.int b, rfl, b, 1, rfl, rfl, .ref p, rfl, p, _, rfl, put_begun hp (b + 1), ?_⟩
        have e1 : Ext p H (upd H p (penO c (b + 1) r)) := Ext.put hp
        have hp1 : (upd H p (penO c (b + 1) r)) p = some (penO c (b + 1) r) := upd_same
        have hc1 := e1.l hc
        generalize upd H p (penO c (b + 1) r) = H1 at e1 hp1 hc1 ⊢
        -- cell = 61 * site + 7
        refine ⟨.int b, rfl, 61, b, rfl, rfl, ⟨by decide, by decide, by unfold Big; omega, by unfold Big; omega⟩, _, 7, rfl, rfl, ?_⟩
        refine ⟨fun σ' H' => ∃ v : Int, σ' = [some (.ref p), some (.int many), none, some (.int b), some (.int v), none] ∧ Ext p H H' ∧ H' p = some (penO c (b + 1) r) ∧ SqL K H' c (cs.map V.int), ?_, fun σ' H' hM => ?_⟩
        · -- if cells != []
          refine ⟨.ref p, rfl, p, .ref c, rfl, pen_cells hp1, Nat.zero_le _, fun l nl => ?_⟩
          have e2 : Ext p H1 (upd H1 l (.lst [])) := Ext.new ⟨_, hp1⟩ nl
          have hp2 : (upd H1 l (.lst [])) p = some (penO c (b + 1) r) := by
            rw [upd_ne (ne_of_none hp1 nl)]
            exact hp1
          have hl2 : (upd H1 l (.lst [])) l = some (.lst []) := upd_same
          have hc2 := e2.l hc1
          generalize upd H1 l (.lst []) = H2 at e2 hp2 hc2 hl2 ⊢
          refine ⟨.list (cs.map PyData.int), .list [], .lst hc2 (dp_ints cs), .lst (SqL.of hl2) .nil, shaped_ints cs (by omega), rfl, _, rfl, ite2 (fun e => ?_) (fun e => ?_)⟩
          · have ne : cs ≠ [] := fun z => by
              subst z
              cases e
            have lp : 0 < cs.length := List.length_pos_iff.mpr ne
            refine ⟨.ref p, rfl, p, .ref c, rfl, pen_cells hp2, .int b, rfl, .inl ⟨b, rfl, .ref p, rfl, p, .ref c, rfl, pen_cells hp2, c, _, rfl, .inl hc2, b, _, rfl, rfl, ?_, ?_⟩⟩
            · rw [List.length_map]
              show (0 : Int) < cs.length
              omega
            · rw [List.length_map]
              have i0 : 0 ≤ b % (cs.length : Int) := Int.emod_nonneg _ (by omega)
              have i1 : b % (cs.length : Int) < cs.length := Int.emod_lt_of_pos _ (by omega)
              obtain ⟨i, ei⟩ := Int.eq_ofNat_of_zero_le i0
              have il : i < cs.length := by omega
              refine ⟨c, _, _, .int cs[i], rfl, rfl, hc2, ?_, ⟨cs[i], rfl, e1.trans e2, hp2, hc2⟩⟩
              rw [ei]
              exact atI_nat (by rw [List.getElem?_map, List.getElem?_eq_getElem il]; rfl)
          · exact ⟨_, rfl, e1.trans e2, hp2, hc2⟩
        · obtain ⟨v, rfl, e2, hp2, hc2⟩ := hM
          clear e1 hp1 hc1
          have ab : 0 ≤ (if v < 0 then -v else v) := by split <;> omega
          -- if site < len(cells) and abs(cell) >= 10 ** 18
          refine ⟨fun σ3 H3 => σ3 = [some (.ref p), some (.int many), none, some (.int b), some (.int v), none] ∧ H3 = H', ?_, ?_⟩
          · refine ⟨.int b, rfl, .ref p, rfl, p, .ref c, rfl, pen_cells hp2, c, _, rfl, .inl hc2, b, _, rfl, rfl, _, rfl, ite2 (fun e3 => ?_) (fun e3 => ?_)⟩
            · refine ⟨.int v, rfl, v, rfl, _, _, rfl, rfl, _, rfl, ite2 (fun e4 => ?_) (fun e4 => ?_)⟩
              · have ge := of_decide_eq_true e4
                refine ⟨.int v, rfl, v, rfl, _, _, rfl, rfl, .int many, rfl, _, many, rfl, rfl, ⟨h0, big⟩, .ref p, rfl, p, _, rfl, put_rest hp2 _, ?_⟩
                have e5 := Ext.put (kvs' := [(.inr "cells", .ref c), (.inr "begun", .int (b + 1)), (.inr "rest", .int (((if v < 0 then -v else v) - 1000000000000000000) / many))]) hp2
                refine ⟨.int v, rfl, v, rfl, _, _, rfl, rfl, .int many, rfl, _, many, rfl, rfl, h0, q _ _ (b + 1) (e2.trans e5) ⟨_, upd_same, e5.l hc2, hn, by omega, Int.ediv_nonneg (by omega) (by omega)⟩ (by omega) (Int.emod_nonneg _ (by omega)) (Int.emod_lt_of_pos _ h0)⟩
              · exact ⟨rfl, rfl⟩
            · exact ⟨rfl, rfl⟩
          · rintro σ3 H3 ⟨rfl, rfl⟩
            -- mixed, thrice
            have m0 : 0 ≤ v % 4294967279 := Int.emod_nonneg _ (by decide)
            have m1 : v % 4294967279 < 4294967279 := Int.emod_lt_of_pos _ (by decide)
            have bb : 0 ≤ 40503 * b ∧ 40503 * b < 10 ^ 20 := by omega
            refine ⟨.int v, rfl, .inl ⟨v, rfl, v, 4294967279, rfl, rfl, by walk_at "sc", _, 69069, rfl, rfl, by walk_at "sc", .int b, rfl, 40503, b, rfl, rfl, by walk_at "sc", .int b, rfl, _, b, rfl, rfl, by walk_at "sc", _, _, rfl, rfl, _, 101, rfl, rfl, .inl ⟨_, rfl, _, 4294967291, rfl, rfl, by walk_at "sc", ?_⟩⟩⟩
            have n0 : 0 ≤ (v % 4294967279 * 69069 + 40503 * b * b + 101) % 4294967291 := Int.emod_nonneg _ (by decide)
            have n1 : (v % 4294967279 * 69069 + 40503 * b * b + 101) % 4294967291 < 4294967291 := Int.emod_lt_of_pos _ (by decide)
            dsimp only
            generalize (v % 4294967279 * 69069 + 40503 * b * b + 101) % 4294967291 = x1 at n0 n1 ⊢
            refine ⟨.int x1, rfl, .int x1, rfl, x1, x1, rfl, rfl, by walk_at "sc", .int x1, rfl, 31337, x1, rfl, rfl, by walk_at "sc", _, _, rfl, rfl, .int b, rfl, 17, b, rfl, rfl, by walk_at "sc", _, _, rfl, rfl, _, 3, rfl, rfl, .inl ⟨_, rfl, _, 4294967279, rfl, rfl, by walk_at "sc", ?_⟩⟩
            have k0 : 0 ≤ (x1 * x1 + 31337 * x1 + 17 * b + 3) % 4294967279 := Int.emod_nonneg _ (by decide)
            have k1 : (x1 * x1 + 31337 * x1 + 17 * b + 3) % 4294967279 < 4294967279 := Int.emod_lt_of_pos _ (by decide)
            dsimp only
            generalize (x1 * x1 + 31337 * x1 + 17 * b + 3) % 4294967279 = x2 at k0 k1 ⊢
            refine ⟨.int x2, rfl, .int x2, rfl, x2, 65599, rfl, rfl, x2, _, rfl, rfl, by walk_at "sc", .inl ⟨_, rfl, _, 4294967197, rfl, rfl, by walk_at "sc", _, 64, rfl, rfl, by walk_at "sc", ?_⟩⟩
            have l0 : 0 ≤ x2 * (x2 + 65599) % 4294967197 / 64 := Int.ediv_nonneg (Int.emod_nonneg _ (by decide)) (by decide)
            dsimp only
            generalize x2 * (x2 + 65599) % 4294967197 / 64 = x3 at l0 ⊢
            -- the last: a great number's upper figures
            refine ⟨fun σ4 H4 => ∃ (y b4 : Int), σ4 = [some (.ref p), some (.int many), none, some (.int b), some (.int v), some (.int y)] ∧ Ext p H H4 ∧ Pen K H4 ⟨p, c, cs⟩ b4 ∧ b4 ≤ b + d + 1, ?_, ?_⟩
            · refine ⟨.int many, rfl, many, 60000000, rfl, rfl, _, rfl, ite2 (fun e5 => ?_) (fun e5 => ?_)⟩
              · have gt := of_decide_eq_true e5
                refine ⟨.int x3, rfl, .inl ⟨x3, rfl, x3, 60000000, rfl, rfl, by walk_at "sc", .ref p, rfl, .int many, rfl, many, 60000000, rfl, rfl, by walk_at "sc", _, 1, rfl, rfl, ?_⟩⟩
                cases d with
                | zero => exact absurd hl (by show ¬ many ≤ 60000000; omega)
                | succ d =>
                  have hl2 : many ≤ 60000000 * (dlim d - 1) := hl
                  have dp := dlim_pos d
                  refine ⟨⟨p, c, cs⟩, many / 60000000 + 1, b + 1, rfl, ⟨r, hp2, hc2, hn, by omega, hr0⟩, by omega, by omega, by omega, by omega, fun r2 H4 b4 e6 hP4 hb4 r0 r1 => ?_⟩
                  refine ⟨60000000, r2, rfl, rfl, by walk_at "sc", _, _, rfl, rfl, _, b4, rfl, e2.trans e6, hP4, by omega⟩
              · exact ⟨x3, b + 1, rfl, e2, ⟨r, hp2, hc2, hn, by omega, hr0⟩, by omega⟩
            · rintro σ4 H4 ⟨y, b4, rfl, e6, hP4, hb4⟩
              refine ⟨.int y, rfl, .inl ⟨y, rfl, .int many, rfl, y, many, rfl, rfl, h0, q (y % many) H4 b4 e6 hP4 hb4 (Int.emod_nonneg _ (by omega)) (Int.emod_lt_of_pos _ h0)⟩⟩
end
end KP

namespace KP
open PySem PySem.Spec PyProof.Rows L2
local macro_rules | `(tactic| walk_at "sc") => `(tactic| first | (show (0 : Int) < _; decide) | (show (0 : Int) < _; omega) | (refine ⟨?_, ?_, ?_, ?_⟩ <;> (first | omega | (unfold Big; omega))) | (refine ⟨?_, ?_, ?_⟩ <;> (first | omega | (unfold Big; omega))) | (refine ⟨?_, ?_⟩ <;> (first | omega | (unfold Big; omega))))
/-! ### promises of what draws -/
/-- b draws are begun; what follows may begin n more -/
def spDraw (K : PySem.W.Frag) : Sp := fun vs H Q _ => ∃ (p : Pid) (many b : Int), vs = [.ref p.a, .int many] ∧ Pen K H p b ∧ 0 < many ∧ many ≤ 10 ^ 100 ∧ b < 10 ^ 11 ∧
  ∀ (r : Int) (H' : Hp) (b' : Int), Ext p.a H H' → Pen K H' p b' → b' ≤ b + 13 → 0 ≤ r → r < many → Q (.int r) H'
/-- a list or a tuple of xs, or a text of the signs xs -/
def SeqOf (K : PySem.W.Frag) (H : Hp) (o : V) (xs : List V) : Prop := (∃ a, o = .ref a ∧ (SqL K H a xs ∨ SqT K H a xs)) ∨ ∃ z : Str, o = .str z ∧ z.length ≤ 1000 ∧ xs = z.cps.toList.map fun c => .str ⟨#[c]⟩
def spPick (K : PySem.W.Frag) : Sp := fun vs H Q _ => ∃ (p : Pid) (o : V) (xs : List V) (b : Int), vs = [.ref p.a, o] ∧ Pen K H p b ∧ SeqOf K H o xs ∧ xs ≠ [] ∧ xs.length ≤ 1000 ∧ b < 10 ^ 11 ∧
  ∀ v ∈ xs, ∀ (H' : Hp) (b' : Int), Ext p.a H H' → Pen K H' p b' → b' ≤ b + 13 → Q v H'
def spAround (K : PySem.W.Frag) : Sp := fun vs H Q _ => ∃ (p : Pid) (most b : Int), vs = [.ref p.a, .int most] ∧ Pen K H p b ∧ 0 ≤ most ∧ most ≤ 10 ^ 99 ∧ b < 10 ^ 11 ∧
  ∀ (r : Int) (H' : Hp) (b' : Int), Ext p.a H H' → Pen K H' p b' → b' ≤ b + 13 → -most ≤ r → r ≤ most → Q (.int r) H'
def spPen (K : PySem.W.Frag) : Sp := fun vs H Q _ => ∃ (a : Addr) (ns : List Int), vs = [.ref a] ∧ SqL K H a (ns.map V.int) ∧ ∀ (p : Pid) (H' : Hp), Same H H' → H p.a = none → Pen K H' p 0 → Q (.ref p.a) H'
/-- a name: one to eight small letters -/
def NameOk (z : Str) : Prop := 1 ≤ z.length ∧ z.length ≤ 8 ∧ ∀ c ∈ z.cps.toList, 97 ≤ c ∧ c ≤ 122
def spNames (K : PySem.W.Frag) : Sp := fun vs H Q _ => ∃ (p : Pid) (many b : Int), vs = [.ref p.a, .int many] ∧ Pen K H p b ∧ 0 ≤ many ∧ many ≤ 52 ∧ b < 10 ^ 10 ∧
  ∀ (l : Addr) (zs : List Str) (H' : Hp) (b' : Int), Ext p.a H H' → H l = none → Pen K H' p b' → b' ≤ b + 1000 → H' l = some (.lst (zs.map V.str)) → (zs.length : Int) = many → (∀ z ∈ zs, NameOk z) → zs.Nodup → Q (.ref l) H'
section
variable {P : Program} {w : World} {K : PySem.W.Frag} {mg : Str → Option Value} {base : Heap}
theorem SeqOf.ext {p : Addr} {H H' : Hp} {o : V} {xs : List V} (e : Ext p H H') (h : SeqOf K H o xs) : SeqOf K H' o xs := by
  rcases h with ⟨a, ea, h | h⟩ | h
  · exact .inl ⟨a, ea, .inl (e.l h)⟩
  · exact .inl ⟨a, ea, .inr (e.t h)⟩
  · exact .inr h
theorem k_draw (T : Tx K mg) : Cal P w K mg base 13 (He.ga K "_law_draw") T.fd_draw P_draw (spDraw K) :=
  ⟨(ok_draw T 13).imp fun vs H Q E ⟨p, many, b, e, hP, h0, h1, hb, q⟩ => ⟨p, many, b, e, hP, h0, Int.le_trans h1 (by decide +kernel), by omega, (show b + (12 : Int) < 10 ^ 12 by omega), fun r H' b' x1 x2 (x3 : b' ≤ b + (12 : Int) + 1) => q r H' b' x1 x2 (by omega)⟩, T.fn_draw.kp, FunD.bindsN T.fn_draw fun _ _ _ _ _ _ us hl => match us, hl with | [_, _], _ => rfl⟩
theorem k_pick (T : Tx K mg) : Cal P w K mg base 14 (He.ga K "_law_pick") T.fd_pick P_pick (spPick K) := by
  have c_draw := k_draw (P := P) (w := w) (base := base) T
  refine ⟨T.fn_pick.ok sc_pick (fun vs H Q E h => ?_) (fun cdv A outer s H vs Q E hr h => ?_), T.fn_pick.kp, FunD.bindsN T.fn_pick fun _ _ _ _ _ _ us hl => match us, hl with | [_, _], _ => rfl⟩
  · obtain ⟨p, o, xs, b, rfl, _⟩ := h
    rfl
  · obtain ⟨p, o, xs, b, rfl, hP, hS, hne, hlen, hb, q⟩ := h
    refine ⟨_, PSs.nox (pss_one (ps_ret (pe_ix ix_seq (pv 1) (pe_call c_draw.F (hr.mono (by decide)) (by rfl) T.g_draw c_draw.kp c_draw.b .nil pass0 (pa_cons (pv 0) (pa_cons (pe_callB call_len (by rfl) T.b_len PySem.boot_len (pa_cons (pv 1) pa_nil)) pa_nil))) (fun _ _ => rfl)))), ?_⟩
    have lp : 0 < xs.length := List.length_pos_iff.mpr hne
    have hlv : LenV K o H xs.length := by
      rcases hS with ⟨a, rfl, h | h⟩ | ⟨z, rfl, hz, rfl⟩
      · exact .inl ⟨xs, h, rfl⟩
      · exact .inr ⟨xs, h, rfl⟩
      · exact ⟨Nat.le_trans hz (by rw [sizeLine_eq]; decide), by rw [List.length_map]; rfl⟩
    refine ⟨o, rfl, .ref p.a, rfl, o, rfl, o, xs.length, rfl, hlv, p, _, b, rfl, hP, by omega, by omega, hb, fun r H' b' e1 hP1 hb1 r0 r1 => ?_⟩
    obtain ⟨i, rfl⟩ := Int.eq_ofNat_of_zero_le r0
    have hi : i < xs.length := by omega
    have fin : Q xs[i] H' := q _ (List.getElem_mem hi) H' b' e1 hP1 hb1
    rcases hS.ext e1 with ⟨a, rfl, h | h⟩ | ⟨z, rfl, hz, rfl⟩
    · exact .inl ⟨a, xs, i, xs[i], rfl, rfl, h, atI_nat (List.getElem?_eq_getElem hi), fin⟩
    · exact .inr (.inl ⟨a, xs, i, xs[i], rfl, rfl, h, atI_nat (List.getElem?_eq_getElem hi), fin⟩)
    · rw [List.length_map] at hi
      refine .inr (.inr ⟨z, i, z.cps.toList[i], rfl, rfl, Nat.le_trans hz (by rw [sizeLine_eq]; decide), atI_nat (List.getElem?_eq_getElem hi), ?_⟩)
      rw [List.getElem_map] at fin
      exact fin
theorem k_around (T : Tx K mg) : Cal P w K mg base 14 (He.ga K "_law_around") T.fd_around P_around (spAround K) := by
  have c_draw := k_draw (P := P) (w := w) (base := base) T
  refine ⟨T.fn_around.ok sc_around (fun vs H Q E h => ?_) (fun cdv A outer s H vs Q E hr h => ?_), T.fn_around.kp, FunD.bindsN T.fn_around fun _ _ _ _ _ _ us hl => match us, hl with | [_, _], _ => rfl⟩
  · obtain ⟨p, most, b, rfl, _⟩ := h
    rfl
  · obtain ⟨p, most, b, rfl, hP, h0, h1, hb, q⟩ := h
    refine ⟨_, PSs.nox (pss_one (ps_ret (pe_op op_sub (pe_call c_draw.F (hr.mono (by decide)) (by rfl) T.g_draw c_draw.kp c_draw.b .nil pass0 (pa_cons (pv 0) (pa_cons (pe_op op_add (pe_op op_mulB pe_int (pv 1)) pe_int) pa_nil))) (pv 1)))), ?_⟩
    refine ⟨.ref p.a, rfl, .int most, rfl, 2, most, rfl, rfl, by walk_at "sc", _, 1, rfl, rfl, p, 2 * most + 1, b, rfl, hP, by omega, by omega, hb, fun r H' b' e1 hP1 hb1 r0 r1 => ?_⟩
    exact ⟨.int most, rfl, r, most, rfl, rfl, q (r - most) H' b' e1 hP1 hb1 (by omega) (by omega)⟩
theorem k_pen (T : Tx K mg) : Cal P w K mg base 1 (He.ga K "_law_pen") T.fd_pen P_pen (spPen K) := by
  refine ⟨T.fn_pen.ok sc_pen (fun vs H Q E h => ?_) (fun cdv A outer s H vs Q E hr h => ?_), T.fn_pen.kp, FunD.bindsN T.fn_pen fun _ _ _ _ _ _ us hl => match us, hl with | [_], _ => rfl⟩
  · obtain ⟨a, ns, rfl, _⟩ := h
    rfl
  · obtain ⟨a, ns, rfl, hS, q⟩ := h
    refine ⟨_, PSs.nox (pss_one (ps_ret (pe_disp (pps_cons pe_str (pe_callTy call_list_of (by rfl) T.b_list (by decide +kernel) (pa_cons (pe_slice sl_list (pv 0) po_none (po_some pe_int)) pa_nil)) (pps_cons pe_str pe_int (pps_cons pe_str pe_int pps_nil))) (by rfl) (by rfl) (fun z => by cases z) (by decide)))), ?_⟩
    intro p np
    refine ⟨.ref a, rfl, 63, rfl, a, _, rfl, (Same.new np).seq hS, fun c nc => ?_⟩
    refine ⟨c, _, rfl, .inl (SqL.of upd_same), fun l nl => ?_⟩
    have hpc : p ≠ c := ne_of_none upd_same nc
    have hpl : p ≠ l := ne_of_none (by rw [upd_ne hpc]; exact upd_same) nl
    have hcl : c ≠ l := ne_of_none upd_same nl
    refine ⟨?_, [(.inr "cells", .ref l), (.inr "begun", .int 0), (.inr "rest", .int 0)], rfl, by show 3 ≤ 15; decide, ?_⟩
    · rw [upd_ne hpl, upd_ne hpc]
      exact upd_same
    · have cut : cutV (ns.map V.int) none (some 63) = (ns.take 63).map V.int := by
        unfold cutV
        rw [HT.sIx_none, show HT.sIx (ns.map V.int).length (ns.map V.int).length (some 63) = min 63 (ns.map V.int).length from HT.sIx_nat _ _ 63]
        rw [List.drop_zero, Nat.sub_zero, List.map_take]
        rw [List.take_eq_take_iff]
        omega
      refine q ⟨p, l, ns.take 63⟩ _ (fun x o hx => ?_) np ⟨0, upd_same, .inl (.inl ?_), by show (ns.take 63).length ≤ 63; rw [List.length_take]; omega, by omega, by omega⟩
      · have xp : x ≠ p := ne_of_none hx np
        have h1 : (upd H p (.dK [])) x = some o := by
          rw [upd_ne xp]
          exact hx
        have xc : x ≠ c := ne_of_none h1 nc
        have h2 : (upd (upd H p (.dK [])) c (.lst (cutV (ns.map V.int) none (some 63)))) x = some o := by
          rw [upd_ne xc]
          exact h1
        rw [upd_ne xp, upd_ne (ne_of_none h2 nl)]
        exact h2
      · show (upd _ p _) l = _
        rw [upd_ne hpl.symm, upd_same, cut]
end
end KP

namespace KP
open PySem PySem.Spec PyProof.Rows L2
local macro_rules | `(tactic| walk_at "sc") => `(tactic| first | (show (0 : Int) < _; decide) | (show (0 : Int) < _; omega) | (refine ⟨?_, ?_, ?_, ?_⟩ <;> (first | omega | (unfold Big; omega))) | (refine ⟨?_, ?_, ?_⟩ <;> (first | omega | (unfold Big; omega))) | (refine ⟨?_, ?_⟩ <;> (first | omega | (unfold Big; omega))))
/-! ### names: the mathematics -/
def abc : Str := "abcdefghijklmnopqrstuvwxyz"
def abcL : List Nat := (List.range 26).map (97 + ·)
theorem abc_tl : abc.cps.toList = abcL := by decide +kernel
theorem abc_at {i : Nat} (h : i < 26) : abc.cps.toList[i]? = some (97 + i) := by
  rw [abc_tl]
  unfold abcL
  rw [List.getElem?_map, List.getElem?_range h]
  rfl
theorem mem_abc {c : Nat} (h : c ∈ abc.cps.toList) : 97 ≤ c ∧ c ≤ 122 := by
  rw [abc_tl] at h
  obtain ⟨i, hi, rfl⟩ := List.mem_map.mp h
  have := List.mem_range.mp hi
  omega
abbrev Let (c : Nat) : Prop := 97 ≤ c ∧ c ≤ 122
def steps : List Int := [1, 3, 5, 7, 9, 11, 15, 17, 19, 21, 23, 25]
/-- the k-th name: stem and own letter, behind it a sign from the 26-th on -/
def NameAt (S : List Nat) (front step : Int) (k : Nat) (z : Str) : Prop := ∃ (c : Nat) (t : List Nat), (c : Int) = 97 + (front + step * k) % 26 ∧ z.cps.toList = (if S.length % 2 = 0 then S ++ [c] else [c] ++ S) ++ t ∧ (k < 26 → t = []) ∧ (26 ≤ k → ∃ d, Let d ∧ t = [d])
theorem nameAt_ok {S : List Nat} {front step : Int} {k : Nat} {z : Str} (hS : S.length ≤ 6) (hL : ∀ c ∈ S, Let c) (h : NameAt S front step k z) : NameOk z := by
  obtain ⟨c, t, hc, hz, h1, h2⟩ := h
  have cl : Let c := by
    have a := Int.emod_nonneg (front + step * k) (show (26 : Int) ≠ 0 by decide)
    have b := Int.emod_lt_of_pos (front + step * k) (show (0 : Int) < 26 by decide)
    constructor <;> omega
  have tl1 : t.length ≤ 1 ∧ ∀ d ∈ t, Let d := by
    by_cases hk : k < 26
    · rw [h1 hk]
      exact ⟨Nat.zero_le _, fun d hd => nomatch hd⟩
    · obtain ⟨d, hd, rfl⟩ := h2 (by omega)
      exact ⟨Nat.le_refl _, fun e he => by
        rw [List.mem_singleton.mp he]
        exact hd⟩
  have len : z.length = S.length + 1 + t.length := by
    show z.cps.size = _
    rw [← Array.length_toList, hz]
    split <;> simp <;> omega
  refine ⟨by omega, by omega, fun d hd => ?_⟩
  rw [hz] at hd
  rcases List.mem_append.mp hd with hd | hd
  · split at hd
    · rcases List.mem_append.mp hd with hd | hd
      · exact hL d hd
      · rw [List.mem_singleton.mp hd]
        exact cl
    · rcases List.mem_append.mp hd with hd | hd
      · rw [List.mem_singleton.mp hd]
        exact cl
      · exact hL d hd
  · exact tl1.2 d hd
theorem step_apart {step : Int} (hs : step ∈ steps) {front : Int} {i j : Nat} (hij : i < j) (hd : j < i + 26) (e : (front + step * i) % 26 = (front + step * j) % 26) : False := by
  have hm : (step * ((j : Int) - i)) % 26 = 0 := by
    have h1 : (front + step * j - (front + step * i)) % 26 = 0 := by omega
    have h2 : front + step * j - (front + step * i) = step * ((j : Int) - i) := by
      rw [Int.mul_sub]
      omega
    rw [h2] at h1
    exact h1
  obtain ⟨m, hm1⟩ : ∃ m : Nat, (j : Int) - i = m := ⟨j - i, by omega⟩
  rw [hm1] at hm
  have hm0 : 0 < m ∧ m < 26 := by omega
  have key : ∀ s ∈ steps, ∀ m : Nat, m < 26 → 0 < m → ¬ (s * (m : Int)) % 26 = 0 := by decide +kernel
  exact key step hs m hm0.2 hm0.1 hm
theorem base_inj {S : List Nat} {c d : Nat} (h : (if S.length % 2 = 0 then S ++ [c] else [c] ++ S) = (if S.length % 2 = 0 then S ++ [d] else [d] ++ S)) : c = d := by
  split at h
  · have := List.append_cancel_left h
    simpa using this
  · have := List.append_cancel_right h
    simpa using this
theorem nameAt_ne {S : List Nat} {front step : Int} (hs : step ∈ steps) {i j : Nat} (hij : i < j) (hj : j < 52) {y z : Str} (hy : NameAt S front step i y) (hz : NameAt S front step j z) : y ≠ z := fun e => by
  subst e
  obtain ⟨c, t, hc, e1, t1, t2⟩ := hy
  obtain ⟨d, u, hd, e2, u1, u2⟩ := hz
  have ee := e1.symm.trans e2
  have bl : ∀ x : Nat, (if S.length % 2 = 0 then S ++ [x] else [x] ++ S).length = S.length + 1 := fun x => by
    split <;> simp
  have ll : t.length = u.length := by
    have := congrArg List.length ee
    rw [List.length_append, List.length_append, bl, bl] at this
    omega
  have near : j < i + 26 := by
    by_cases hi : i < 26
    · by_cases hj2 : j < 26
      · omega
      · obtain ⟨x, _, rfl⟩ := u2 (by omega)
        rw [t1 hi] at ll
        simp at ll
    · omega
  have cd : c = d := by
    have := List.append_inj_left ee (by rw [bl, bl])
    exact base_inj this
  refine step_apart hs hij near (front := front) ?_
  have : (c : Int) = d := by rw [cd]
  omega
theorem names_nodup {S : List Nat} {front step : Int} (hs : step ∈ steps) {zs : List Str} (hl : zs.length ≤ 52) (h : ∀ (i : Nat) (z : Str), zs[i]? = some z → NameAt S front step i z) : zs.Nodup := by
  rw [List.Nodup, List.pairwise_iff_getElem]
  intro i j hi hj hij
  exact nameAt_ne hs hij (by omega) (h i _ (List.getElem?_eq_getElem hi)) (h j _ (List.getElem?_eq_getElem hj))
theorem join_ones : ∀ ys : List Str, (∀ y ∈ ys, ∃ c, Let c ∧ y = ⟨#[c]⟩) → (Txt.join "" ys).cps.toList.length = ys.length ∧ ∀ c ∈ (Txt.join "" ys).cps.toList, Let c := by
  intro ys h
  have key : ∀ ys : List Str, (∀ y ∈ ys, ∃ c, Let c ∧ y = ⟨#[c]⟩) → (TL.joinL [] (ys.map TL.tl)).length = ys.length ∧ ∀ c ∈ TL.joinL [] (ys.map TL.tl), Let c := by
    intro ys
    induction ys with
    | nil => exact fun _ => ⟨rfl, fun c hc => nomatch hc⟩
    | cons y r ih =>
      intro h
      obtain ⟨c, hc, rfl⟩ := h y (List.mem_cons_self ..)
      have ih2 := ih fun z hz => h z (List.mem_cons_of_mem _ hz)
      cases r with
      | nil =>
        refine ⟨rfl, fun d hd => ?_⟩
        have hd2 : d ∈ [c] := hd
        rw [List.mem_singleton.mp hd2]
        exact hc
      | cons z r =>
        have e : TL.joinL [] (((⟨#[c]⟩ : Str) :: z :: r).map TL.tl) = [c] ++ ([] ++ TL.joinL [] ((z :: r).map TL.tl)) := rfl
        rw [e]
        refine ⟨by rw [List.length_append, List.nil_append, ih2.1]; simp; omega, fun d hd => ?_⟩
        rcases List.mem_append.mp hd with hd | hd
        · rw [List.mem_singleton.mp hd]
          exact hc
        · exact ih2.2 d hd
  have e : (Txt.join "" ys).cps.toList = TL.joinL [] (ys.map TL.tl) := by
    rw [TL.join_eq]
    exact TL.tl_join "" ys
  rw [e]
  exact key ys h
section
variable {P : Program} {w : World} {K : PySem.W.Frag} {mg : Str → Option Value} {base : Heap}
theorem seq_abc (H : Hp) : SeqOf K H (.str abc) (abc.cps.toList.map fun c => .str ⟨#[c]⟩) := .inr ⟨abc, rfl, by decide +kernel, rfl⟩
theorem abc_ne : (abc.cps.toList.map fun c => V.str ⟨#[c]⟩) ≠ [] := by
  rw [abc_tl]
  intro h
  cases h
theorem abc_len : (abc.cps.toList.map fun c => V.str ⟨#[c]⟩).length ≤ 1000 := by
  rw [List.length_map, abc_tl]
  decide
theorem abc_mem {v : V} (h : v ∈ abc.cps.toList.map fun c => V.str ⟨#[c]⟩) : ∃ c, Let c ∧ v = .str ⟨#[c]⟩ := by
  obtain ⟨c, hc, rfl⟩ := List.mem_map.mp h
  exact ⟨c, mem_abc hc, rfl⟩
theorem str_add (x y : Str) : (x ++ y).cps.toList = x.cps.toList ++ y.cps.toList := TL.tl_append x y
theorem len_tl (x : Str) : x.length = x.cps.toList.length := by
  show x.cps.size = _
  rw [Array.length_toList]
theorem ones_sum : ∀ ys : List Str, (∀ y ∈ ys, ∃ c, Let c ∧ y = ⟨#[c]⟩) → (ys.map (·.length)).sum = ys.length
  | [], _ => rfl
  | y :: r, h => by
    obtain ⟨c, _, rfl⟩ := h y (List.mem_cons_self ..)
    have ih := ones_sum r fun z hz => h z (List.mem_cons_of_mem _ hz)
    rw [List.map_cons, List.sum_cons, ih, List.length_cons]
    show 1 + r.length = r.length + 1
    omega
theorem k_names (T : Tx K mg) : Cal P w K mg base 15 (He.ga K "_law_names") T.fd_names P_names (spNames K) := by
  have c_draw := k_draw (P := P) (w := w) (base := base) T
  have c_pick := k_pick (P := P) (w := w) (base := base) T
  refine ⟨T.fn_names.ok sc_names (fun vs H Q E h => ?_) (fun cdv A outer s H vs Q E hr h => ?_), T.fn_names.kp, FunD.bindsN T.fn_names fun _ _ _ _ _ _ us hl => match us, hl with | [_, _], _ => rfl⟩
  · obtain ⟨p, many, b, rfl, _⟩ := h
    rfl
  · obtain ⟨p, many, b, rfl, hP, h0, h1, hb, q⟩ := h
    refine ⟨_, PSs.nox (pss_cons (ps_set (i := 2) sc_names.nd rfl (Or.inr rfl) pe_str)
      (pss_cons (ps_set (i := 3) sc_names.nd rfl (Or.inl rfl) (pe_join pe_str (pe_lc (own := [("_law_k", 7)]) (by rfl) sc_names.nd (pi_range1 (by rfl) T.b_range (pa_cons (pe_call c_draw.F (hr.mono (by decide)) (by rfl) T.g_draw c_draw.kp c_draw.b .nil pass0 (pa_cons (pv 0) (pa_cons pe_int pa_nil))) pa_nil)) (blkOk_by (own := [("_law_k", 7)]) (N := N_names) (sc := defScope s_names) (by decide +kernel)) (fun _ _ _ _ _ => pg_name (i := 7) sc_names.nd rfl (Or.inl rfl)) (fun _ _ _ _ _ => pts_nil) (fun _ _ _ _ _ => (pe_call c_pick.F (hr.mono (by decide)) (by rfl) T.g_pick c_pick.kp c_pick.b .nil pass0 (pa_cons (pv 0) (pa_cons (pv 2) pa_nil)))))))
      (pss_cons (ps_par (by rfl) sc_names.nd (i := 4) (j := 5) rfl rfl (by decide) rfl rfl (pa_cons (pe_call c_draw.F (hr.mono (by decide)) (by rfl) T.g_draw c_draw.kp c_draw.b .nil pass0 (pa_cons (pv 0) (pa_cons pe_int pa_nil))) (pa_cons (pe_lst pa_nil) pa_nil)) (by rfl))
      (pss_cons (ps_set (i := 6) sc_names.nd rfl (Or.inl rfl) (pe_call c_pick.F (hr.mono (by decide)) (by rfl) T.g_pick c_pick.kp c_pick.b .nil pass0 (pa_cons (pv 0) (pa_cons (pe_lst (pa_cons pe_int (pa_cons pe_int (pa_cons pe_int (pa_cons pe_int (pa_cons pe_int (pa_cons pe_int (pa_cons pe_int (pa_cons pe_int (pa_cons pe_int (pa_cons pe_int (pa_cons pe_int (pa_cons pe_int pa_nil))))))))))))) pa_nil))))
      (pss_cons (ps_for PassesOwn.never rfl (pi_range1 (by rfl) T.b_range (pa_cons (pv 1) pa_nil)) (pg_name (i := 7) sc_names.nd rfl (Or.inl rfl))
      (pss_cons (ps_set (i := 8) sc_names.nd rfl (Or.inl rfl) (pe_ix ix_str (pv 2) (pe_op op_mod (pe_callTy call_int1 (by rfl) T.b_int PyProof.Rows.boot_int (pa_cons (pe_op op_add (pv 4) (pe_op op_mulB (pv 6) (pv 7))) pa_nil)) pe_int) (fun _ _ => rfl)))
      (pss_cons (ps_set (i := 9) sc_names.nd rfl (Or.inl rfl) (pcutE (pe_ifExp (pt_cmpR op_lt (pv 7) pe_int (nomark _)) pe_str (pe_call c_pick.F (hr.mono (by decide)) (by rfl) T.g_pick c_pick.kp c_pick.b .nil pass0 (pa_cons (pv 0) (pa_cons (pv 2) pa_nil))))))
      (pss_one (ps_expr (pe_bm PySem.F.plainAttrs_list PySem.F.slot_list_append PySem.F.type_list_append mt_append (pv 5) (pa_cons (pe_op op_add_str (pe_ix ix_list (pe_lst (pa_cons (pe_op op_add_str (pv 3) (pv 8)) (pa_cons (pe_op op_add_str (pv 8) (pv 3)) pa_nil))) (pe_op op_mod (pe_callB call_len_str (by rfl) T.b_len PySem.boot_len (pa_cons (pv 3) pa_nil)) pe_int) (fun _ _ => rfl)) (pv 9)) pa_nil)))))))
      (pss_one (ps_ret (pv 5)))))))), ?_⟩
    -- the stem
    refine ⟨⟨_, rfl⟩, .ref p.a, rfl, p, 7, b, rfl, hP, by decide, by decide, by omega, fun n H1 b1 e1 hP1 hb1 n0 n1 => ⟨n, rfl, by omega, by omega, fun Dl nD => ?_⟩⟩
    refine lc_range (lo := 0) (n := n.toNat) (fun i H' => ∃ (ys : List Str) (b' : Int), H' Dl = some (.lst (ys.map V.str)) ∧ ys.length = i ∧ (∀ y ∈ ys, ∃ c, Let c ∧ y = ⟨#[c]⟩) ∧ Ext p.a H1 H' ∧ Pen K H' p b' ∧ b' ≤ b1 + 13 * i) ?_ ?_ ?_
    · exact ⟨[], b1, upd_same, rfl, fun y hy => (nomatch hy), Ext.new hP1.is_ nD, hP1.new nD, by omega⟩
    · rintro i H' hi ⟨ys, b', hD, hyl, hy, e2, hP2, hb2⟩
      refine ⟨rfl, .ref p.a, rfl, .str abc, rfl, p, .str abc, _, b', rfl, hP2, seq_abc H', abc_ne, abc_len, by omega, fun v hv H3 b3 e3 hP3 hb3 => ?_⟩
      obtain ⟨c, hc, rfl⟩ := abc_mem hv
      have hD3 : H3 Dl = some (.lst (ys.map V.str)) := e3.at hD fun _ z => nomatch z
      refine ⟨_, hD3, ?_, ys ++ [⟨#[c]⟩], b3, ?_, by simp; omega, fun y hy2 => ?_, ?_, ?_, by omega⟩
      · rw [List.length_map, sizeLine_eq]
        omega
      · rw [upd_same, List.map_append]
        rfl
      · rcases List.mem_append.mp hy2 with z | z
        · exact hy y z
        · exact ⟨c, hc, List.mem_singleton.mp z⟩
      · exact (e2.trans e3).mut nD
      · exact hP3.mut hP1 nD
    · rintro H2 ⟨ys, b2, hD2, hyl, hy, e2, hP2, hb2⟩
      obtain ⟨jl, jm⟩ := join_ones ys hy
      refine ⟨"", Dl, ys, rfl, rfl, .inl (SqL.of hD2), ?_, ?_⟩
      · rw [ones_sum ys hy]
        show ys.length + ys.length * 0 ≤ 16777216
        omega
      generalize Txt.join "" ys = stem at jl jm ⊢
      have sl : stem.cps.toList.length ≤ 6 := by omega
      have sl2 : stem.length ≤ 6 := by
        rw [len_tl]
        exact sl
      clear hD2 hy
      -- front, found
      refine ⟨.ref p.a, rfl, p, 26, b2, rfl, hP2, by decide, by decide, by omega, fun front H3 b3 e3 hP3 hb3 f0 f1 => ?_⟩
      refine ⟨Nat.zero_le _, fun l nl => ⟨_, _, rfl, ?_⟩⟩
      have nlH : H l = none := e1.back (e2.back (e3.back nl))
      have e4 : Ext p.a H (upd H3 l (.lst [])) := (e1.trans (e2.trans e3)).trans (Ext.new hP3.is_ nl)
      have hP4 : Pen K (upd H3 l (.lst [])) p b3 := hP3.new nl
      have hl4 : (upd H3 l (.lst [])) l = some (.lst []) := upd_same
      generalize upd H3 l (.lst []) = H4 at e4 hP4 hl4 ⊢
      -- step
      refine ⟨.ref p.a, rfl, by show 12 ≤ sizeLine; rw [sizeLine_eq]; decide, fun t nt => ?_⟩
      refine ⟨p, .ref t, steps.map V.int, b3, rfl, hP4.new nt, .inl ⟨t, rfl, .inl (SqL.of upd_same)⟩, by decide, by decide, by omega, fun v hv H5 b5 e5 hP5 hb5 => ?_⟩
      obtain ⟨step, hst, rfl⟩ := List.mem_map.mp hv
      have st1 : 1 ≤ step ∧ step ≤ 25 := by
        have key : ∀ s ∈ steps, 1 ≤ s ∧ s ≤ 25 := by decide
        exact key step hst
      have e6 : Ext p.a H H5 := e4.trans ((Ext.new hP4.is_ nt).trans e5)
      have hl5 : H5 l = some (.lst []) := e5.at (show (upd H4 t _) l = some (.lst []) by rw [upd_ne (ne_of_none hl4 nt)]; exact hl4) fun _ z => nomatch z
      -- the loop
      refine ⟨.int many, rfl, many, rfl, by omega, by omega, ?_⟩
      refine for_range (lo := 0) (n := many.toNat) (fun i σ' H' => ∃ (y7 y8 y9 : Option V) (zs : List Str) (b' : Int), σ' = [some (.ref p.a), some (.int many), some (.str abc), some (.str stem), some (.int front), some (.ref l), some (.int step), y7, y8, y9] ∧
        Ext p.a H H' ∧ Pen K H' p b' ∧ b' ≤ b5 + 13 * i ∧ H' l = some (.lst (zs.map V.str)) ∧ zs.length = i ∧ ∀ (j : Nat) (z : Str), zs[j]? = some z → NameAt stem.cps.toList front step j z) ?_ ?_ ?_
      · exact ⟨none, none, none, [], b5, rfl, e6, hP5, by omega, hl5, rfl, fun j z hz => (nomatch hz)⟩
      · rintro i σ' H' hi ⟨y7, y8, y9, zs, b', rfl, eH, hPH, hbH, hlH, hzl, hz⟩
        have hi2 : (i : Int) < many := by omega
        have m0 : 0 ≤ (front + step * (0 + (i : Int))) % 26 := Int.emod_nonneg _ (by decide)
        have m1 : (front + step * (0 + (i : Int))) % 26 < 26 := Int.emod_lt_of_pos _ (by decide)
        have si : step * (0 + (i : Int)) ≤ 25 * 52 := by
          have : step * (0 + (i : Int)) ≤ 25 * (0 + (i : Int)) := Int.mul_le_mul_of_nonneg_right st1.2 (by omega)
          omega
        obtain ⟨j, hj⟩ := Int.eq_ofNat_of_zero_le m0
        have j26 : j < 26 := by omega
        -- own
        refine ⟨.str abc, rfl, .int front, rfl, .int step, rfl, _, rfl, step, _, rfl, rfl, by walk_at "sc", _, _, rfl, rfl, .inl ⟨_, rfl, _, 26, rfl, rfl, by walk_at "sc", abc, _, 97 + j, rfl, rfl, by decide +kernel, ?_, ?_⟩⟩
        · rw [hj]
          exact atI_nat (abc_at j26)
        -- tail
        refine ⟨fun v H6 => ∃ (u : Str) (b6 : Int), v = .str u ∧ Ext p.a H' H6 ∧ Pen K H6 p b6 ∧ b6 ≤ b' + 13 ∧ u.length ≤ 1 ∧ (i < 26 → u.cps.toList = []) ∧ (26 ≤ i → ∃ d, Let d ∧ u.cps.toList = [d]), ?_, ?_⟩
        · refine ⟨_, rfl, _, 26, rfl, rfl, _, rfl, ite2 (fun e => ?_) (fun e => ?_)⟩
          · have lt := of_decide_eq_true e
            exact ⟨"", b', rfl, Ext.refl hPH.is_, hPH, by omega, by decide, fun _ => rfl, fun z => absurd z (by omega)⟩
          · have ge := of_decide_eq_false (Bool.eq_false_iff.mpr e)
            refine ⟨.ref p.a, rfl, .str abc, rfl, p, .str abc, _, b', rfl, hPH, seq_abc H', abc_ne, abc_len, by omega, fun v hv H6 b6 e6 hP6 hb6 => ?_⟩
            obtain ⟨c, hc, rfl⟩ := abc_mem hv
            exact ⟨⟨#[c]⟩, b6, rfl, e6, hP6, hb6, Nat.le_refl _, fun z => absurd z (by omega), fun _ => ⟨c, hc, rfl⟩⟩
        · rintro v H6 ⟨u, b6, rfl, e7, hP6, hb6, ul, u1, u2⟩
          have hl6 : H6 l = some (.lst (zs.map V.str)) := e7.at hlH fun _ z => nomatch z
          have sz : ∀ {n : Nat}, n ≤ 1000 → n ≤ sizeLine := fun h => Nat.le_trans h (by rw [sizeLine_eq]; decide)
          have ol : (⟨#[97 + j]⟩ : Str).length = 1 := rfl
          have l1 : (stem ++ (⟨#[97 + j]⟩ : Str)).length = stem.length + 1 := by
            rw [len_tl, str_add, List.length_append, ← len_tl, ← len_tl, ol]
          have l2 : ((⟨#[97 + j]⟩ : Str) ++ stem).length = 1 + stem.length := by
            rw [len_tl, str_add, List.length_append, ← len_tl, ← len_tl, ol]
          -- found.append([stem + own, own + stem][len(stem) % 2] + tail)
          refine ⟨.ref l, rfl, .inl ⟨rfl, _, .inl (.inl hl6)⟩, .str stem, rfl, _, rfl, stem, _, rfl, rfl, sz (by rw [ol]; omega), _, rfl, .str stem, rfl, _, stem, rfl, rfl, sz (by rw [ol]; omega), by show 2 ≤ sizeLine; rw [sizeLine_eq]; decide, fun t nt => ?_⟩
          have e8 : Ext p.a H6 (upd H6 t (.lst [.str (stem ++ (⟨#[97 + j]⟩ : Str)), .str ((⟨#[97 + j]⟩ : Str) ++ stem)])) := Ext.new hP6.is_ nt
          have ht8 : (upd H6 t (.lst [.str (stem ++ (⟨#[97 + j]⟩ : Str)), .str ((⟨#[97 + j]⟩ : Str) ++ stem)])) t = some (.lst [.str (stem ++ (⟨#[97 + j]⟩ : Str)), .str ((⟨#[97 + j]⟩ : Str) ++ stem)]) := upd_same
          have hP8 := hP6.new (o := .lst [.str (stem ++ (⟨#[97 + j]⟩ : Str)), .str ((⟨#[97 + j]⟩ : Str) ++ stem)]) nt
          have hl8 := e8.at hl6 fun _ z => nomatch z
          generalize upd H6 t (.lst [.str (stem ++ (⟨#[97 + j]⟩ : Str)), .str ((⟨#[97 + j]⟩ : Str) ++ stem)]) = H8 at e8 ht8 hP8 hl8 ⊢
          refine ⟨.str stem, rfl, stem, rfl, sz (by omega), _, 2, rfl, rfl, by walk_at "sc", t, _, _, .str (if stem.cps.toList.length % 2 = 0 then stem ++ (⟨#[97 + j]⟩ : Str) else (⟨#[97 + j]⟩ : Str) ++ stem), rfl, rfl, SqL.of ht8, ?_, ?_⟩
          · have el := len_tl stem
            by_cases ev : stem.cps.toList.length % 2 = 0
            · rw [if_pos ev, show ((stem.length : Int) % 2) = ((0 : Nat) : Int) by omega]
              exact atI_nat rfl
            · rw [if_neg ev, show ((stem.length : Int) % 2) = ((1 : Nat) : Int) by omega]
              exact atI_nat rfl
          · have lb : (if stem.cps.toList.length % 2 = 0 then stem ++ (⟨#[97 + j]⟩ : Str) else (⟨#[97 + j]⟩ : Str) ++ stem).length ≤ 7 := by
              split <;> omega
            have tb : (if stem.cps.toList.length % 2 = 0 then stem ++ (⟨#[97 + j]⟩ : Str) else (⟨#[97 + j]⟩ : Str) ++ stem).cps.toList = (if stem.cps.toList.length % 2 = 0 then stem.cps.toList ++ [97 + j] else [97 + j] ++ stem.cps.toList) := by
              split <;> rw [str_add]
            generalize (if stem.cps.toList.length % 2 = 0 then stem ++ (⟨#[97 + j]⟩ : Str) else (⟨#[97 + j]⟩ : Str) ++ stem) = nb at lb tb ⊢
            refine ⟨.str u, rfl, nb, u, rfl, rfl, sz (by omega), l, _, _, rfl, rfl, hl8, ?_, ?_⟩
            · rw [List.length_map, sizeLine_eq]
              omega
            · refine ⟨_, _, _, zs ++ [nb ++ u], b6, rfl, ((eH.trans e7).trans e8).mut nlH, hP8.mut hP nlH, by omega, ?_, by rw [List.length_append, hzl]; rfl, fun k z hk => ?_⟩
              · rw [upd_same, List.map_append]
                rfl
              · by_cases hkz : k < zs.length
                · rw [List.getElem?_append_left hkz] at hk
                  exact hz k z hk
                · rw [List.getElem?_append_right (by omega)] at hk
                  have k0 : k - zs.length = 0 := by
                    cases q0 : k - zs.length with
                    | zero => rfl
                    | succ n =>
                      rw [q0] at hk
                      cases hk
                  have ki : k = i := by omega
                  rw [k0] at hk
                  have zz : nb ++ u = z := Option.some.inj hk
                  subst zz
                  subst ki
                  refine ⟨97 + j, u.cps.toList, by rw [← show (0 : Int) + (k : Int) = k by omega]; omega, by rw [str_add, tb], u1, u2⟩
      · rintro σ' H' ⟨y7, y8, y9, zs, b', rfl, eH, hPH, hbH, hlH, hzl, hz⟩
        exact ⟨.ref l, rfl, q l zs H' b' eH nlH hPH (by omega) hlH (by omega) (fun z hzm => by
          obtain ⟨j, hj⟩ := List.mem_iff_getElem?.mp hzm
          exact nameAt_ok sl jm (hz j z hj)) (names_nodup hst (by omega) hz)⟩
end
end KP

namespace KP
open PySem PySem.Spec PyProof.Rows L2
local macro_rules | `(tactic| walk_at "sc") => `(tactic| first | (show (0 : Int) < _; decide) | (show (0 : Int) < _; omega) | (refine ⟨?_, ?_, ?_, ?_⟩ <;> (first | omega | (unfold Big; omega))) | (refine ⟨?_, ?_, ?_⟩ <;> (first | omega | (unfold Big; omega))) | (refine ⟨?_, ?_⟩ <;> (first | omega | (unfold Big; omega))))
/-! ### painters -/
structure Ptr where
  name : Str
  day : Int
  post : Int
  stride : Int
structure Ptr.Ok (q : Ptr) : Prop where
  nm : NameOk q.name
  d0 : 0 ≤ q.day
  d1 : q.day ≤ 10 ^ 30
  p0 : -(10 ^ 30) ≤ q.post
  p1 : q.post ≤ 10 ^ 30
  s0 : -(10 ^ 18) ≤ q.stride
  s1 : q.stride ≤ 10 ^ 18
  sn : q.stride ≠ 0
def tupP (q : Ptr) : List V := [.str q.name, .int q.day, .int q.post, .int q.stride]
/-- the package's painter -/
def PObj (K : PySem.W.Frag) (H : Hp) (x : Addr) (q : Ptr) : Prop := ∃ dx t, H x = some (.ins (He.ga K "Painter") dx [("parts", .ref t)]) ∧ H t = some (.tup (tupP q))
theorem PObj.same {K : PySem.W.Frag} {H H' : Hp} {x : Addr} {q : Ptr} (h : PObj K H x q) (s : Same H H') : PObj K H' x q := by
  obtain ⟨dx, t, h1, h2⟩ := h
  exact ⟨dx, t, s _ _ h1, s _ _ h2⟩
theorem PObj.ext {K : PySem.W.Frag} {H H' : Hp} {p x : Addr} {q : Ptr} (h : PObj K H x q) (s : Ext p H H') : PObj K H' x q := by
  obtain ⟨dx, t, h1, h2⟩ := h
  exact ⟨dx, t, s.ins h1, s.at h2 fun _ z => nomatch z⟩
def spIsInt : Sp := fun vs H Q _ => ∃ i : Int, vs = [.int i] ∧ Q (.bl true) H
def spBetween : Sp := fun vs H Q _ => ∃ v lo hi : Int, vs = [.int v, .int lo, .int hi] ∧ Q (.bl (decide (lo ≤ v) && decide (v ≤ hi))) H
def spIsName : Sp := fun vs H Q _ => ∃ z : Str, vs = [.str z] ∧ NameOk z ∧ ∀ H', Same H H' → Q (.bl true) H'
def spPInit (K : PySem.W.Frag) : Sp := fun vs H Q _ => ∃ (x dx : Addr) (q : Ptr), vs = [.ref x, .str q.name, .int q.day, .int q.post, .int q.stride] ∧ H x = some (.ins (He.ga K "Painter") dx []) ∧ q.Ok ∧
  ∀ (t : Addr) (H' : Hp), Same H H' → H' t = some (.tup (tupP q)) → Q .non (upd H' x (.ins (He.ga K "Painter") dx [("parts", .ref t)]))
section
variable {P : Program} {w : World} {K : PySem.W.Frag} {mg : Str → Option Value} {base : Heap}
theorem k_is_integer (T : Tx K mg) : Cal P w K mg base 1 (He.ga K "is_integer") T.fd_is_integer P_is_integer spIsInt := by
  refine ⟨T.fn_is_integer.ok sc_is_integer (fun vs H Q E h => ?_) (fun cdv A outer s H vs Q E hr h => ?_), T.fn_is_integer.kp, FunD.bindsN T.fn_is_integer fun _ _ _ _ _ _ us hl => match us, hl with | [_], _ => rfl⟩
  · obtain ⟨i, rfl, _⟩ := h
    rfl
  · obtain ⟨i, rfl, q⟩ := h
    refine ⟨_, PSs.nox (pss_one (ps_ret (pe_and (pe_callB call_isi (by rfl) T.b_isinstance (by decide +kernel) (pa_cons (pv 0) (pa_cons (pe_bltn (v := .ty "int") (by rfl) T.b_int PyProof.Rows.boot_int rfl) pa_nil))) (pe_one (pe_not (pe_callB call_isi (by rfl) T.b_isinstance (by decide +kernel) (pa_cons (pv 0) (pa_cons (pe_bltn (v := .ty "bool") (by rfl) T.b_bool PyProof.Rows.boot_bool rfl) pa_nil)))))))), ?_⟩
    refine ⟨.int i, rfl, .int i, .ty "int", .type "int", .type "int", true, rfl, .ty _, .base (.int i), kit_ty (by decide +kernel), true, rfl, ?_⟩
    exact ⟨.int i, rfl, .int i, .ty "bool", .type "int", .type "bool", false, rfl, .ty _, .base (.int i), kit_ty (by decide +kernel), false, rfl, q⟩
theorem k_is_between (T : Tx K mg) : Cal P w K mg base 2 (He.ga K "is_between") T.fd_is_between P_is_between spBetween := by
  have c_is_integer := k_is_integer (P := P) (w := w) (base := base) T
  refine ⟨T.fn_is_between.ok sc_is_between (fun vs H Q E h => ?_) (fun cdv A outer s H vs Q E hr h => ?_), T.fn_is_between.kp, FunD.bindsN T.fn_is_between fun _ _ _ _ _ _ us hl => match us, hl with | [_, _, _], _ => rfl⟩
  · obtain ⟨v, lo, hi, rfl, _⟩ := h
    rfl
  · obtain ⟨v, lo, hi, rfl, q⟩ := h
    refine ⟨_, PSs.nox (pss_one (ps_ret (pe_and (pe_call c_is_integer.F (hr.mono (by decide)) (by rfl) T.g_is_integer c_is_integer.kp c_is_integer.b .nil pass0 (pa_cons (pv 0) pa_nil)) (pe_one (pe_chain op_le op_le (pv 1) (pv 0) (pv 2)))))), ?_⟩
    refine ⟨.int v, rfl, v, rfl, true, rfl, ?_⟩
    refine ⟨.int lo, rfl, .int v, rfl, lo, v, rfl, rfl, _, rfl, ite2 (fun e => ?_) (fun e => ?_)⟩
    · rw [e, Bool.true_and] at q
      exact ⟨.int hi, rfl, v, hi, rfl, rfl, q⟩
    · rw [Bool.eq_false_iff.mpr e, Bool.false_and] at q
      exact q
theorem k_is_name (T : Tx K mg) : Cal P w K mg base 1 (He.ga K "is_name") T.fd_is_name P_is_name spIsName := by
  refine ⟨T.fn_is_name.ok sc_is_name (fun vs H Q E h => ?_) (fun cdv A outer s H vs Q E hr h => ?_), T.fn_is_name.kp, FunD.bindsN T.fn_is_name fun _ _ _ _ _ _ us hl => match us, hl with | [_], _ => rfl⟩
  · obtain ⟨z, rfl, _⟩ := h
    rfl
  · obtain ⟨z, rfl, ⟨n1, n2, n3⟩, q⟩ := h
    refine ⟨_, PSs.nox (Evl.pss_cut (ps_if (PW.pt (pw_or (pt_not (pt_val (pe_callB call_isi (by rfl) T.b_isinstance (by decide +kernel) (pa_cons (pv 0) (pa_cons (pe_bltn (v := .ty "str") (by rfl) T.b_str PyProof.Rows.boot_str rfl) pa_nil))))) (pw_or1 (pt_not (pt_chain op_le op_le pe_int (pe_callB call_len_str (by rfl) T.b_len PySem.boot_len (pa_cons (pv 0) pa_nil)) (pglobI (by rfl) T.g_MAX_NAME)))))) (pss_one (ps_ret pe_bl)) pss_nil)
      (pss_one (ps_ret (pe_callB (cr_all rfl) (by rfl) T.b_all (by decide +kernel) (pa_cons (pe_lc (own := [("letter", 1)]) (by rfl) sc_is_name.nd (pi_str (pv 0)) (blkOk_by (own := [("letter", 1)]) (N := N_is_name) (sc := defScope s_is_name) (by decide +kernel)) (fun _ _ _ _ _ => pg_name (i := 1) sc_is_name.nd rfl (Or.inl rfl)) (fun _ _ _ _ _ => pts_nil) (fun _ _ _ _ _ => (pe_cmpR op_in_sign (pv 1) (pglobS (by rfl) T.g_LETTERS) (by rfl)))) pa_nil))))), ?_⟩
    refine ⟨fun σ' H' => σ' = [some (.str z), none] ∧ H' = H, ?_, ?_⟩
    · refine ⟨.str z, rfl, .str z, .ty "str", .type "str", .type "str", true, rfl, .ty _, .base (.str z), kit_ty (by decide +kernel), true, rfl, ?_⟩
      refine ⟨.str z, rfl, z, rfl, Nat.le_trans n2 (by rw [sizeLine_eq]; decide), 1, _, rfl, rfl, _, rfl, ?_⟩
      rw [decide_eq_true (show (1 : Int) ≤ (z.length : Int) by omega)]
      refine ⟨_, 8, rfl, rfl, _, rfl, ?_⟩
      rw [decide_eq_true (show (z.length : Int) ≤ 8 by omega)]
      exact ⟨rfl, rfl⟩
    · rintro σ' H' ⟨rfl, rfl⟩
      refine ⟨.str z, rfl, z, rfl, fun Dl nD => ?_⟩
      refine lc_by (J := Its z) (n := z.cps.size) (fun i H2 => H2 = upd H' Dl (.lst ((List.replicate i true).map V.bl))) rfl (fun i H2 hi _ => hi) (fun H2 _ => Nat.le_refl _) ?_ ?_
      · rintro i H2 x H3 hi rfl ⟨rfl, c, hc, rfl⟩
        have hcm : c ∈ z.cps.toList := by
          rw [← Array.getElem?_toList] at hc
          exact List.mem_of_getElem? hc
        have ca := n3 c hcm
        have cin : c ∈ abc.cps.toList := by
          rw [abc_tl]
          unfold abcL
          exact List.mem_map.mpr ⟨c - 97, List.mem_range.mpr (by omega), by omega⟩
        refine ⟨rfl, _, rfl, c, abc, rfl, rfl, _, upd_same, ?_, ?_⟩
        · rw [List.length_map, List.length_replicate, sizeLine_eq]
          have : z.cps.size ≤ 8 := n2
          omega
        · rw [upd_upd, decide_eq_true cin, List.replicate_succ', List.map_append]
          rfl
      · rintro H2 rfl
        refine ⟨Dl, List.replicate z.cps.size true, rfl, SqL.of upd_same, ?_⟩
        have e : (List.replicate z.cps.size true).all id = true := by
          rw [List.all_eq_true]
          exact fun b hb => List.eq_of_mem_replicate hb
        rw [e]
        exact q _ (Same.new nD)
theorem k_Painter_init (T : Tx K mg) : Cal P w K mg base 3 (He.ma K (He.ga K "Painter") "__init__") T.fd_Painter_init P_Painter_init (spPInit K) := by
  have c_is_name := k_is_name (P := P) (w := w) (base := base) T
  have c_is_between := k_is_between (P := P) (w := w) (base := base) T
  refine ⟨T.fn_Painter_init.ok sc_Painter_init (fun vs H Q E h => ?_) (fun cdv A outer s H vs Q E hr h => ?_), T.fn_Painter_init.kp, FunD.bindsN T.fn_Painter_init fun _ _ _ _ _ _ us hl => match us, hl with | [_, _, _, _, _], _ => rfl⟩
  · obtain ⟨x, dx, q, rfl, _⟩ := h
    rfl
  · obtain ⟨x, dx, q, rfl, hx, ok, k⟩ := h
    refine ⟨_, PSs.nox (pss_cons (ps_if (pt_not (pt_val (pe_call c_is_name.F (hr.mono (by decide)) (by rfl) T.g_is_name_names c_is_name.kp c_is_name.b .nil pass0 (pa_cons (pv 1) pa_nil)))) (pss_one ps_never) pss_nil)
      (pss_cons (ps_if (pt_not (pt_val (pe_call c_is_between.F (hr.mono (by decide)) (by rfl) T.g_is_between c_is_between.kp c_is_between.b .nil pass0 (pa_cons (pv 2) (pa_cons pe_int (pa_cons (pe_con (pv 0) rfl) pa_nil)))))) (pss_one ps_never) pss_nil)
      (pss_cons (ps_if (pt_not (pt_val (pe_call c_is_between.F (hr.mono (by decide)) (by rfl) T.g_is_between c_is_between.kp c_is_between.b .nil pass0 (pa_cons (pv 3) (pa_cons (pe_un un_neg (pe_con (pv 0) rfl)) (pa_cons (pe_con (pv 0) rfl) pa_nil)))))) (pss_one ps_never) pss_nil)
      (Evl.pss_cut (ps_if (PW.pt (pw_or (pt_not (pt_val (pe_call c_is_between.F (hr.mono (by decide)) (by rfl) T.g_is_between c_is_between.kp c_is_between.b .nil pass0 (pa_cons (pv 4) (pa_cons (pe_un un_neg (pe_con (pv 0) rfl)) (pa_cons (pe_con (pv 0) rfl) pa_nil)))))) (pw_or1 (pt_cmpR op_eq (pv 4) pe_int (nomark _))))) (pss_one ps_never) pss_nil)
      (pss_one (ps_fld (pv 0) (pe_tup (pa_cons (pv 1) (pa_cons (pv 2) (pa_cons (pv 3) (pa_cons (pv 4) pa_nil))))) rfl)))))), ?_⟩
    obtain ⟨u1, o1⟩ := T.o_Painter_MAX_DAY
    obtain ⟨u2, o2⟩ := T.o_Painter_MAX_POST
    obtain ⟨u3, o3⟩ := T.o_Painter_MAX_STRIDE
    have d0 := ok.d0
    have d1 := ok.d1
    have p0 := ok.p0
    have p1 := ok.p1
    have s0 := ok.s0
    have s1 := ok.s1
    refine ⟨_, rfl, q.name, rfl, ok.nm, fun H1 sm1 => ⟨true, rfl, ?_⟩⟩
    have hx1 := sm1 _ _ hx
    refine ⟨_, rfl, .ref x, rfl, x, _, dx, [], _, u1, rfl, hx1, T.c_Painter, o1, rfl, q.day, 0, _, rfl, _, rfl, ?_⟩
    rw [decide_eq_true d0, decide_eq_true (show q.day ≤ 1000000000000000000000000000000 by omega)]
    refine ⟨_, rfl, .ref x, rfl, x, _, dx, [], _, u2, rfl, hx1, T.c_Painter, o2, rfl, _, rfl, .ref x, rfl, x, _, dx, [], _, u2, rfl, hx1, T.c_Painter, o2, rfl, q.post, _, _, rfl, _, rfl, ?_⟩
    rw [decide_eq_true (show -1000000000000000000000000000000 ≤ q.post by omega), decide_eq_true (show q.post ≤ 1000000000000000000000000000000 by omega)]
    refine ⟨fun σ' H' => σ' = [some (.ref x), some (.str q.name), some (.int q.day), some (.int q.post), some (.int q.stride)] ∧ H' = H1, ?_, ?_⟩
    · refine ⟨_, rfl, .ref x, rfl, x, _, dx, [], _, u3, rfl, hx1, T.c_Painter, o3, rfl, _, rfl, .ref x, rfl, x, _, dx, [], _, u3, rfl, hx1, T.c_Painter, o3, rfl, q.stride, _, _, rfl, _, rfl, ?_⟩
      rw [decide_eq_true (show -1000000000000000000 ≤ q.stride by omega), decide_eq_true (show q.stride ≤ 1000000000000000000 by omega)]
      refine ⟨_, rfl, rfl, _, rfl, ite2 (fun e => ?_) (fun e => ⟨rfl, rfl⟩)⟩
      exact absurd (V.int.inj (of_decide_eq_true e)) ok.sn
    · rintro σ' H' ⟨rfl, rfl⟩
      refine ⟨_, rfl, _, rfl, _, rfl, _, rfl, by show 4 ≤ sizeLine; rw [sizeLine_eq]; decide, fun t nt => ?_⟩
      refine ⟨.ref x, rfl, x, _, dx, [], rfl, Same.new nt _ _ hx1, T.c_Painter, T.n_Painter_parts, by decide, ?_⟩
      exact k t _ (sm1.trans (Same.new nt)) upd_same
end
end KP

namespace KP
open PySem PySem.Spec PyProof.Rows L2
local macro_rules | `(tactic| walk_at "sc") => `(tactic| first | (show (0 : Int) < _; decide) | (show (0 : Int) < _; omega) | (refine ⟨?_, ?_, ?_, ?_⟩ <;> (first | omega | (unfold Big; omega))) | (refine ⟨?_, ?_, ?_⟩ <;> (first | omega | (unfold Big; omega))) | (refine ⟨?_, ?_⟩ <;> (first | omega | (unfold Big; omega))))
/-! ### great numbers -/
def spPower : Sp := fun vs H Q _ => ∃ n : Nat, vs = [.int n] ∧ n ≤ 90 ∧ Q (.int (10 ^ n)) H
def spGreat (K : PySem.W.Frag) : Sp := fun vs H Q _ => ∃ (p : Pid) (n : Nat) (b : Int), vs = [.ref p.a, .int n] ∧ Pen K H p b ∧ 1 ≤ n ∧ n ≤ 90 ∧ b < 10 ^ 10 ∧
  ∀ (r : Int) (H' : Hp) (b' : Int), Ext p.a H H' → Pen K H' p b' → b' ≤ b + 100 → 0 ≤ r → r < 10 ^ n → Q (.int r) H'
theorem pow_le {n m : Nat} (h : n ≤ m) : (10 : Int) ^ n ≤ 10 ^ m := by
  have := Nat.pow_le_pow_right (show 0 < 10 by decide) h
  have e : ∀ k : Nat, (10 : Int) ^ k = ((10 ^ k : Nat) : Int) := fun k => by simp
  rw [e, e]
  omega
theorem pow_pos10 (n : Nat) : (1 : Int) ≤ 10 ^ n := by
  have := pow_le (Nat.zero_le n)
  simpa using this
section
variable {P : Program} {w : World} {K : PySem.W.Frag} {mg : Str → Option Value} {base : Heap}
theorem k_power (T : Tx K mg) : Cal P w K mg base 1 (He.ga K "_law_power") T.fd_power P_power spPower := by
  refine ⟨T.fn_power.ok sc_power (fun vs H Q E h => ?_) (fun cdv A outer s H vs Q E hr h => ?_), T.fn_power.kp, FunD.bindsN T.fn_power fun _ _ _ _ _ _ us hl => match us, hl with | [_], _ => rfl⟩
  · obtain ⟨n, rfl, _⟩ := h
    rfl
  · obtain ⟨n, rfl, hn, k⟩ := h
    refine ⟨_, PSs.nox (pss_cons (ps_set (i := 1) sc_power.nd rfl (Or.inl rfl) pe_int)
      (pss_cons (ps_for PassesOwn.never rfl (pi_range1 (by rfl) T.b_range (pa_cons (pv 0) pa_nil)) (pg_name (i := 2) sc_power.nd rfl (Or.inl rfl))
      (pss_one (ps_set (i := 1) sc_power.nd rfl (Or.inl rfl) (pe_op op_mulB (pv 1) pe_int))))
      (pss_one (ps_ret (pv 1))))), ?_⟩
    refine ⟨.int n, rfl, n, rfl, by omega, by omega, ?_⟩
    refine for_range (lo := 0) (n := n) (fun i σ' H' => ∃ y2 : Option V, σ' = [some (.int n), some (.int (10 ^ i)), y2] ∧ H' = H) ?_ ?_ ?_
    · exact ⟨none, rfl, rfl⟩
    · rintro i σ' H' hi ⟨y2, rfl, rfl⟩
      have h1 := pow_le (show i ≤ 90 by omega)
      have h2 := pow_pos10 i
      refine ⟨_, rfl, 10 ^ i, 10, rfl, rfl, by walk_at "sc", some (.int (0 + (i : Int))), ?_, rfl⟩
      rw [Int.pow_succ]
      rfl
    · rintro σ' H' ⟨y2, rfl, rfl⟩
      exact ⟨_, rfl, k⟩
theorem k_great (T : Tx K mg) : Cal P w K mg base 15 (He.ga K "_law_great") T.fd_great P_great (spGreat K) := by
  have c_draw := k_draw (P := P) (w := w) (base := base) T
  have c_pick := k_pick (P := P) (w := w) (base := base) T
  have c_power := k_power (P := P) (w := w) (base := base) T
  refine ⟨T.fn_great.ok sc_great (fun vs H Q E h => ?_) (fun cdv A outer s H vs Q E hr h => ?_), T.fn_great.kp, FunD.bindsN T.fn_great fun _ _ _ _ _ _ us hl => match us, hl with | [_, _], _ => rfl⟩
  · obtain ⟨p, n, b, rfl, _⟩ := h
    rfl
  · obtain ⟨p, n, b, rfl, hP, n1, n2, hb, k⟩ := h
    refine ⟨_, PSs.nox (pss_cons (ps_set (i := 2) sc_great.nd rfl (Or.inl rfl) (pe_call c_power.F (hr.mono (by decide)) (by rfl) T.g_power c_power.kp c_power.b .nil pass0 (pa_cons (pv 1) pa_nil)))
      (pss_cons (ps_set (i := 3) sc_great.nd rfl (Or.inl rfl) (pe_lst (pa_cons (pe_call c_draw.F (hr.mono (by decide)) (by rfl) T.g_draw c_draw.kp c_draw.b .nil pass0 (pa_cons (pv 0) (pa_cons pe_int pa_nil))) (pa_cons (pe_call c_draw.F (hr.mono (by decide)) (by rfl) T.g_draw c_draw.kp c_draw.b .nil pass0 (pa_cons (pv 0) (pa_cons (pv 2) pa_nil))) (pa_cons (pe_call c_draw.F (hr.mono (by decide)) (by rfl) T.g_draw c_draw.kp c_draw.b .nil pass0 (pa_cons (pv 0) (pa_cons (pv 2) pa_nil))) pa_nil)))))
      (pss_one (ps_ret (pe_call c_pick.F (hr.mono (by decide)) (by rfl) T.g_pick c_pick.kp c_pick.b .nil pass0 (pa_cons (pv 0) (pa_cons (pe_op op_cat (pv 3) (pe_lst (pa_cons (pe_op op_add (pe_op op_fdivB (pv 2) pe_int) (pe_call c_draw.F (hr.mono (by decide)) (by rfl) T.g_draw c_draw.kp c_draw.b .nil pass0 (pa_cons (pv 0) (pa_cons pe_int pa_nil)))) (pa_cons (pe_op op_sub (pe_op op_sub (pv 2) pe_int) (pe_call c_draw.F (hr.mono (by decide)) (by rfl) T.g_draw c_draw.kp c_draw.b .nil pass0 (pa_cons (pv 0) (pa_cons pe_int pa_nil)))) pa_nil)))) pa_nil))))))), ?_⟩
    refine ⟨.int n, rfl, n, rfl, n2, ?_⟩
    have m1 := pow_le n1
    have m2 := pow_le n2
    generalize (10 : Int) ^ n = most at m1 m2 k ⊢
    have m1' : 10 ≤ most := m1
    refine ⟨.ref p.a, rfl, p, 10, b, rfl, hP, by decide, by decide, by omega, fun r1 H1 b1 e1 hP1 hb1 r10 r11 => ?_⟩
    refine ⟨.ref p.a, rfl, .int most, rfl, p, most, b1, rfl, hP1, by omega, by omega, by omega, fun r2 H2 b2 e2 hP2 hb2 r20 r21 => ?_⟩
    refine ⟨.ref p.a, rfl, .int most, rfl, p, most, b2, rfl, hP2, by omega, by omega, by omega, fun r3 H3 b3 e3 hP3 hb3 r30 r31 => ?_⟩
    refine ⟨Nat.le_trans (show 3 ≤ 1000 by decide) (by rw [sizeLine_eq]; decide), fun l nl => ?_⟩
    have e4 : Ext p.a H3 (upd H3 l (.lst [.int r1, .int r2, .int r3])) := Ext.new hP3.is_ nl
    have hP4 := hP3.new (o := .lst [.int r1, .int r2, .int r3]) nl
    have hl : (upd H3 l (.lst [.int r1, .int r2, .int r3])) l = some (.lst [.int r1, .int r2, .int r3]) := upd_same
    generalize upd H3 l (.lst [.int r1, .int r2, .int r3]) = H4 at e4 hP4 hl ⊢
    refine ⟨.ref p.a, rfl, .ref l, rfl, .int most, rfl, most, 10, rfl, rfl, by walk_at "sc", .ref p.a, rfl, p, 7, b3, rfl, hP4, by decide, by decide, by omega, fun r4 H5 b5 e5 hP5 hb5 r40 r41 => ?_⟩
    refine ⟨_, _, rfl, rfl, .int most, rfl, most, 1, rfl, rfl, .ref p.a, rfl, p, 7, b5, rfl, hP5, by decide, by decide, by omega, fun r5 H6 b6 e6 hP6 hb6 r50 r51 => ?_⟩
    refine ⟨_, _, rfl, rfl, Nat.le_trans (show 2 ≤ 1000 by decide) (by rw [sizeLine_eq]; decide), fun u nu => ?_⟩
    have hl6 := (e5.trans e6).at hl fun _ z => nomatch z
    have e7 : Ext p.a H6 (upd H6 u (.lst [.int (most / 10 + r4), .int (most - 1 - r5)])) := Ext.new hP6.is_ nu
    have hP7 := hP6.new (o := .lst [.int (most / 10 + r4), .int (most - 1 - r5)]) nu
    have hu : (upd H6 u (.lst [.int (most / 10 + r4), .int (most - 1 - r5)])) u = some (.lst [.int (most / 10 + r4), .int (most - 1 - r5)]) := upd_same
    have hl7 := e7.at hl6 fun _ z => nomatch z
    generalize upd H6 u (.lst [.int (most / 10 + r4), .int (most - 1 - r5)]) = H7 at e7 hP7 hu hl7 ⊢
    refine ⟨l, u, _, _, rfl, rfl, hl7, hu, Nat.le_trans (show 5 ≤ 1000 by decide) (by rw [sizeLine_eq]; decide), fun v nv => ?_⟩
    refine ⟨p, .ref v, [.int r1, .int r2, .int r3, .int (most / 10 + r4), .int (most - 1 - r5)], b6, rfl, hP7.new nv, .inl ⟨v, rfl, .inl (SqL.of upd_same)⟩, (fun z => nomatch z), (show 5 ≤ 1000 by decide), by omega, fun x hx H8 b8 e8 hP8 hb8 => ?_⟩
    have e08 : Ext p.a H H8 := (e1.trans (e2.trans e3)).trans ((e4.trans (e5.trans e6)).trans (e7.trans ((Ext.new hP7.is_ nv).trans e8)))
    have fin : ∀ r : Int, 0 ≤ r → r < most → Q (.int r) H8 := fun r h1 h2 => k r H8 b8 e08 hP8 (by omega) h1 h2
    rcases List.mem_cons.mp hx with rfl | hx
    · exact fin _ r10 (by omega)
    rcases List.mem_cons.mp hx with rfl | hx
    · exact fin _ r20 r21
    rcases List.mem_cons.mp hx with rfl | hx
    · exact fin _ r30 r31
    rcases List.mem_cons.mp hx with rfl | hx
    · exact fin _ (by omega) (by omega)
    rw [List.mem_singleton.mp hx]
    exact fin _ (by omega) (by omega)
end
end KP

namespace KP
open PySem PySem.Spec PyProof.Rows L2
local macro_rules | `(tactic| walk_at "sc") => `(tactic| first | (show (0 : Int) < _; decide) | (show (0 : Int) < _; omega) | (refine ⟨?_, ?_, ?_, ?_⟩ <;> (first | omega | (unfold Big; omega))) | (refine ⟨?_, ?_, ?_⟩ <;> (first | omega | (unfold Big; omega))) | (refine ⟨?_, ?_⟩ <;> (first | omega | (unfold Big; omega))))
/-! ### painters made, two painters close together -/
def spMade (K : PySem.W.Frag) : Sp := fun vs H Q _ => ∃ (a : Addr) (q : Ptr), vs = [.ref a] ∧ H a = some (.tup (tupP q)) ∧ q.Ok ∧ ∀ (x : Addr) (H' : Hp), Same H H' → H x = none → PObj K H' x q → Q (.ref x) H'
structure Ptr.Sm (q : Ptr) : Prop where
  nm : NameOk q.name
  d0 : 0 ≤ q.day
  d1 : q.day ≤ 7
  p0 : -9 ≤ q.post
  p1 : q.post ≤ 9
  s0 : -9 ≤ q.stride
  s1 : q.stride ≤ 9
  sn : q.stride ≠ 0
theorem Ptr.Sm.ok {q : Ptr} (h : q.Sm) : q.Ok := ⟨h.nm, h.d0, by have := h.d1; omega, by have := h.p0; omega, by have := h.p1; omega, by have := h.s0; omega, by have := h.s1; omega, h.sn⟩
/-- tuples of painters -/
def PTup (H : Hp) (G : Ptr → Prop) (v : V) (q : Ptr) : Prop := ∃ a, v = .ref a ∧ H a = some (.tup (tupP q)) ∧ G q
abbrev PList (H : Hp) (G : Ptr → Prop) : List V → List Ptr → Prop := Paired (PTup H G)
theorem PList.mono {H H' : Hp} {G : Ptr → Prop} (h : ∀ a q, H a = some (.tup (tupP q)) → H' a = some (.tup (tupP q))) : ∀ {vs : List V} {qs : List Ptr}, PList H G vs qs → PList H' G vs qs
  | _, _, .nil => .nil
  | _, _, .cons ⟨a, e, ha, g⟩ r => .cons ⟨a, e, h _ _ ha, g⟩ (PList.mono h r)
theorem PList.ext {H H' : Hp} {G : Ptr → Prop} {p : Addr} {vs : List V} {qs : List Ptr} (e : Ext p H H') (h : PList H G vs qs) : PList H' G vs qs := h.mono fun a q ha => e.at ha fun _ z => nomatch z
theorem PList.snoc {H : Hp} {G : Ptr → Prop} {v : V} {q : Ptr} (h2 : PTup H G v q) : ∀ {vs : List V} {qs : List Ptr}, PList H G vs qs → PList H G (vs ++ [v]) (qs ++ [q])
  | _, _, .nil => .cons h2 .nil
  | _, _, .cons x r => .cons x (PList.snoc h2 r)
theorem PList.get {H : Hp} {G : Ptr → Prop} {v : V} : ∀ {vs : List V} {qs : List Ptr} {i : Nat}, PList H G vs qs → vs[i]? = some v → ∃ q, qs[i]? = some q ∧ PTup H G v q
  | _, _, _, .nil, h => by simp at h
  | _, _, 0, .cons x r, h => by
    simp at h
    subst h
    exact ⟨_, rfl, x⟩
  | _, _, i + 1, .cons x r, h => by
    obtain ⟨q, h1, h2⟩ := PList.get (i := i) r (by simpa using h)
    exact ⟨q, by simpa using h1, h2⟩
theorem PList.mem {H : Hp} {G : Ptr → Prop} {v : V} {vs : List V} {qs : List Ptr} (h : PList H G vs qs) (hv : v ∈ vs) : ∃ q, q ∈ qs ∧ PTup H G v q := by
  obtain ⟨i, hi⟩ := List.mem_iff_getElem?.mp hv
  obtain ⟨q, h1, h2⟩ := h.get hi
  exact ⟨q, List.mem_of_getElem? h1, h2⟩
/-- a store into a list leaves the tuples -/
theorem PList.mut {H : Hp} {G : Ptr → Prop} {l : Addr} {xs : List V} {o : HO} {vs : List V} {qs : List Ptr} (h : PList H G vs qs) (hl : H l = some (.lst xs)) : PList (upd H l o) G vs qs := h.mono fun a q ha => by
  rw [upd_ne (ne_of ha hl fun z => nomatch z)]
  exact ha
def spDuo (K : PySem.W.Frag) : Sp := fun vs H Q _ => ∃ (p : Pid) (b : Int), vs = [.ref p.a] ∧ Pen K H p b ∧ b < 10 ^ 9 ∧
  ∀ (l t1 t2 : Addr) (q1 q2 : Ptr) (H' : Hp) (b' : Int), Ext p.a H H' → Pen K H' p b' → b' ≤ b + 2000 → H' l = some (.lst [.ref t1, .ref t2]) → H' t1 = some (.tup (tupP q1)) → H' t2 = some (.tup (tupP q2)) → q1.Sm → q2.Sm → Q (.ref l) H'
section
variable {P : Program} {w : World} {K : PySem.W.Frag} {mg : Str → Option Value} {base : Heap}
theorem sz_of {n : Nat} (h : n ≤ 1000) : n ≤ sizeLine := Nat.le_trans h (by rw [sizeLine_eq]; decide)
/-- a new painter: what its making leaves -/
theorem make_painter {H : Hp} {x dx : Addr} {q : Ptr} {Q : VK} (nx : H x = none) (ndx : H dx = none) (ne : dx ≠ x) (ok : q.Ok) (k : ∀ (x : Addr) (H' : Hp), Same H H' → H x = none → PObj K H' x q → Q (.ref x) H') :
    spPInit K [.ref x, .str q.name, .int q.day, .int q.post, .int q.stride] (upd (upd H dx (.own x)) x (.ins (He.ga K "Painter") dx [])) (fun v H2 => v = .non ∧ Q (.ref x) H2) E0 := by
  refine ⟨x, dx, q, rfl, upd_same, ok, fun t H' sm ht => ⟨rfl, k x _ ?_ nx ⟨dx, t, upd_same, ?_⟩⟩⟩
  · have s1 : Same H (upd H dx (.own x)) := Same.new ndx
    exact Same.mut ((Same.mut s1 nx).trans sm) nx
  · have hx := sm x _ upd_same
    rw [upd_ne (ne_of ht hx fun z => nomatch z)]
    exact ht
theorem k_made (T : Tx K mg) : Cal P w K mg base 5 (He.ga K "_law_made") T.fd_made P_made (spMade K) := by
  have c_Painter_init := k_Painter_init (P := P) (w := w) (base := base) T
  refine ⟨T.fn_made.ok sc_made (fun vs H Q E h => ?_) (fun cdv A outer s H vs Q E hr h => ?_), T.fn_made.kp, FunD.bindsN T.fn_made fun _ _ _ _ _ _ us hl => match us, hl with | [_], _ => rfl⟩
  · obtain ⟨a, q, rfl, _⟩ := h
    rfl
  · obtain ⟨a, q, rfl, ha, ok, k⟩ := h
    refine ⟨_, PSs.nox (pss_cons (ps_asg (pv 0) (pg_tup rfl (pgs_cons (pg_name (i := 1) sc_made.nd rfl (Or.inl rfl)) (pgs_cons (pg_name (i := 2) sc_made.nd rfl (Or.inl rfl)) (pgs_cons (pg_name (i := 3) sc_made.nd rfl (Or.inl rfl)) (pgs_cons (pg_name (i := 4) sc_made.nd rfl (Or.inl rfl)) pgs_nil))))))
      (pss_one (ps_ret (pe_make T.k_Painter c_Painter_init.F (hr.mono (by decide)) (by rfl) T.g_Painter c_Painter_init.b .nil pass0 (pa_cons (pv 1) (pa_cons (pv 2) (pa_cons (pv 3) (pa_cons (pv 4) pa_nil)))))))), ?_⟩
    refine ⟨.ref a, rfl, a, tupP q, rfl, SqT.of ha, rfl, _, _, rfl, _, _, rfl, _, _, rfl, _, _, rfl, rfl, ?_⟩
    exact ⟨_, rfl, _, rfl, _, rfl, _, rfl, fun x dx nx ndx ne => make_painter nx ndx ne ok k⟩
theorem k_duo (T : Tx K mg) : Cal P w K mg base 16 (He.ga K "_law_duo") T.fd_duo P_duo (spDuo K) := by
  have c_draw := k_draw (P := P) (w := w) (base := base) T
  have c_pick := k_pick (P := P) (w := w) (base := base) T
  have c_around := k_around (P := P) (w := w) (base := base) T
  have c_names := k_names (P := P) (w := w) (base := base) T
  refine ⟨T.fn_duo.ok sc_duo (fun vs H Q E h => ?_) (fun cdv A outer s H vs Q E hr h => ?_), T.fn_duo.kp, FunD.bindsN T.fn_duo fun _ _ _ _ _ _ us hl => match us, hl with | [_], _ => rfl⟩
  · obtain ⟨p, b, rfl, _⟩ := h
    rfl
  · obtain ⟨p, b, rfl, hP, hb, k⟩ := h
    refine ⟨_, PSs.nox (pss_cons (ps_par (by rfl) sc_duo.nd (i := 1) (j := 2) rfl rfl (by decide) rfl rfl (pa_cons (pe_call c_names.F (hr.mono (by decide)) (by rfl) T.g_names c_names.kp c_names.b .nil pass0 (pa_cons (pv 0) (pa_cons pe_int pa_nil))) (pa_cons (pe_lst pa_nil) pa_nil)) (by rfl))
      (pss_cons (ps_for PassesOwn.never rfl (pi_range1 (by rfl) T.b_range (pa_cons pe_int pa_nil)) (pg_name (i := 3) sc_duo.nd rfl (Or.inl rfl))
      (pss_cons (ps_set (i := 4) sc_duo.nd rfl (Or.inl rfl) (pe_op op_mulB (pe_op op_add pe_int (pe_call c_pick.F (hr.mono (by decide)) (by rfl) T.g_pick c_pick.kp c_pick.b .nil pass0 (pa_cons (pv 0) (pa_cons (pe_lst (pa_cons (pe_call c_draw.F (hr.mono (by decide)) (by rfl) T.g_draw c_draw.kp c_draw.b .nil pass0 (pa_cons (pv 0) (pa_cons pe_int pa_nil))) (pa_cons (pe_call c_draw.F (hr.mono (by decide)) (by rfl) T.g_draw c_draw.kp c_draw.b .nil pass0 (pa_cons (pv 0) (pa_cons pe_int pa_nil))) pa_nil))) pa_nil)))) (pe_call c_pick.F (hr.mono (by decide)) (by rfl) T.g_pick c_pick.kp c_pick.b .nil pass0 (pa_cons (pv 0) (pa_cons (pe_lst (pa_cons pe_int (pa_cons (pe_un un_neg pe_int) pa_nil))) pa_nil)))))
      (pss_one (ps_expr (pe_bm PySem.F.plainAttrs_list PySem.F.slot_list_append PySem.F.type_list_append mt_append (pv 2) (pa_cons (pe_tup (pa_cons (pe_ix ix_list (pv 1) (pv 3) (fun _ _ => rfl)) (pa_cons (pe_call c_draw.F (hr.mono (by decide)) (by rfl) T.g_draw c_draw.kp c_draw.b .nil pass0 (pa_cons (pv 0) (pa_cons pe_int pa_nil))) (pa_cons (pe_call c_around.F (hr.mono (by decide)) (by rfl) T.g_around c_around.kp c_around.b .nil pass0 (pa_cons (pv 0) (pa_cons pe_int pa_nil))) (pa_cons (pv 4) pa_nil))))) pa_nil))))))
      (Evl.pss_cut (ps_if (pt_cmpR op_eq (pe_call c_draw.F (hr.mono (by decide)) (by rfl) T.g_draw c_draw.kp c_draw.b .nil pass0 (pa_cons (pv 0) (pa_cons pe_int pa_nil))) pe_int (nomark _)) (pss_one (ps_asg (pe_op op_catT (pe_tup (pa_cons (pe_ix ix_list (pv 1) pe_int (fun _ _ => rfl)) (pa_cons (pe_call c_pick.F (hr.mono (by decide)) (by rfl) T.g_pick c_pick.kp c_pick.b .nil pass0 (pa_cons (pv 0) (pa_cons (pe_lst (pa_cons (pe_ix ix_tup (pe_ix ix_list (pv 2) pe_int (fun _ _ => rfl)) pe_int (fun _ _ => rfl)) (pa_cons (pe_ix ix_tup (pe_ix ix_list (pv 2) pe_int (fun _ _ => rfl)) pe_int (fun _ _ => rfl)) pa_nil))) pa_nil))) pa_nil))) (pe_slice sl_tup (pe_ix ix_list (pv 2) pe_int (fun _ _ => rfl)) (po_some pe_int) po_none)) (pg_sub (pv 2) pe_int set_list))) pss_nil)
      (pss_one (ps_ret (pv 2)))))), ?_⟩
    refine ⟨.ref p.a, rfl, p, 2, b, rfl, hP, by decide, by decide, by omega, fun ln zs H1 b1 e1 nln hP1 hb1 hln hzl hz _ => ?_⟩
    refine ⟨Nat.zero_le _, fun l nl => ⟨_, _, rfl, ?_⟩⟩
    have nlH : H l = none := e1.back nl
    have e2 : Ext p.a H1 (upd H1 l (.lst [])) := Ext.new hP1.is_ nl
    have hP2 := hP1.new (o := .lst []) nl
    have hl2 : (upd H1 l (.lst [])) l = some (.lst []) := upd_same
    have hln2 := e2.at hln fun _ z => nomatch z
    have nll : ln ≠ l := ne_of_none hln nl
    generalize upd H1 l (.lst []) = H2 at e2 hP2 hl2 hln2 ⊢
    refine ⟨2, rfl, by decide, by decide, ?_⟩
    refine for_range (lo := 0) (n := 2) (fun i σ' H' => ∃ (y3 y4 : Option V) (vs : List V) (qs : List Ptr) (b' : Int), σ' = [some (.ref p.a), some (.ref ln), some (.ref l), y3, y4] ∧
      Ext p.a H H' ∧ Pen K H' p b' ∧ b' ≤ b1 + 100 * i ∧ H' l = some (.lst vs) ∧ vs.length = i ∧ PList H' Ptr.Sm vs qs ∧ H' ln = some (.lst (zs.map V.str))) ?_ ?_ ?_
    · exact ⟨none, none, [], [], b1, rfl, e1.trans e2, hP2, by omega, hl2, rfl, .nil, hln2⟩
    · rintro i σ' H' hi ⟨y3, y4, vs, qs, b', rfl, eH, hPH, hbH, hlH, hvl, hpl, hlnH⟩
      have hi2 : i < zs.length := by omega
      -- stride
      refine ⟨.ref p.a, rfl, .ref p.a, rfl, p, 6, b', rfl, hPH, by decide, by decide, by omega, fun d1 H3 b3 e3 hP3 hb3 d10 d11 => ?_⟩
      refine ⟨.ref p.a, rfl, p, 9, b3, rfl, hP3, by decide, by decide, by omega, fun d2 H4 b4 e4 hP4 hb4 d20 d21 => ?_⟩
      refine ⟨sz_of (show 2 ≤ 1000 by decide), fun t nt => ?_⟩
      refine ⟨p, .ref t, [.int d1, .int d2], b4, rfl, hP4.new nt, .inl ⟨t, rfl, .inl (SqL.of upd_same)⟩, (fun z => nomatch z), (show 2 ≤ 1000 by decide), by omega, fun v hv H5 b5 e5 hP5 hb5 => ?_⟩
      have hv2 : ∃ x : Int, v = .int x ∧ 0 ≤ x ∧ x ≤ 8 := by
        rcases List.mem_cons.mp hv with rfl | hv
        · exact ⟨d1, rfl, by omega, by omega⟩
        · rw [List.mem_singleton.mp hv]
          exact ⟨d2, rfl, by omega, by omega⟩
      obtain ⟨x, rfl, x0, x1⟩ := hv2
      have e6 : Ext p.a H' H5 := (e3.trans e4).trans ((Ext.new hP4.is_ nt).trans e5)
      refine ⟨1, x, rfl, rfl, .ref p.a, rfl, _, rfl, sz_of (by decide), fun t2 nt2 => ?_⟩
      refine ⟨p, .ref t2, [.int 1, .int (-1)], b5, rfl, hP5.new nt2, .inl ⟨t2, rfl, .inl (SqL.of upd_same)⟩, (fun z => nomatch z), by decide, by omega, fun v hv H6 b6 e7 hP6 hb6 => ?_⟩
      have hv2 : ∃ y : Int, v = .int y ∧ (y = 1 ∨ y = -1) := by
        rcases List.mem_cons.mp hv with rfl | hv
        · exact ⟨1, rfl, .inl rfl⟩
        · rw [List.mem_singleton.mp hv]
          exact ⟨-1, rfl, .inr rfl⟩
      obtain ⟨y, rfl, hy⟩ := hv2
      have e8 : Ext p.a H' H6 := e6.trans ((Ext.new hP5.is_ nt2).trans e7)
      refine ⟨1 + x, y, rfl, rfl, by walk_at "sc", ?_⟩
      have sb : -9 ≤ (1 + x) * y ∧ (1 + x) * y ≤ 9 ∧ (1 + x) * y ≠ 0 := by
        rcases hy with rfl | rfl <;> omega
      dsimp only
      generalize (1 + x) * y = st at sb ⊢
      have hl6 := e8.at hlH fun _ z => nomatch z
      have hln6 := e8.at hlnH fun _ z => nomatch z
      -- found.append((names[k], draw, around, stride))
      refine ⟨.ref l, rfl, .inl ⟨rfl, _, .inl (.inl hl6)⟩, .ref ln, rfl, _, rfl, ln, _, _, .str zs[i], rfl, rfl, SqL.of hln6, ?_, ?_⟩
      · rw [show (0 : Int) + (i : Int) = ((i : Nat) : Int) by omega]
        exact atI_nat (by rw [List.getElem?_map, List.getElem?_eq_getElem hi2]; rfl)
      refine ⟨.ref p.a, rfl, p, 8, b6, rfl, hP6, by decide, by decide, by omega, fun dd H7 b7 e9 hP7 hb7 dd0 dd1 => ?_⟩
      refine ⟨.ref p.a, rfl, p, 9, b7, rfl, hP7, by decide, by decide, by omega, fun pp H8 b8 e10 hP8 hb8 pp0 pp1 => ?_⟩
      refine ⟨_, rfl, sz_of (by show 4 ≤ 1000; decide), fun t3 nt3 => ?_⟩
      have e11 : Ext p.a H' H8 := e8.trans (e9.trans e10)
      have hl8 := e11.at hlH fun _ z => nomatch z
      have hln8 := e11.at hlnH fun _ z => nomatch z
      have e12 : Ext p.a H8 (upd H8 t3 (.tup (tupP ⟨zs[i], dd, pp, st⟩))) := Ext.new hP8.is_ nt3
      have hl9 := e12.at hl8 fun _ z => nomatch z
      refine ⟨l, vs, .ref t3, rfl, rfl, hl9, Nat.lt_of_le_of_lt (show vs.length ≤ 2 by omega) (by rw [sizeLine_eq]; decide), ?_⟩
      refine ⟨_, _, vs ++ [.ref t3], qs ++ [⟨zs[i], dd, pp, st⟩], b8, rfl, (eH.trans (e11.trans e12)).mut nlH, (hP8.new nt3).mut hP nlH, by omega, upd_same, by rw [List.length_append]; simp; omega, ?_, ?_⟩
      · refine PList.mut (PList.snoc ⟨t3, rfl, upd_same, ⟨hz _ (List.getElem_mem hi2), ?_, ?_, ?_, ?_, ?_, ?_, ?_⟩⟩ ((hpl.ext e11).ext e12)) hl9 <;> dsimp only <;> omega
      · rw [upd_ne nll]
        exact e12.at hln8 fun _ z => nomatch z
    · rintro σ' H' ⟨y3, y4, vs, qs, b', rfl, eH, hPH, hbH, hlH, hvl, hpl, hlnH⟩
      obtain ⟨t1, t2, q1, q2, rfl, h1, s1, h2, s2⟩ : ∃ t1 t2 q1 q2, vs = [.ref t1, .ref t2] ∧ H' t1 = some (.tup (tupP q1)) ∧ q1.Sm ∧ H' t2 = some (.tup (tupP q2)) ∧ q2.Sm := by
        match hpl with
        | .nil => simp at hvl
        | .cons _ .nil => simp at hvl
        | .cons ⟨t1, e1, h1, s1⟩ (.cons ⟨t2, e2, h2, s2⟩ .nil) => exact ⟨t1, t2, _, _, by rw [e1, e2], h1, s1, h2, s2⟩
        | .cons _ (.cons _ (.cons _ _)) =>
          simp at hvl
      refine ⟨fun σ2 H2 => ∃ (u2 : Addr) (r2 : Ptr) (b2 : Int), σ2 = [some (.ref p.a), some (.ref ln), some (.ref l), y3, y4] ∧ Ext p.a H H2 ∧ Pen K H2 p b2 ∧ b2 ≤ b1 + 300 ∧ H2 l = some (.lst [.ref t1, .ref u2]) ∧ H2 t1 = some (.tup (tupP q1)) ∧ H2 u2 = some (.tup (tupP r2)) ∧ r2.Sm, ?_, ?_⟩
      · refine ⟨.ref p.a, rfl, p, 6, b', rfl, hPH, by decide, by decide, by omega, fun r H3 b3 e3 hP3 hb3 r0 r1 => ?_⟩
        have hl3 := e3.at hlH fun _ z => nomatch z
        have h13 := e3.at h1 fun _ z => nomatch z
        have h23 := e3.at h2 fun _ z => nomatch z
        have hln3 := e3.at hlnH fun _ z => nomatch z
        have zl : 1 < zs.length := by omega
        refine ⟨rfl, _, rfl, ite2 (fun e => ?_) (fun e => ?_)⟩
        · refine ⟨.ref ln, rfl, ln, _, 1, .str zs[1], rfl, rfl, SqL.of hln3, atI_nat (j := 1) (by rw [List.getElem?_map, List.getElem?_eq_getElem zl]; rfl), ?_⟩
          refine ⟨.ref p.a, rfl, .ref l, rfl, l, _, 0, .ref t1, rfl, rfl, SqL.of hl3, atI_nat (j := 0) rfl, t1, _, 1, .int q1.day, rfl, rfl, SqT.of h13, atI_nat (j := 1) rfl, ?_⟩
          refine ⟨.ref l, rfl, l, _, 1, .ref t2, rfl, rfl, SqL.of hl3, atI_nat (j := 1) rfl, t2, _, 1, .int q2.day, rfl, rfl, SqT.of h23, atI_nat (j := 1) rfl, sz_of (show 2 ≤ 1000 by decide), fun t nt => ?_⟩
          refine ⟨p, .ref t, [.int q1.day, .int q2.day], b3, rfl, hP3.new nt, .inl ⟨t, rfl, .inl (SqL.of upd_same)⟩, (fun z => nomatch z), (show 2 ≤ 1000 by decide), by omega, fun v hv H4 b4 e4 hP4 hb4 => ?_⟩
          obtain ⟨dd, rfl, dd0, dd1⟩ : ∃ x : Int, v = .int x ∧ 0 ≤ x ∧ x ≤ 7 := by
            rcases List.mem_cons.mp hv with rfl | hv
            · exact ⟨_, rfl, s1.d0, s1.d1⟩
            · rw [List.mem_singleton.mp hv]
              exact ⟨_, rfl, s2.d0, s2.d1⟩
          have e5 : Ext p.a H3 H4 := (Ext.new hP3.is_ nt).trans e4
          refine ⟨sz_of (show 2 ≤ 1000 by decide), fun ta nta => ?_⟩
          have e6 : Ext p.a H4 (upd H4 ta (.tup [.str zs[1], .int dd])) := Ext.new hP4.is_ nta
          have hP6 := hP4.new (o := .tup [.str zs[1], .int dd]) nta
          have hta : (upd H4 ta (.tup [.str zs[1], .int dd])) ta = some (.tup [.str zs[1], .int dd]) := upd_same
          have hl6 := (e5.trans e6).at hl3 fun _ z => nomatch z
          have h16 := (e5.trans e6).at h13 fun _ z => nomatch z
          generalize upd H4 ta (.tup [.str zs[1], .int dd]) = H6 at e6 hP6 hta hl6 h16 ⊢
          refine ⟨.ref l, rfl, l, _, 0, .ref t1, rfl, rfl, SqL.of hl6, atI_nat (j := 0) rfl, 2, rfl, t1, _, rfl, SqT.of h16, (show ¬(HT.sIx 4 0 (some 2) = 0 ∧ HT.sIx 4 4 none = 4) by decide), fun tb ntb => ?_⟩
          have cut : cutV (tupP q1) (some 2) none = [.int q1.post, .int q1.stride] := rfl
          rw [cut]
          have e7 : Ext p.a H6 (upd H6 tb (.tup [.int q1.post, .int q1.stride])) := Ext.new hP6.is_ ntb
          have hP7 := hP6.new (o := .tup [.int q1.post, .int q1.stride]) ntb
          have htb : (upd H6 tb (.tup [.int q1.post, .int q1.stride])) tb = some (.tup [.int q1.post, .int q1.stride]) := upd_same
          have hta7 := e7.at hta fun _ z => nomatch z
          have hl7 := e7.at hl6 fun _ z => nomatch z
          have h17 := e7.at h16 fun _ z => nomatch z
          generalize upd H6 tb (.tup [.int q1.post, .int q1.stride]) = H7 at e7 hP7 htb hta7 hl7 h17 ⊢
          refine ⟨ta, tb, _, _, rfl, rfl, SqT.of hta7, SqT.of htb, (fun z => nomatch z), sz_of (show 4 ≤ 1000 by decide), (fun z => nomatch z), fun _ tc ntc => ?_⟩
          have e8 : Ext p.a H7 (upd H7 tc (.tup (tupP ⟨zs[1], dd, q1.post, q1.stride⟩))) := Ext.new hP7.is_ ntc
          have hl8 := e8.at hl7 fun _ z => nomatch z
          have h18 := e8.at h17 fun _ z => nomatch z
          refine ⟨.ref l, rfl, l, _, 1, 1, rfl, rfl, hl8, rfl, ?_⟩
          refine ⟨tc, ⟨zs[1], dd, q1.post, q1.stride⟩, b4, rfl, ((eH.trans e3).trans (e5.trans (e6.trans (e7.trans e8)))).mut nlH, (hP7.new ntc).mut hP nlH, by omega, upd_same, ?_, ?_, ⟨hz _ (List.getElem_mem zl), dd0, dd1, s1.p0, s1.p1, s1.s0, s1.s1, s1.sn⟩⟩
          · rw [upd_ne (ne_of h18 hl8 fun z => nomatch z)]
            exact h18
          · rw [upd_ne (ne_of (upd_same (H := H7)) hl8 fun z => nomatch z)]
            exact upd_same
        · exact ⟨t2, q2, b3, rfl, eH.trans e3, hP3, by omega, hl3, h13, h23, s2⟩
      · rintro σ2 H2 ⟨u2, r2, b2, rfl, eX, hPX, hbX, hlX, h1X, h2X, sX⟩
        exact ⟨.ref l, rfl, k l t1 u2 q1 r2 H2 b2 eX hPX (by omega) hlX h1X h2X s1 sX⟩
end
end KP

namespace KP
open PySem PySem.Spec PyProof.Rows L2
local macro_rules | `(tactic| walk_at "sc") => `(tactic| first | (show (0 : Int) < _; decide) | (show (0 : Int) < _; omega) | (refine ⟨?_, ?_, ?_, ?_⟩ <;> (first | omega | (unfold Big; omega))) | (refine ⟨?_, ?_, ?_⟩ <;> (first | omega | (unfold Big; omega))) | (refine ⟨?_, ?_⟩ <;> (first | omega | (unfold Big; omega))))
/-! ### drawn lists of painters -/
/-- painters with numbers that stay within the bounds when a little is added -/
structure Ptr.Md (q : Ptr) : Prop where
  nm : NameOk q.name
  d0 : 0 ≤ q.day
  d1 : q.day ≤ 2 * 10 ^ 29
  p0 : -(2 * 10 ^ 29) ≤ q.post
  p1 : q.post ≤ 2 * 10 ^ 29
  s0 : -(2 * 10 ^ 17) ≤ q.stride
  s1 : q.stride ≤ 2 * 10 ^ 17
  sn : q.stride ≠ 0
theorem Ptr.Md.ok {q : Ptr} (h : q.Md) : q.Ok := ⟨h.nm, h.d0, by have := h.d1; omega, by have := h.p0; omega, by have := h.p1; omega, by have := h.s0; omega, by have := h.s1; omega, h.sn⟩
theorem Ptr.Sm.md {q : Ptr} (h : q.Sm) : q.Md := ⟨h.nm, h.d0, by have := h.d1; omega, by have := h.p0; omega, by have := h.p1; omega, by have := h.s0; omega, by have := h.s1; omega, h.sn⟩
theorem PList.imp {H : Hp} {G G' : Ptr → Prop} (f : ∀ q, G q → G' q) : ∀ {vs : List V} {qs : List Ptr}, PList H G vs qs → PList H G' vs qs
  | _, _, .nil => .nil
  | _, _, .cons ⟨a, e, h, g⟩ r => .cons ⟨a, e, h, f _ g⟩ (PList.imp f r)
theorem PList.len {H : Hp} {G : Ptr → Prop} {vs : List V} {qs : List Ptr} (h : PList H G vs qs) : vs.length = qs.length := Paired.length h
/-- the last item of a list in the place of another one -/
theorem PList.init {H : Hp} {G : Ptr → Prop} : ∀ {vs : List V} {qs : List Ptr} {v : V} {q : Ptr}, PList H G (vs ++ [v]) (qs ++ [q]) → PList H G vs qs
  | [], [], _, _, _ => .nil
  | [], _ :: qs, _, _, h => by
    have := h.len
    simp at this
  | _ :: vs, [], _, _, h => by
    have := h.len
    simp at this
  | _ :: vs, _ :: qs, _, _, .cons x r => .cons x (PList.init r)
def spDrawn (K : PySem.W.Frag) (G : Ptr → Prop) (B : Int) : Sp := fun vs H Q _ => ∃ (p : Pid) (most b : Int), vs = [.ref p.a, .int most] ∧ Pen K H p b ∧ 0 < most ∧ most ≤ 50 ∧ b < 10 ^ 9 ∧
  ∀ (l : Addr) (vs : List V) (qs : List Ptr) (H' : Hp) (b' : Int), Ext p.a H H' → H l = none → Pen K H' p b' → b' ≤ b + B → H' l = some (.lst vs) → PList H' G vs qs → (qs.length : Int) ≤ most → 1 ≤ qs.length → (qs.map Ptr.name).Nodup → Q (.ref l) H'
theorem cut_last (vs : List V) (x : V) : cutV (vs ++ [x]) none (some (-1)) = vs := by
  unfold cutV
  have h1 : HT.sIx (vs ++ [x]).length 0 none = 0 := rfl
  have h2 : HT.sIx (vs ++ [x]).length (vs ++ [x]).length (some (-1)) = vs.length := by
    unfold HT.sIx
    dsimp only
    rw [if_pos (by decide), List.length_append]
    simp
    omega
  rw [h1, h2]
  simp
theorem ix_last (vs : List V) (x : V) : ixN (vs ++ [x]).length (-1) = some vs.length := by
  unfold ixN
  rw [if_neg (by decide), if_pos (by rw [List.length_append]; simp; omega)]
  rw [List.length_append]
  simp
  omega
theorem set_last (vs : List V) (x y : V) : (vs ++ [x]).set vs.length y = vs ++ [y] := by simp
theorem map_take {zs : List Str} {z : Str} {qs : List Ptr} {q : Ptr} {i : Nat} (hz : zs[i]? = some z) (h : qs.map Ptr.name = zs.take i) (hq : q.name = z) : (qs ++ [q]).map Ptr.name = zs.take (i + 1) := by
  rw [List.map_append, h, List.take_add_one, hz, List.map_cons, hq]
  rfl
theorem mem3 {v : V} {x y z : Int} (h : v ∈ [V.int x, V.int y, V.int z]) : v = .int x ∨ v = .int y ∨ v = .int z := by
  simp only [List.mem_cons, List.mem_nil_iff, or_false] at h
  exact h
theorem mem2' {v : V} {x y : Int} (h : v ∈ [V.int x, V.int y]) : v = .int x ∨ v = .int y := by
  simp only [List.mem_cons, List.mem_nil_iff, or_false] at h
  exact h
section
variable {P : Program} {w : World} {K : PySem.W.Frag} {mg : Str → Option Value} {base : Heap}
end
end KP

/-! The drawing defs, over data. -/
namespace KD
open PySem PySem.Spec PyProof.Rows L2 KP
section
variable {P : Program} {w : World} {K : PySem.W.Frag} {mg : Str → Option Value} {base : Heap}
theorem calx_of {k : Nat} {f : Addr} {fd : FuncData} {ps : List Str} {sp : Sp} {W : WD} (c : KP.Cal P w K mg base k f fd ps sp) (h : ∀ vs H Z E, Pr K W vs H Z E → sp vs H Z E) : CalX P w K mg base k f fd ps (Pr K W) := ⟨FnOk.pr c.F h, c.kp, c.b⟩
theorem kx_draw (T : Tx K mg) : CalX P w K mg base 13 (He.ga K "_law_draw") T.fd_draw P_draw (Pr K W_draw) := calx_of (k_draw T) fun vs H Z E ⟨π, G, b, bs, Q, EQ, s, hp, ar, q, kq, ke⟩ => by
  unfold W_draw at q
  split at q
  · rename_i many
    obtain ⟨v, u, rfl, ⟨p, hpi, rfl⟩, h2⟩ := args2 ar
    cases (show Rep K G u (.int many) from h2)
    obtain rfl : π = some p := hpi
    obtain ⟨hP, g⟩ := hp p rfl
    exact ⟨p, many, b, rfl, hP, q.1, q.2.1, q.2.2.1, fun r H' b' e hP' hb r0 r1 => kq _ _ G H' b' (fr_ext s e hP' g) (.int r) (q.2.2.2 r b' hb r0 r1)⟩
  · exact q.elim
theorem kx_around (T : Tx K mg) : CalX P w K mg base 14 (He.ga K "_law_around") T.fd_around P_around (Pr K W_around) := calx_of (k_around T) fun vs H Z E ⟨π, G, b, bs, Q, EQ, s, hp, ar, q, kq, ke⟩ => by
  unfold W_around at q
  split at q
  · rename_i many
    obtain ⟨v, u, rfl, ⟨p, hpi, rfl⟩, h2⟩ := args2 ar
    cases (show Rep K G u (.int many) from h2)
    obtain rfl : π = some p := hpi
    obtain ⟨hP, g⟩ := hp p rfl
    exact ⟨p, many, b, rfl, hP, q.1, q.2.1, q.2.2.1, fun r H' b' e hP' hb r0 r1 => kq _ _ G H' b' (fr_ext s e hP' g) (.int r) (q.2.2.2 r b' hb r0 r1)⟩
  · exact q.elim
theorem seq_of {G H : Hp} (s : Same G H) {v : V} {x : D} {xs : List D} (h : Rep K G v x) (e : seqD x = some xs) : ∃ vs, SeqOf K H v vs ∧ Reps K G vs xs := by
  cases h with
  | lst h1 h2 => cases e; exact ⟨_, .inl ⟨_, rfl, .inl (SqL.of (s _ _ h1))⟩, h2⟩
  | tup h1 h2 => cases e; exact ⟨_, .inl ⟨_, rfl, .inr (Same.tup s h1)⟩, h2⟩
  | str z =>
    have e : (if z.length ≤ 1000 then some (z.cps.toList.map fun c => D.str ⟨#[c]⟩) else none) = some xs := e
    by_cases hz : z.length ≤ 1000
    · rw [if_pos hz] at e
      cases e
      refine ⟨_, .inr ⟨z, rfl, hz, rfl⟩, ?_⟩
      generalize z.cps.toList = l
      induction l with
      | nil => exact .nil
      | cons c l ih => exact .cons (.str _) ih
    · rw [if_neg hz] at e; cases e
  | _ => cases e
theorem kx_pick (T : Tx K mg) : CalX P w K mg base 14 (He.ga K "_law_pick") T.fd_pick P_pick (Pr K W_pick) := calx_of (k_pick T) fun vs H Z E ⟨π, G, b, bs, Q, EQ, s, hp, ar, q, kq, ke⟩ => by
  unfold W_pick at q
  split at q
  · rename_i x
    split at q
    · rename_i xs e
      obtain ⟨v, u, rfl, ⟨p, hpi, rfl⟩, h2⟩ := args2 ar
      obtain ⟨ws, hs, hr⟩ := seq_of s (show Rep K G u x from h2) e
      obtain rfl : π = some p := hpi
      obtain ⟨hP, g⟩ := hp p rfl
      have hl := hr.length
      refine ⟨p, u, ws, b, rfl, hP, hs, fun z => q.1 (List.length_eq_zero_iff.mp (by rw [← hl, z]; rfl)), by rw [hl]; exact q.2.1, q.2.2.1, fun v hv H' b' e' hP' hb => ?_⟩
      obtain ⟨i, hi⟩ := List.mem_iff_getElem?.mp hv
      obtain ⟨y, hy, ry⟩ := hr.get hi
      exact kq _ _ G H' b' (fr_ext s e' hP' g) ry (q.2.2.2 y (List.mem_of_getElem? hy) b' hb)
    · exact q.elim
  · exact q.elim
theorem reps_strs {G : Hp} : ∀ zs : List Str, Reps K G (zs.map V.str) (zs.map D.str)
  | [] => .nil
  | n :: ns => .cons (.str n) (reps_strs ns)
theorem kx_names (T : Tx K mg) : CalX P w K mg base 15 (He.ga K "_law_names") T.fd_names P_names (Pr K W_names) := calx_of (k_names T) fun vs H Z E ⟨π, G, b, bs, Q, EQ, s, hp, ar, q, kq, ke⟩ => by
  unfold W_names at q
  split at q
  · rename_i many
    obtain ⟨v, u, rfl, ⟨p, hpi, rfl⟩, h2⟩ := args2 ar
    cases (show Rep K G u (.int many) from h2)
    obtain rfl : π = some p := hpi
    obtain ⟨hP, g⟩ := hp p rfl
    exact ⟨p, many, b, rfl, hP, q.1, q.2.1, q.2.2.1, fun l zs H' b' e nl hP' hb hl hz hn nd => kq _ _ _ H' b' (fr_list s e hP' g nl hl) (.lst upd_same (reps_strs zs)) (q.2.2.2 zs b' hb hz hn nd)⟩
  · exact q.elim
theorem kx_power (T : Tx K mg) : CalX P w K mg base 1 (He.ga K "_law_power") T.fd_power P_power (Pr K W_power) := calx_of (k_power T) fun vs H Z E ⟨π, G, b, bs, Q, EQ, s, hp, ar, q, kq, ke⟩ => by
  unfold W_power at q
  split at q
  · rename_i n
    obtain ⟨v, rfl, h2⟩ := args1 ar
    cases (show Rep K G v (.int n) from h2)
    exact ⟨n.toNat, by rw [show ((n.toNat : Nat) : Int) = n by omega], by omega, kq _ _ G H b (fr_same s (Same.refl H) hp) (.int _) q.2.2⟩
  · exact q.elim
theorem kx_great (T : Tx K mg) : CalX P w K mg base 15 (He.ga K "_law_great") T.fd_great P_great (Pr K W_great) := calx_of (k_great T) fun vs H Z E ⟨π, G, b, bs, Q, EQ, s, hp, ar, q, kq, ke⟩ => by
  unfold W_great at q
  split at q
  · rename_i n
    obtain ⟨v, u, rfl, ⟨p, hpi, rfl⟩, h2⟩ := args2 ar
    cases (show Rep K G u (.int n) from h2)
    obtain rfl : π = some p := hpi
    obtain ⟨hP, g⟩ := hp p rfl
    exact ⟨p, n.toNat, b, by rw [show ((n.toNat : Nat) : Int) = n by omega], hP, by omega, by omega, q.2.2.1, fun r H' b' e hP' hb r0 r1 => kq _ _ G H' b' (fr_ext s e hP' g) (.int r) (q.2.2.2 r b' hb r0 r1)⟩
  · exact q.elim
end
end KD

namespace KD
open PySem PySem.Spec PyProof.Rows L2 KP
def w_is_integer : WS := (sRet (eAnd (eB oIsi (aCons (eVar 0) (aCons (eK (.ty "int")) aNil))) (eNot (eB oIsi (aCons (eVar 0) (aCons (eK (.ty "bool")) aNil))))))
@[irreducible] def W_is_integer : WD := runD 1 1 w_is_integer
def w_is_between : WS := (sRet (eAnd (eCall W_is_integer (aCons (eVar 0) aNil)) (eChain oLe oLe (eVar 1) (eVar 0) (eVar 2))))
@[irreducible] def W_is_between : WD := runD 3 3 w_is_between
def w_need_count : WS := (sIf (tNotD (tOf (eCall W_is_between (aCons (eVar 0) (aCons (eK (.int 0)) (aCons (eVar 1) aNil)))))) (fun _ _ => False) sNil)
@[irreducible] def W_need_count : WD := runD 2 2 w_need_count
def w_need_post : WS := (sIf (tNotD (tOf (eCall W_is_between (aCons (eVar 0) (aCons (eUn oNeg (eK (.int 100000000000000000000000000000000000000000000000000000000000000000000000000000000))) (aCons (eK (.int 100000000000000000000000000000000000000000000000000000000000000000000000000000000)) aNil)))))) (fun _ _ => False) sNil)
@[irreducible] def W_need_post : WD := runD 1 1 w_need_post
def w_is_name : WS := (sSeq (sCut (sIf (tOrD (tNotD (tOf (eB oIsi (aCons (eVar 0) (aCons (eK (.ty "str")) aNil))))) (tNotD (tOf (eChain oLe oLe (eK (.int 1)) (eLenV 0) (eK (.int 8)))))) (sRet (eK (.bl false))) sNil))
    (sRet (eB oAll (aCons (eF (fLc (iStrD (eVar 0)) (gN 1) tYesD (eOp (oIn false) (eVar 1) (eK (.str "abcdefghijklmnopqrstuvwxyz"))) [1])) aNil))))
@[irreducible] def W_is_name : WD := runD 1 2 w_is_name
def w_Painter_init : WS := (sSeq (sIf (tNotD (tOf (eCall W_is_name (aCons (eVar 1) aNil)))) (fun _ _ => False) sNil)
    (sSeq (sIf (tNotD (tOf (eCall W_is_between (aCons (eVar 2) (aCons (eK (.int 0)) (aCons (eConV "Painter" 0 "MAX_DAY" (.int 1000000000000000000000000000000)) aNil)))))) (fun _ _ => False) sNil)
    (sSeq (sIf (tNotD (tOf (eCall W_is_between (aCons (eVar 3) (aCons (eUn oNeg (eConV "Painter" 0 "MAX_POST" (.int 1000000000000000000000000000000))) (aCons (eConV "Painter" 0 "MAX_POST" (.int 1000000000000000000000000000000)) aNil)))))) (fun _ _ => False) sNil)
    (sSeq (sCut (sIf (tOrD (tNotD (tOf (eCall W_is_between (aCons (eVar 4) (aCons (eUn oNeg (eConV "Painter" 0 "MAX_STRIDE" (.int 1000000000000000000))) (aCons (eConV "Painter" 0 "MAX_STRIDE" (.int 1000000000000000000)) aNil)))))) (tOf (eOp oEq (eVar 4) (eK (.int 0))))) (fun _ _ => False) sNil))
    (sFldC "Painter" 0 "parts" (eTup (aCons (eVar 1) (aCons (eVar 2) (aCons (eVar 3) (aCons (eVar 4) aNil))))))))))
@[irreducible] def W_Painter_init : WN := runN "Painter" 5 5 w_Painter_init
def w_Painter_name : WS := (sRet (eOp oIx (eFldC "Painter" "parts" (eVar 0)) (eK (.int 0))))
@[irreducible] def W_Painter_name : WD := runD 1 1 w_Painter_name
def w_Painter_day : WS := (sRet (eOp oIx (eFldC "Painter" "parts" (eVar 0)) (eK (.int 1))))
@[irreducible] def W_Painter_day : WD := runD 1 1 w_Painter_day
def w_Painter_post : WS := (sRet (eOp oIx (eFldC "Painter" "parts" (eVar 0)) (eK (.int 2))))
@[irreducible] def W_Painter_post : WD := runD 1 1 w_Painter_post
def w_Painter_stride : WS := (sRet (eOp oIx (eFldC "Painter" "parts" (eVar 0)) (eK (.int 3))))
@[irreducible] def W_Painter_stride : WD := runD 1 1 w_Painter_stride
def w_Painter_way : WS := (sRet (eSl (eFldC "Painter" "parts" (eVar 0)) (oSo (eK (.int 1))) oNo))
@[irreducible] def W_Painter_way : WD := runD 1 1 w_Painter_way
def w_Painter_post_after : WS := (sSeq (sExpr (eCallD W_need_count [.int (10 ^ 80)] (aCons (eVar 1) aNil)))
    (sRet (eOp oAdd (eProp "Painter" W_Painter_post (eVar 0)) (eOp oMul (eVar 1) (eProp "Painter" W_Painter_stride (eVar 0))))))
@[irreducible] def W_Painter_post_after : WD := runD 2 2 w_Painter_post_after
def w_Painter_count_at : WS := (sSeq (sExpr (eCall W_need_post (aCons (eVar 1) aNil)))
    (sSeq (sAsg (eB oDivmod (aCons (eOp oSub (eVar 1) (eProp "Painter" W_Painter_post (eVar 0))) (aCons (eProp "Painter" W_Painter_stride (eVar 0)) aNil))) (gT 2 (gsCons (gN 2) (gsCons (gN 3) gsNil))))
    (sRet (eIf (tAndD (tOf (eOp oEq (eVar 3) (eK (.int 0)))) (tOf (eOp oGe (eVar 2) (eK (.int 0))))) (eVar 2) (eK .non)))))
@[irreducible] def W_Painter_count_at : WD := runD 2 4 w_Painter_count_at
def w_Painter_add : WS := (sRet (eMake "Painter" W_Painter_init (aCons (eProp "Painter" W_Painter_name (eVar 0)) (aCons (eProp "Painter" W_Painter_day (eVar 0)) (aCons (eOp oAdd (eProp "Painter" W_Painter_post (eVar 0)) (eVar 1)) (aCons (eProp "Painter" W_Painter_stride (eVar 0)) aNil))))))
@[irreducible] def W_Painter_add : WD := runD 2 2 w_Painter_add
def w_Painter_neg : WS := (sRet (eMake "Painter" W_Painter_init (aCons (eProp "Painter" W_Painter_name (eVar 0)) (aCons (eProp "Painter" W_Painter_day (eVar 0)) (aCons (eUn oNeg (eProp "Painter" W_Painter_post (eVar 0))) (aCons (eUn oNeg (eProp "Painter" W_Painter_stride (eVar 0))) aNil))))))
@[irreducible] def W_Painter_neg : WD := runD 1 1 w_Painter_neg
def w_inverse : WS := (sSeq (sAsg (eTup (aCons (eOp oMod (eVar 0) (eVar 1)) (aCons (eVar 1) (aCons (eK (.int 1)) (aCons (eK (.int 0)) aNil))))) (gT 4 (gsCons (gN 2) (gsCons (gN 3) (gsCons (gN 4) (gsCons (gN 5) gsNil))))))
    (sSeq (sWhile (tOf (eOp oNe (eVar 3) (eK (.int 0))))
    (sSeq (sSet 6 (eOp oDiv (eVar 2) (eVar 3)))
    (sSeq (sParK [2, 3] [.e (eVar 3), .e (eOp oSub (eVar 2) (eOp oMul (eVar 6) (eVar 3)))])
    (sParK [4, 5] [.e (eVar 5), .e (eOp oSub (eVar 4) (eOp oMul (eVar 6) (eVar 5)))]))))
    (sRet (eOp oMod (eVar 4) (eVar 1)))))
@[irreducible] def W_inverse : WD := runD 2 7 w_inverse
def w_greatest_divisor : WS := (sSeq (sParK [0, 1] [.e (eB oAbs (aCons (eVar 0) aNil)), .e (eB oAbs (aCons (eVar 1) aNil))])
    (sSeq (sWhile (tOf (eOp oNe (eVar 1) (eK (.int 0))))
    (sParK [0, 1] [.e (eVar 1), .e (eOp oMod (eVar 0) (eVar 1))]))
    (sRet (eVar 0))))
@[irreducible] def W_greatest_divisor : WD := runD 2 2 w_greatest_divisor
def w_least_fit : WS := (sSeq (sAsg (eTup (aCons (eK (.int 0)) (aCons (eK .non) aNil))) (gT 2 (gsCons (gN 1) (gsCons (gN 2) gsNil))))
    (sSeq (sFor (iLst (eVar 0)) (gT 2 (gsCons (gN 3) (gsCons (gN 4) gsNil)))
    (sIf (tOf (eOp oGt (eVar 4) (eK (.int 0)))) (sSet 1 (eB oMax (aCons (eVar 1) (aCons (eUn oNeg (eOp oDiv (eVar 3) (eVar 4))) aNil)))) (sIf (tOf (eOp oLt (eVar 4) (eK (.int 0)))) (sSeq (sSet 5 (eOp oDiv (eVar 3) (eUn oNeg (eVar 4))))
    (sSet 2 (eCut (eIf (tOf (eOp oIs (eVar 2) (eK .non))) (eVar 5) (eB oMin (aCons (eVar 2) (aCons (eVar 5) aNil))))))) (sIf (tOf (eOp oLt (eVar 3) (eK (.int 0)))) (sRet (eTup (aCons (eK (.int 1)) (aCons (eK (.int 0)) aNil)))) sNil))))
    (sRet (eIf (tOrD (tOf (eOp oIs (eVar 2) (eK .non))) (tOf (eOp oLe (eVar 1) (eVar 2)))) (eTup (aCons (eVar 1) (aCons (eVar 2) aNil))) (eTup (aCons (eK (.int 1)) (aCons (eK (.int 0)) aNil)))))))
@[irreducible] def W_least_fit : WD := runD 1 6 w_least_fit
def w_Crossing_init : WS := (sSeq (sParK [3, 4] [.e (eIxN 1 (eK (.int 2))), .e (eIxN 2 (eK (.int 2)))])
    (sSeq (sSet 5 (eCall W_greatest_divisor (aCons (eVar 3) (aCons (eVar 4) aNil))))
    (sSeq (sAsg (eB oDivmod (aCons (eOp oSub (eIxN 2 (eK (.int 1))) (eIxN 1 (eK (.int 1)))) (aCons (eVar 5) aNil))) (gT 2 (gsCons (gN 6) (gsCons (gN 7) gsNil))))
    (sSeq (sFldC "Crossing" 0 "one" (eVar 1))
    (sSeq (sFldC "Crossing" 0 "other" (eVar 2))
    (sSeq (sFldC "Crossing" 0 "is_empty" (eOp oNe (eVar 7) (eK (.int 0))))
    (sSeq (sFldC "Crossing" 0 "step" (eOp oDiv (eB oAbs (aCons (eVar 4) aNil)) (eVar 5)))
    (sSeq (sFldC "Crossing" 0 "other_step" (eCut (eIf (tOf (eOp oGt (eVar 4) (eK (.int 0)))) (eOp oDiv (eVar 3) (eVar 5)) (eUn oNeg (eOp oDiv (eVar 3) (eVar 5))))))
    (sSeq (sFldC "Crossing" 0 "start" (eOp oMod (eOp oMul (eVar 6) (eCall W_inverse (aCons (eOp oDiv (eVar 3) (eVar 5)) (aCons (eFldV "Crossing" 0 "step") aNil)))) (eFldV "Crossing" 0 "step")))
    (sFldC "Crossing" 0 "other_start" (eOp oDiv (eOp oSub (eOp oAdd (eIxN 1 (eK (.int 1))) (eOp oMul (eFldV "Crossing" 0 "start") (eVar 3))) (eIxN 2 (eK (.int 1)))) (eVar 4))))))))))))
@[irreducible] def W_Crossing_init : WN := runN "Crossing" 3 8 w_Crossing_init
def w_Crossing_number : WS := (sRet (eOp oAdd (eFldC "Crossing" "start" (eVar 0)) (eOp oMul (eVar 1) (eFldC "Crossing" "step" (eVar 0)))))
@[irreducible] def W_Crossing_number : WD := runD 2 2 w_Crossing_number
def w_Crossing_common_post : WS := (sRet (eOp oAdd (eOp oIx (eFldC "Crossing" "one" (eVar 0)) (eK (.int 1))) (eOp oMul (eMeth "Crossing" "number" W_Crossing_number [] (eVar 0) (aCons (eVar 1) aNil)) (eOp oIx (eFldC "Crossing" "one" (eVar 0)) (eK (.int 2))))))
@[irreducible] def W_Crossing_common_post : WD := runD 2 2 w_Crossing_common_post
def w_Crossing_bounds : WS := (sSeq (sIf (tOf (eFldC "Crossing" "is_empty" (eVar 0))) (sRet (eTup (aCons (eK (.int 1)) (aCons (eK (.int 0)) aNil)))) sNil)
    (sRet (eCall W_least_fit (aCons (eLst (aCons (eTup (aCons (eFldC "Crossing" "other_start" (eVar 0)) (aCons (eFldC "Crossing" "other_step" (eVar 0)) aNil))) (aStar (eVar 1) aNil))) aNil))))
@[irreducible] def W_Crossing_bounds : WD := runD 2 2 w_Crossing_bounds
def w_Crossing_first_block : WS := (sSeq (sSet 3 (eOp oSub (eOp oSub (eOp oSub (eOp oAdd (eOp oIx (eFldC "Crossing" "one" (eVar 0)) (eK (.int 0))) (eFldC "Crossing" "start" (eVar 0))) (eOp oIx (eFldC "Crossing" "other" (eVar 0)) (eK (.int 0)))) (eFldC "Crossing" "other_start" (eVar 0))) (eB oInt (aCons (eNot (eVar 2)) aNil))))
    (sSeq (sSetF 4 (fLst (aCons (eTup (aCons (eVar 3) (aCons (eOp oSub (eFldC "Crossing" "step" (eVar 0)) (eFldC "Crossing" "other_step" (eVar 0))) aNil))) aNil)))
    (sSeq (sCut (sIf (tOf (eOp oIsNot (eVar 1) (eK .non))) (sApp 4 (eTup (aCons (eOp oSub (eOp oSub (eVar 1) (eK (.int 1))) (eFldC "Crossing" "other_start" (eVar 0))) (aCons (eUn oNeg (eFldC "Crossing" "other_step" (eVar 0))) aNil)))) sNil))
    (sSeq (sAsg (eMeth "Crossing" "bounds" W_Crossing_bounds [] (eVar 0) (aCons (eVar 4) aNil)) (gT 2 (gsCons (gN 5) (gsCons (gN 6) gsNil))))
    (sRet (eIf (tOrD (tOf (eOp oIs (eVar 6) (eK .non))) (tOf (eOp oLe (eVar 5) (eVar 6)))) (eMeth "Crossing" "number" W_Crossing_number [] (eVar 0) (aCons (eVar 5) aNil)) (eK .non)))))))
@[irreducible] def W_Crossing_first_block : WD := runD 3 7 w_Crossing_first_block
def w_common_posts : WS := (sSeq (sSet 2 (eMake "Crossing" W_Crossing_init (aCons (eProp "Painter" W_Painter_way (eVar 0)) (aCons (eProp "Painter" W_Painter_way (eVar 1)) aNil))))
    (sSeq (sAsg (eMeth "Crossing" "bounds" W_Crossing_bounds [.tup []] (eVar 2) aNil) (gT 2 (gsCons (gN 3) (gsCons (gN 4) gsNil))))
    (sSeq (sCut (sIf (tAndD (tOf (eOp oIsNot (eVar 4) (eK .non))) (tOf (eOp oGt (eVar 3) (eVar 4)))) (sRet (eK .non)) sNil))
    (sSeq (sSet 5 (eCut (eIf (tOf (eOp oIs (eVar 4) (eK .non))) (eK .non) (eMeth "Crossing" "common_post" W_Crossing_common_post [] (eVar 2) (aCons (eVar 4) aNil)))))
    (sRet (eTup (aCons (eMeth "Crossing" "common_post" W_Crossing_common_post [] (eVar 2) (aCons (eVar 3) aNil)) (aCons (eVar 5) (aCons (eOp oMul (eB oAbs (aCons (eProp "Painter" W_Painter_stride (eVar 0)) aNil)) (eFldC "Crossing" "step" (eVar 2))) aNil)))))))))
@[irreducible] def W_common_posts : WD := runD 2 6 w_common_posts
def w_first_block : WS := (sSeq (sCut (sIf (tOf (eOp oIsNot (eVar 2) (eK .non))) (sExpr (eCallD W_need_count [.int (10 ^ 80)] (aCons (eVar 2) aNil))) sNil))
    (sRet (eMeth "Crossing" "first_block" W_Crossing_first_block [] (eMake "Crossing" W_Crossing_init (aCons (eProp "Painter" W_Painter_way (eVar 0)) (aCons (eProp "Painter" W_Painter_way (eVar 1)) aNil))) (aCons (eVar 2) (aCons (eVar 3) aNil)))))
@[irreducible] def W_first_block : WD := runD 4 4 w_first_block
def w_made : WS := (sSeq (sAsg (eVar 0) (gT 4 (gsCons (gN 1) (gsCons (gN 2) (gsCons (gN 3) (gsCons (gN 4) gsNil))))))
    (sRet (eMake "Painter" W_Painter_init (aCons (eVar 1) (aCons (eVar 2) (aCons (eVar 3) (aCons (eVar 4) aNil)))))))
@[irreducible] def W_made : WD := runD 1 5 w_made
def w_duo : WS := (sSeq (sParK [1, 2] [.e (eCall W_names (aPen 0 (aCons (eK (.int 2)) aNil))), .f (fLst aNil)])
    (sSeq (sFor (iR1 (aCons (eK (.int 2)) aNil)) (gN 3)
    (sSeq (sSet 4 (eOp oMul (eOp oAdd (eK (.int 1)) (eCall W_pick (aPen 0 (aCons (eLst (aCons (eCall W_draw (aPen 0 (aCons (eK (.int 6)) aNil))) (aCons (eCall W_draw (aPen 0 (aCons (eK (.int 9)) aNil))) aNil))) aNil)))) (eCall W_pick (aPen 0 (aCons (eLst (aCons (eK (.int 1)) (aCons (eUn oNeg (eK (.int 1))) aNil))) aNil)))))
    (sApp 2 (eTup (aCons (eIxN 1 (eVar 3)) (aCons (eCall W_draw (aPen 0 (aCons (eK (.int 8)) aNil))) (aCons (eCall W_around (aPen 0 (aCons (eK (.int 9)) aNil))) (aCons (eVar 4) aNil))))))))
    (sSeq (sCut (sIf (tOf (eOp oEq (eCall W_draw (aPen 0 (aCons (eK (.int 6)) aNil))) (eK (.int 0)))) (sPutL 2 (eK (.int 1)) (eOp oAdd (eTup (aCons (eIxN 1 (eK (.int 1))) (aCons (eCall W_pick (aPen 0 (aCons (eLst (aCons (eOp oIx (eIxN 2 (eK (.int 0))) (eK (.int 1))) (aCons (eOp oIx (eIxN 2 (eK (.int 1))) (eK (.int 1))) aNil))) aNil))) aNil))) (eSl (eIxN 2 (eK (.int 0))) (oSo (eK (.int 2))) oNo))) sNil))
    (sRet (eVar 2)))))
@[irreducible] def W_duo : WD := runD 1 5 w_duo
def w_great_duo : WS := (sSeq (sParK [1, 2, 3] [.e (eCall W_names (aPen 0 (aCons (eK (.int 2)) aNil))), .e (eOp oMul (eCall W_great (aPen 0 (aCons (eK (.int 28)) aNil))) (eCall W_pick (aPen 0 (aCons (eLst (aCons (eK (.int 1)) (aCons (eUn oNeg (eK (.int 1))) aNil))) aNil)))), .f (fLst aNil)])
    (sSeq (sParK [4, 5] [.e (eOp oAdd (eK (.int 1)) (eCall W_pick (aPen 0 (aCons (eLst (aCons (eCall W_draw (aPen 0 (aCons (eK (.int 9)) aNil))) (aCons (eCall W_great (aPen 0 (aCons (eK (.int 9)) aNil))) aNil))) aNil)))), .e (eOp oAdd (eK (.int 1000000000000)) (eCall W_great (aPen 0 (aCons (eK (.int 29)) aNil))))])
    (sSeq (sFor (iR1 (aCons (eK (.int 2)) aNil)) (gN 6)
    (sSeq (sSet 7 (eOp oMul (eOp oMul (eVar 4) (eOp oAdd (eK (.int 1)) (eCall W_pick (aPen 0 (aCons (eLst (aCons (eCall W_draw (aPen 0 (aCons (eK (.int 6)) aNil))) (aCons (eCall W_great (aPen 0 (aCons (eK (.int 8)) aNil))) aNil))) aNil))))) (eCall W_pick (aPen 0 (aCons (eLst (aCons (eK (.int 1)) (aCons (eUn oNeg (eK (.int 1))) aNil))) aNil)))))
    (sSeq (sSet 8 (eCall W_pick (aPen 0 (aCons (eLst (aCons (eCall W_draw (aPen 0 (aCons (eK (.int 9)) aNil))) (aCons (eCall W_great (aPen 0 (aCons (eK (.int 11)) aNil))) aNil))) aNil))))
    (sSeq (sSet 9 (eOp oSub (eOp oAdd (eVar 5) (eCall W_pick (aPen 0 (aCons (eLst (aCons (eK (.int 0)) (aCons (eCall W_draw (aPen 0 (aCons (eK (.int 5)) aNil))) (aCons (eCall W_great (aPen 0 (aCons (eK (.int 20)) aNil))) aNil)))) aNil)))) (eVar 8)))
    (sApp 3 (eTup (aCons (eIxN 1 (eVar 6)) (aCons (eVar 9) (aCons (eOp oSub (eVar 2) (eOp oMul (eVar 8) (eVar 7))) (aCons (eVar 7) aNil))))))))))
    (sSeq (sCut (sIf (tOf (eOp oEq (eCall W_draw (aPen 0 (aCons (eK (.int 4)) aNil))) (eK (.int 0)))) (sPutL 3 (eK (.int 1)) (eOp oAdd (eOp oAdd (eSl (eIxN 3 (eK (.int 1))) oNo (oSo (eK (.int 2)))) (eTup (aCons (eOp oAdd (eOp oAdd (eOp oIx (eIxN 3 (eK (.int 1))) (eK (.int 2))) (eK (.int 1))) (eCall W_draw (aPen 0 (aCons (eK (.int 9)) aNil)))) aNil))) (eSl (eIxN 3 (eK (.int 1))) (oSo (eK (.int 3))) oNo))) sNil))
    (sRet (eTup (aCons (eIxN 3 (eK (.int 0))) (aCons (eIxN 3 (eK (.int 1))) (aCons (eVar 2) aNil)))))))))
@[irreducible] def W_great_duo : WD := runD 1 10 w_great_duo
def w_turned : WS := (sSeq (sIf (tOf (eOp oIs (eVar 0) (eK .non))) (sRet (eK .non)) sNil)
    (sRet (eTup (aCons (eOp oAdd (eVar 1) (eOp oMul (eVar 2) (eIxN 0 (eK (.int 0))))) (aCons (eCut (eIf (tOf (eOp oIs (eIxN 0 (eK (.int 1))) (eK .non))) (eK .non) (eOp oAdd (eVar 1) (eOp oMul (eVar 2) (eIxN 0 (eK (.int 1))))))) (aCons (eIxN 0 (eK (.int 2))) aNil))))))
@[irreducible] def W_turned : WD := runD 3 3 w_turned
def w_posts_right : WS := (sSeq (sParK [3, 4] [.e (eCall W_common_posts (aCons (eVar 0) (aCons (eVar 1) aNil))), .e (eCall W_common_posts (aCons (eVar 1) (aCons (eVar 0) aNil)))])
    (sSeq (sIf (tOf (eOp oNe (eOp oIs (eVar 3) (eK .non)) (eOp oIs (eVar 4) (eK .non)))) (sRet (eK (.bl false))) sNil)
    (sSeq (sCut (sIf (tAndD (tOf (eOp oIsNot (eVar 3) (eK .non))) (tAndD (tOf (eOp oIs (eIxN 3 (eK (.int 1))) (eK .non))) (tOf (eOp oNe (eVar 3) (eVar 4))))) (sRet (eK (.bl false))) sNil))
    (sSeq (sCut (sIf (tAndD (tOf (eOp oIsNot (eVar 3) (eK .non))) (tAndD (tOf (eOp oIsNot (eIxN 3 (eK (.int 1))) (eK .non))) (tOf (eOp oNe (eTup (aCons (eIxN 3 (eK (.int 1))) (aCons (eIxN 3 (eK (.int 0))) (aCons (eIxN 3 (eK (.int 2))) aNil)))) (eVar 4))))) (sRet (eK (.bl false))) sNil))
    (sSeq (sIf (tOf (eOp oNe (eCall W_common_posts (aCons (eOwn2 "Painter" (okT "int") W_Painter_add (eVar 0) (eVar 2)) (aCons (eOwn2 "Painter" (okT "int") W_Painter_add (eVar 1) (eVar 2)) aNil))) (eCall W_turned (aCons (eVar 3) (aCons (eVar 2) (aCons (eK (.int 1)) aNil)))))) (sRet (eK (.bl false))) sNil)
    (sRet (eOp oEq (eCall W_common_posts (aCons (eOwn1 "Painter" W_Painter_neg (eVar 0)) (aCons (eOwn1 "Painter" W_Painter_neg (eVar 1)) aNil))) (eCall W_turned (aCons (eVar 3) (aCons (eK (.int 0)) (aCons (eUn oNeg (eK (.int 1))) aNil)))))))))))
@[irreducible] def W_posts_right : WD := runD 3 5 w_posts_right
def w_is_later : WS := (sRet (eAnd (eOp oIsNot (eVar 1) (eK .non)) (eOr (eOp oIs (eVar 0) (eK .non)) (eOp oGt (eVar 0) (eVar 1)))))
@[irreducible] def W_is_later : WD := runD 2 2 w_is_later
def w_blocks_right : WS := (sSeq (sParK [4, 5] [.e (eCallD W_first_block [.non, .bl false] (aCons (eVar 1) (aCons (eVar 2) aNil))), .e (eCallN W_first_block (fun bs cs => bs ++ (([.d (.non)] : List B) ++ cs)) 2 1 (aCons (eVar 1) (aCons (eVar 2) aNil)) (aCons (eK (.bl true)) aNil))])
    (sSeq (sSet 6 (eCall W_pick (aPen 0 (aCons (eLst (aCons (eK (.int 0)) (aCons (eCall W_draw (aPen 0 (aCons (eK (.int 9)) aNil))) (aCons (eCall W_great (aPen 0 (aCons (eK (.int 12)) aNil))) aNil)))) aNil))))
    (sSeq (sParK [7, 8] [.e (eCallN W_first_block (fun bs cs => bs ++ (cs ++ ([.d (.bl false)] : List B))) 2 1 (aCons (eVar 1) (aCons (eVar 2) aNil)) (aCons (eVar 6) aNil)), .e (eCallN W_first_block (fun bs cs => bs ++ (cs ++ ([.d (.bl false)] : List B))) 2 1 (aCons (eVar 1) (aCons (eVar 2) aNil)) (aCons (eOp oAdd (eOp oAdd (eVar 6) (eK (.int 1))) (eCall W_draw (aPen 0 (aCons (eK (.int 9)) aNil)))) aNil))])
    (sSeq (sCut (sIf (tOrD (tOf (eCall W_is_later (aCons (eVar 5) (aCons (eVar 4) aNil)))) (tOrD (tOf (eCall W_is_later (aCons (eVar 8) (aCons (eVar 7) aNil)))) (tOf (eCall W_is_later (aCons (eVar 4) (aCons (eVar 8) aNil)))))) (sRet (eK (.bl false))) sNil))
    (sSeq (sSet 9 (eMake "Painter" W_Painter_init (aCons (eProp "Painter" W_Painter_name (eVar 1)) (aCons (eOp oAdd (eProp "Painter" W_Painter_day (eVar 1)) (eVar 3)) (aCons (eProp "Painter" W_Painter_post (eVar 1)) (aCons (eProp "Painter" W_Painter_stride (eVar 1)) aNil))))))
    (sSeq (sIf (tOf (eOp oNe (eCallD W_first_block [.non, .bl false] (aCons (eVar 9) (aCons (eMake "Painter" W_Painter_init (aCons (eProp "Painter" W_Painter_name (eVar 2)) (aCons (eOp oAdd (eProp "Painter" W_Painter_day (eVar 2)) (eVar 3)) (aCons (eProp "Painter" W_Painter_post (eVar 2)) (aCons (eProp "Painter" W_Painter_stride (eVar 2)) aNil))))) aNil))) (eVar 4))) (sRet (eK (.bl false))) sNil)
    (sSeq (sIf (tOf (eOp oIs (eVar 4) (eK .non))) (sRet (eOp oIs (eCallN W_first_block (fun bs cs => bs ++ cs) 2 2 (aCons (eVar 1) (aCons (eVar 2) aNil)) (aCons (eK (.int 0)) (aCons (eK (.bl true)) aNil))) (eK .non))) sNil)
    (sSeq (sSet 10 (eMeth "Painter" "count_at" W_Painter_count_at [] (eVar 2) (aCons (eMeth "Painter" "post_after" W_Painter_post_after [] (eVar 1) (aCons (eVar 4) aNil)) aNil)))
    (sSeq (sCut (sIf (tOrD (tOf (eOp oIs (eVar 10) (eK .non))) (tOf (eOp oGe (eOp oAdd (eProp "Painter" W_Painter_day (eVar 2)) (eVar 10)) (eOp oAdd (eProp "Painter" W_Painter_day (eVar 1)) (eVar 4))))) (sRet (eK (.bl false))) sNil))
    (sRet (eAnd (eOp oEq (eCallN W_first_block (fun bs cs => bs ++ (cs ++ ([.d (.bl false)] : List B))) 2 1 (aCons (eVar 1) (aCons (eVar 2) aNil)) (aCons (eOp oAdd (eVar 10) (eK (.int 1))) aNil)) (eVar 4)) (eOp oNe (eCallN W_first_block (fun bs cs => bs ++ (cs ++ ([.d (.bl false)] : List B))) 2 1 (aCons (eVar 1) (aCons (eVar 2) aNil)) (aCons (eVar 10) aNil)) (eVar 4)))))))))))))
@[irreducible] def W_blocks_right : WD := runD 4 11 w_blocks_right
def w_law : WS := (sSeq (sFor (iR1 (aCons (eOp oAdd (eK (.int 3)) (eB oMin (aCons (eK (.int 5)) (aCons (eLenV 0) aNil)))) aNil)) (gN 2)
    (sSeq (sParK [3, 4] [.e (eCall W_duo (aPen 1 aNil)), .e (eCall W_great_duo (aPen 1 aNil))])
    (sFor (iLst (eLst (aCons (eTup (aCons (eIxN 3 (eK (.int 0))) (aCons (eIxN 3 (eK (.int 1))) aNil))) (aCons (eTup (aCons (eIxN 4 (eK (.int 0))) (aCons (eIxN 4 (eK (.int 1))) aNil))) aNil)))) (gT 2 (gsCons (gN 5) (gsCons (gN 6) gsNil)))
    (sSeq (sParK [7, 8] [.e (eCall W_made (aCons (eVar 5) aNil)), .e (eCall W_made (aCons (eVar 6) aNil))])
    (sSeq (sIf (tNotD (tOf (eCall W_posts_right (aCons (eVar 7) (aCons (eVar 8) (aCons (eCall W_around (aPen 1 (aCons (eK (.int 100000000000000000000000000000)) aNil))) aNil)))))) (sRet (eK (.bl false))) sNil)
    (sSeq (sIf (tNotD (tOf (eCall W_blocks_right (aPen 1 (aCons (eVar 7) (aCons (eVar 8) (aCons (eCall W_great (aPen 1 (aCons (eK (.int 29)) aNil))) aNil))))))) (sRet (eK (.bl false))) sNil)
    (sIf (tNotD (tOf (eCall W_blocks_right (aPen 1 (aCons (eVar 8) (aCons (eVar 7) (aCons (eCall W_draw (aPen 1 (aCons (eK (.int 9)) aNil))) aNil))))))) (sRet (eK (.bl false))) sNil)))))))
    (sRet (eK (.bl true))))
end KD

/-! What the drawing defs promise; reprs. -/
namespace KD
open PySem PySem.Spec PyProof.Rows L2 KP
section
variable {b : Int} {Q : D → Int → Prop} {E : XC → Int → Prop}
theorem q_draw {many : Int} (h0 : 0 < many) (h1 : many ≤ 10 ^ 100) (hb : b < 10 ^ 11) (k : ∀ r b', b' ≤ b + 13 → 0 ≤ r → r < many → Q (.int r) b') : W_draw [.pen, .d (.int many)] b Q E := by unfold W_draw; exact ⟨h0, h1, hb, k⟩
theorem q_around {most : Int} (h0 : 0 ≤ most) (h1 : most ≤ 10 ^ 99) (hb : b < 10 ^ 11) (k : ∀ r b', b' ≤ b + 13 → -most ≤ r → r ≤ most → Q (.int r) b') : W_around [.pen, .d (.int most)] b Q E := by unfold W_around; exact ⟨h0, h1, hb, k⟩
theorem q_pick {x : D} {xs : List D} (e : seqD x = some xs) (h0 : xs ≠ []) (h1 : xs.length ≤ 1000) (hb : b < 10 ^ 11) (k : ∀ y, y ∈ xs → ∀ b', b' ≤ b + 13 → Q y b') : W_pick [.pen, .d x] b Q E := by unfold W_pick; simp only [e]; exact ⟨h0, h1, hb, k⟩
theorem q_names {many : Int} (h0 : 0 ≤ many) (h1 : many ≤ 52) (hb : b < 10 ^ 10) (k : ∀ (zs : List Str) (b' : Int), b' ≤ b + 1000 → (zs.length : Int) = many → (∀ z ∈ zs, NameD z) → zs.Nodup → Q (.lst (zs.map D.str)) b') : W_names [.pen, .d (.int many)] b Q E := by unfold W_names; exact ⟨h0, h1, hb, k⟩
theorem q_power {n : Int} (h0 : 0 ≤ n) (h1 : n ≤ 90) (k : Q (.int (10 ^ n.toNat)) b) : W_power [.d (.int n)] b Q E := by unfold W_power; exact ⟨h0, h1, k⟩
theorem q_great {n : Int} (h0 : 1 ≤ n) (h1 : n ≤ 90) (hb : b < 10 ^ 10) (k : ∀ (r b' : Int), b' ≤ b + 100 → 0 ≤ r → r < 10 ^ n.toNat → Q (.int r) b') : W_great [.pen, .d (.int n)] b Q E := by unfold W_great; exact ⟨h0, h1, hb, k⟩
theorem q_drawn {most D0 P0 S0 B0 : Int} (h0 : 0 < most) (h1 : most ≤ 50) (hb : b < 10 ^ 9) (k : ∀ (qs : List Pt) (b' : Int), b' ≤ b + B0 → (∀ q ∈ qs, q.In D0 P0 S0) → (qs.length : Int) ≤ most → 1 ≤ qs.length → (qs.map Pt.nm).Nodup → Q (.lst (qs.map Pt.d)) b') : W_drawn D0 P0 S0 B0 [.pen, .d (.int most)] b Q E := by unfold W_drawn; exact ⟨h0, h1, hb, k⟩
theorem q_painters (hb : b < 10 ^ 8) (k : ∀ (qs : List Pt) (b' : Int), b' ≤ b + 70000 → (∀ q ∈ qs, q.In (2 * 10 ^ 29) (2 * 10 ^ 29) (2 * 10 ^ 17)) → qs.length ≤ 6 → (qs.map Pt.nm).Nodup → Q (.lst (qs.map Pt.d)) b') : W_painters [.pen] b Q E := by unfold W_painters; exact ⟨hb, k⟩
end
/-! ### types -/
theorem kb_ii : kitB "int" "int" = some true := by decide +kernel
theorem kb_ib : kitB "int" "bool" = some false := by decide +kernel
theorem kb_ss : kitB "str" "str" = some true := by decide +kernel
/-! ### loops by an invariant -/
theorem forGo_ind {g : WG} {tb : WS} {N : DN} (xs : List D) (I : Nat → En → Prop) {en : En} (h0 : I 0 en)
    (hs : ∀ (i : Nat) (x : D) (en : En) (J : En → Prop), xs[i]? = some x → I i en → (∀ en', I (i + 1) en' → J en') → g x en fun en1 => tb { N with nx := J, ct := J, bk := N.nx } en1)
    (hd : ∀ en, I xs.length en → N.nx en) : forGo g tb N xs en := by
  suffices h : ∀ (ys : List D) (i : Nat) (en : En), xs.drop i = ys → i ≤ xs.length → I i en → forGo g tb N ys en from h xs 0 en rfl (Nat.zero_le _) h0
  intro ys
  induction ys with
  | nil =>
    intro i en e hi hI
    have : i = xs.length := by
      have := congrArg List.length e
      rw [List.length_drop] at this
      simp at this
      omega
    subst this
    exact hd en hI
  | cons y ys ih =>
    intro i en e hi hI
    have hx : xs[i]? = some y := by
      have := congrArg List.head? e
      rw [List.head?_drop] at this
      simpa using this
    have hlt : i < xs.length := (List.getElem?_eq_some_iff.mp hx).1
    have e2 : xs.drop (i + 1) = ys := by
      rw [← List.drop_drop, e]
      rfl
    exact hs i y en (forGo g tb N ys) hx hI fun en2 q => ih (i + 1) en2 e2 hlt q
theorem lcGo_ind {g : WG} {tt : WT} {te : WE} {vs : List Nat} {Q : List D → En → Prop} (xs : List D) (I : Nat → List D → En → Prop) {acc : List D} {en : En} (h0 : I 0 acc en)
    (hs : ∀ (i : Nat) (x : D) (acc : List D) (en : En) (J : List D → En → Prop), xs[i]? = some x → I i acc en → (∀ acc' en', I (i + 1) acc' en' → J acc' en') →
      g x en fun en1 => tt en1 (fun c en2 => if c = true then te en2 (fun y en3 => acc.length < 100000 ∧ J (acc ++ [y]) (wipeE en3 vs)) noE else J acc (wipeE en2 vs)) noE)
    (hd : ∀ acc en, I xs.length acc en → Q acc en) : lcGo g tt te vs Q xs acc en := by
  suffices h : ∀ (ys : List D) (i : Nat) (acc : List D) (en : En), xs.drop i = ys → i ≤ xs.length → I i acc en → lcGo g tt te vs Q ys acc en from h xs 0 acc en rfl (Nat.zero_le _) h0
  intro ys
  induction ys with
  | nil =>
    intro i acc en e hi hI
    have : i = xs.length := by
      have := congrArg List.length e
      rw [List.length_drop] at this
      simp at this
      omega
    subst this
    exact hd acc en hI
  | cons y ys ih =>
    intro i acc en e hi hI
    have hx : xs[i]? = some y := by
      have := congrArg List.head? e
      rw [List.head?_drop] at this
      simpa using this
    have hlt : i < xs.length := (List.getElem?_eq_some_iff.mp hx).1
    have e2 : xs.drop (i + 1) = ys := by
      rw [← List.drop_drop, e]
      rfl
    exact hs i y acc en (lcGo g tt te vs Q ys) hx hI fun acc2 en2 q => ih (i + 1) acc2 en2 e2 hlt q
/-! ### reprs -/
theorem shw_str {z : Str} (h : ∀ c ∈ z.cps.toList, c < 16 ^ 8) (hl : z.length ≤ 1000) : Shw 10002 0 (.str z) := ⟨rfl, rfl, Nat.le_refl _, by rw [PySem.PyData.shown_str]; have := PySem.StrLaws.reprText_len z h; omega⟩
theorem q_repr {x : D} {d : PyData} {Q : D → Prop} {n c : Nat} (e : x.pd = some d) (s : Shw n c d) (hn : n ≤ 1000000) (hc : c < 50) (k : Q (.str d.shown)) : oRepr [x] Q := by
  unfold oRepr
  show (match x.pd with | some d => d.showable = true ∧ d.hasDict = false ∧ d.depth < 50 ∧ d.shown.length ≤ 1000000 ∧ Q (.str d.shown) | none => False)
  rw [e]
  exact ⟨s.s, s.h, Nat.lt_of_le_of_lt s.d hc, Nat.le_trans s.l hn, k⟩
end KD

namespace KD
open PySem PySem.Spec PyProof.Rows L2 KP
def spLaw (K : PySem.W.Frag) : Sp := fun vs H Q _ => ∃ (a : Addr) (ns : List Int), vs = [.ref a] ∧ SqL K H a (ns.map V.int) ∧ ns.length ≤ 63 ∧ ∀ H', Q (.bl true) H'
section
variable {P : Program} {w : World} {K : PySem.W.Frag} {mg : Str → Option Value} {base : Heap}
theorem kx_is_integer (T : Tx K mg) : CalX P w K mg base 1 (He.ga K "is_integer") T.fd_is_integer P_is_integer (Pr K W_is_integer) := by
  refine ⟨?_, T.fn_is_integer.kp, FunD.bindsN T.fn_is_integer fun _ _ _ _ _ _ us hl => match us, hl with | [_], _ => rfl⟩
  rw [W_is_integer]
  refine def_ok (k := 0) T.fn_is_integer sc_is_integer fun cdv A outer s H E hr tk => ?_
  exact (ds_one (ds_ret (d_and (d_b call_isiD (by rfl) T.b_isinstance (by decide +kernel) (da_cons (dv 0) (da_cons (d_ty (by rfl) T.b_int PyProof.Rows.boot_int) da_nil))) (d_one (d_not (d_b call_isiD (by rfl) T.b_isinstance (by decide +kernel) (da_cons (dv 0) (da_cons (d_ty (by rfl) T.b_bool PyProof.Rows.boot_bool) da_nil))))))))
theorem kx_is_between (T : Tx K mg) : CalX P w K mg base 2 (He.ga K "is_between") T.fd_is_between P_is_between (Pr K W_is_between) := by
  have c_is_integer := kx_is_integer (P := P) (w := w) (base := base) T
  refine ⟨?_, T.fn_is_between.kp, FunD.bindsN T.fn_is_between fun _ _ _ _ _ _ us hl => match us, hl with | [_, _, _], _ => rfl⟩
  rw [W_is_between]
  refine def_ok (k := 1) T.fn_is_between sc_is_between fun cdv A outer s H E hr tk => ?_
  exact (ds_one (ds_ret (d_and (d_call c_is_integer.F (hr.mono (by decide)) (by rfl) T.g_is_integer c_is_integer.kp c_is_integer.b tk (da_cons (dv 0) da_nil)) (d_one (d_chain op_leD op_leD (dv 1) (dv 0) (dv 2))))))
theorem kx_need_count (T : Tx K mg) : CalX P w K mg base 3 (He.ga K "need_count") T.fd_need_count P_need_count (Pr K W_need_count) := by
  have c_is_between := kx_is_between (P := P) (w := w) (base := base) T
  obtain ⟨ds0, vd0, bd0⟩ := FunD.binds1 (ps := P_need_count) T.fn_need_count 2 1 (fun z => nomatch z) rfl fun _ _ _ _ _ _ _ us its h1 h2 => match us, its, h1, h2 with | [_, _], [_], _, _ => ⟨_, rfl, rfl⟩
  cases vd0
  refine ⟨?_, T.fn_need_count.kp, bd0⟩
  rw [W_need_count]
  refine def_ok (k := 2) T.fn_need_count sc_need_count fun cdv A outer s H E hr tk => ?_
  exact (ds_one (ds_if (dt_not (dt_bool (d_call c_is_between.F (hr.mono (by decide)) (by rfl) T.g_is_between c_is_between.kp c_is_between.b tk (da_cons (dv 0) (da_cons d_int (da_cons (dv 1) da_nil)))))) (ds_one ds_never) ds_nil))
theorem kx_need_post (T : Tx K mg) : CalX P w K mg base 3 (He.ga K "need_post") T.fd_need_post P_need_post (Pr K W_need_post) := by
  have c_is_between := kx_is_between (P := P) (w := w) (base := base) T
  refine ⟨?_, T.fn_need_post.kp, FunD.bindsN T.fn_need_post fun _ _ _ _ _ _ us hl => match us, hl with | [_], _ => rfl⟩
  rw [W_need_post]
  refine def_ok (k := 2) T.fn_need_post sc_need_post fun cdv A outer s H E hr tk => ?_
  exact (ds_one (ds_if (dt_not (dt_bool (d_call c_is_between.F (hr.mono (by decide)) (by rfl) T.g_is_between c_is_between.kp c_is_between.b tk (da_cons (dv 0) (da_cons (d_un un_negD (d_gI (by rfl) T.g_MAX_ARGUMENT)) (da_cons (d_gI (by rfl) T.g_MAX_ARGUMENT) da_nil)))))) (ds_one ds_never) ds_nil))
theorem kx_is_name (T : Tx K mg) : CalX P w K mg base 1 (He.ga K "is_name") T.fd_is_name P_is_name (Pr K W_is_name) := by
  refine ⟨?_, T.fn_is_name.kp, FunD.bindsN T.fn_is_name fun _ _ _ _ _ _ us hl => match us, hl with | [_], _ => rfl⟩
  rw [W_is_name]
  refine def_ok (k := 0) T.fn_is_name sc_is_name fun cdv A outer s H E hr tk => ?_
  exact (ds_cons (ds_cut (ds_if (PW.pt (dw_or (dt_not (dt_bool (d_b call_isiD (by rfl) T.b_isinstance (by decide +kernel) (da_cons (dv 0) (da_cons (d_ty (by rfl) T.b_str PyProof.Rows.boot_str) da_nil))))) (dw_or1 (dt_not (dt_chain op_leD op_leD d_int (d_lenV (pv 0) (by rfl) T.b_len) (d_gI (by rfl) T.g_MAX_NAME)))))) (ds_one (ds_ret d_bl)) ds_nil))
    (ds_one (ds_ret (d_b (call_allD rfl) (by rfl) T.b_all (by decide +kernel) (da_cons (DF.de (df_lc (pe_lc (own := [("letter", 1)]) rfl sc_is_name.nd (di_str (pi_str (dv 0))) (blkOk_by (own := [("letter", 1)]) (N := N_is_name) (sc := defScope s_is_name) (by decide +kernel)) (fun _ _ _ _ _ => (dg_name (pg_name (i := 1) sc_is_name.nd rfl (Or.inl rfl)))) (fun _ _ _ _ _ => dts_nil) (fun _ _ _ _ _ => (d_cmp (op_inD (hu_of hr)) (dv 1) (d_gS (by rfl) T.g_LETTERS)))))) da_nil)))))
theorem kx_Painter_init (T : Tx K mg) : CalX P w K mg base 3 (He.ma K (He.ga K "Painter") "__init__") T.fd_Painter_init P_Painter_init (PrI K "Painter" W_Painter_init) := by
  have c_is_name := kx_is_name (P := P) (w := w) (base := base) T
  have c_is_between := kx_is_between (P := P) (w := w) (base := base) T
  refine ⟨?_, T.fn_Painter_init.kp, FunD.bindsN T.fn_Painter_init fun _ _ _ _ _ _ us hl => match us, hl with | [_, _, _, _, _], _ => rfl⟩
  rw [W_Painter_init]
  refine init_ok (k := 2) T.fn_Painter_init sc_Painter_init fun cdv A outer s H E hr tk => ?_
  exact (ds_cons (ds_if (dt_not (dt_bool (d_call c_is_name.F (hr.mono (by decide)) (by rfl) T.g_is_name_names c_is_name.kp c_is_name.b tk (da_cons (dv 1) da_nil)))) (ds_one ds_never) ds_nil)
    (ds_cons (ds_if (dt_not (dt_bool (d_call c_is_between.F (hr.mono (by decide)) (by rfl) T.g_is_between c_is_between.kp c_is_between.b tk (da_cons (dv 2) (da_cons d_int (da_cons (d_conV (cn := "Painter") (pv 0) T.c_Painter T.o_Painter_MAX_DAY) da_nil)))))) (ds_one ds_never) ds_nil)
    (ds_cons (ds_if (dt_not (dt_bool (d_call c_is_between.F (hr.mono (by decide)) (by rfl) T.g_is_between c_is_between.kp c_is_between.b tk (da_cons (dv 3) (da_cons (d_un un_negD (d_conV (cn := "Painter") (pv 0) T.c_Painter T.o_Painter_MAX_POST)) (da_cons (d_conV (cn := "Painter") (pv 0) T.c_Painter T.o_Painter_MAX_POST) da_nil)))))) (ds_one ds_never) ds_nil)
    (ds_cons (ds_cut (ds_if (PW.pt (dw_or (dt_not (dt_bool (d_call c_is_between.F (hr.mono (by decide)) (by rfl) T.g_is_between c_is_between.kp c_is_between.b tk (da_cons (dv 4) (da_cons (d_un un_negD (d_conV (cn := "Painter") (pv 0) T.c_Painter T.o_Painter_MAX_STRIDE)) (da_cons (d_conV (cn := "Painter") (pv 0) T.c_Painter T.o_Painter_MAX_STRIDE) da_nil)))))) (dw_or1 (dt_cmp (op_eqDD hr.units) (dv 4) d_int)))) (ds_one ds_never) ds_nil))
    (ds_one (ds_fldC (cn := "Painter") (ps_fld (pv 0) (d_tup (da_cons (dv 1) (da_cons (dv 2) (da_cons (dv 3) (da_cons (dv 4) da_nil))))) rfl) T.c_Painter T.n_Painter_parts))))))
theorem kx_Painter_name (T : Tx K mg) : CalX P w K mg base 1 (pgA K (He.ga K "Painter") "name") T.fd_Painter_name P_Painter_name (Pr K W_Painter_name) := by
  refine ⟨?_, T.fn_Painter_name.kp, FunD.bindsN T.fn_Painter_name fun _ _ _ _ _ _ us hl => match us, hl with | [_], _ => rfl⟩
  rw [W_Painter_name]
  refine def_ok (k := 0) T.fn_Painter_name sc_Painter_name fun cdv A outer s H E hr tk => ?_
  exact (ds_one (ds_ret (d_ix (hu_of hr) (d_fldC (dv 0) T.c_Painter T.n_Painter_parts) d_int)))
theorem kx_Painter_day (T : Tx K mg) : CalX P w K mg base 1 (pgA K (He.ga K "Painter") "day") T.fd_Painter_day P_Painter_day (Pr K W_Painter_day) := by
  refine ⟨?_, T.fn_Painter_day.kp, FunD.bindsN T.fn_Painter_day fun _ _ _ _ _ _ us hl => match us, hl with | [_], _ => rfl⟩
  rw [W_Painter_day]
  refine def_ok (k := 0) T.fn_Painter_day sc_Painter_day fun cdv A outer s H E hr tk => ?_
  exact (ds_one (ds_ret (d_ix (hu_of hr) (d_fldC (dv 0) T.c_Painter T.n_Painter_parts) d_int)))
theorem kx_Painter_post (T : Tx K mg) : CalX P w K mg base 1 (pgA K (He.ga K "Painter") "post") T.fd_Painter_post P_Painter_post (Pr K W_Painter_post) := by
  refine ⟨?_, T.fn_Painter_post.kp, FunD.bindsN T.fn_Painter_post fun _ _ _ _ _ _ us hl => match us, hl with | [_], _ => rfl⟩
  rw [W_Painter_post]
  refine def_ok (k := 0) T.fn_Painter_post sc_Painter_post fun cdv A outer s H E hr tk => ?_
  exact (ds_one (ds_ret (d_ix (hu_of hr) (d_fldC (dv 0) T.c_Painter T.n_Painter_parts) d_int)))
theorem kx_Painter_stride (T : Tx K mg) : CalX P w K mg base 1 (pgA K (He.ga K "Painter") "stride") T.fd_Painter_stride P_Painter_stride (Pr K W_Painter_stride) := by
  refine ⟨?_, T.fn_Painter_stride.kp, FunD.bindsN T.fn_Painter_stride fun _ _ _ _ _ _ us hl => match us, hl with | [_], _ => rfl⟩
  rw [W_Painter_stride]
  refine def_ok (k := 0) T.fn_Painter_stride sc_Painter_stride fun cdv A outer s H E hr tk => ?_
  exact (ds_one (ds_ret (d_ix (hu_of hr) (d_fldC (dv 0) T.c_Painter T.n_Painter_parts) d_int)))
theorem kx_Painter_way (T : Tx K mg) : CalX P w K mg base 1 (pgA K (He.ga K "Painter") "way") T.fd_Painter_way P_Painter_way (Pr K W_Painter_way) := by
  refine ⟨?_, T.fn_Painter_way.kp, FunD.bindsN T.fn_Painter_way fun _ _ _ _ _ _ us hl => match us, hl with | [_], _ => rfl⟩
  rw [W_Painter_way]
  refine def_ok (k := 0) T.fn_Painter_way sc_Painter_way fun cdv A outer s H E hr tk => ?_
  exact (ds_one (ds_ret (d_sl (d_fldC (dv 0) T.c_Painter T.n_Painter_parts) (do_some d_int) do_none)))
theorem kx_Painter_post_after (T : Tx K mg) : CalX P w K mg base 4 (He.ma K (He.ga K "Painter") "post_after") T.fd_Painter_post_after P_Painter_post_after (Pr K W_Painter_post_after) := by
  have c_need_count := kx_need_count (P := P) (w := w) (base := base) T
  have c_Painter_post := kx_Painter_post (P := P) (w := w) (base := base) T
  have c_Painter_stride := kx_Painter_stride (P := P) (w := w) (base := base) T
  obtain ⟨ds_need_count, vd_need_count, bd_need_count⟩ := FunD.binds1 (ps := P_need_count) T.fn_need_count 1 0 (fun z => nomatch z) rfl fun _ _ _ _ _ _ _ us its h1 h2 => match us, its, h1, h2 with | [_], [_], _, _ => ⟨_, rfl, rfl⟩
  refine ⟨?_, T.fn_Painter_post_after.kp, FunD.bindsN T.fn_Painter_post_after fun _ _ _ _ _ _ us hl => match us, hl with | [_, _], _ => rfl⟩
  rw [W_Painter_post_after]
  refine def_ok (k := 3) T.fn_Painter_post_after sc_Painter_post_after fun cdv A outer s H E hr tk => ?_
  exact (ds_cons (ds_expr (ps_expr (d_callD c_need_count.F (hr.mono (by decide)) (by rfl) T.g_need_count c_need_count.kp bd_need_count vd_need_count (fun G => (.cons (.int _) .nil)) tk (da_cons (dv 1) da_nil))))
    (ds_one (ds_ret (d_op op_addD (d_prop (dv 0) T.c_Painter T.p_Painter_post c_Painter_post.F (hr.mono (by decide)) c_Painter_post.b) (d_op op_mulD (dv 1) (d_prop (dv 0) T.c_Painter T.p_Painter_stride c_Painter_stride.F (hr.mono (by decide)) c_Painter_stride.b))))))
theorem kx_Painter_count_at (T : Tx K mg) : CalX P w K mg base 4 (He.ma K (He.ga K "Painter") "count_at") T.fd_Painter_count_at P_Painter_count_at (Pr K W_Painter_count_at) := by
  have c_need_post := kx_need_post (P := P) (w := w) (base := base) T
  have c_Painter_stride := kx_Painter_stride (P := P) (w := w) (base := base) T
  have c_Painter_post := kx_Painter_post (P := P) (w := w) (base := base) T
  refine ⟨?_, T.fn_Painter_count_at.kp, FunD.bindsN T.fn_Painter_count_at fun _ _ _ _ _ _ us hl => match us, hl with | [_, _], _ => rfl⟩
  rw [W_Painter_count_at]
  refine def_ok (k := 3) T.fn_Painter_count_at sc_Painter_count_at fun cdv A outer s H E hr tk => ?_
  exact (ds_cons (ds_expr (ps_expr (d_call c_need_post.F (hr.mono (by decide)) (by rfl) T.g_need_post c_need_post.kp c_need_post.b tk (da_cons (dv 1) da_nil))))
    (ds_cons (ds_asg (ps_asg (d_b call_divmodD (by rfl) T.b_divmod (by decide +kernel) (da_cons (d_op op_subD (dv 1) (d_prop (dv 0) T.c_Painter T.p_Painter_post c_Painter_post.F (hr.mono (by decide)) c_Painter_post.b)) (da_cons (d_prop (dv 0) T.c_Painter T.p_Painter_stride c_Painter_stride.F (hr.mono (by decide)) c_Painter_stride.b) da_nil))) (dg_tup (pg_tup rfl (dgs_cons (pgs_cons (dg_name (pg_name (i := 2) sc_Painter_count_at.nd rfl (Or.inl rfl))) (dgs_cons (pgs_cons (dg_name (pg_name (i := 3) sc_Painter_count_at.nd rfl (Or.inl rfl))) dgs_nil))))))))
    (ds_one (ds_ret (d_if (PW.pt (dw_and (dt_cmp (op_eqDD hr.units) (dv 3) d_int) (dw_and1 (dt_cmp op_geD (dv 2) d_int)))) (dv 2) d_non)))))
theorem kx_Painter_add (T : Tx K mg) : CalX P w K mg base 5 (He.ma K (He.ga K "Painter") "__add__") T.fd_Painter_add P_Painter_add (Pr K W_Painter_add) := by
  have c_Painter_init := kx_Painter_init (P := P) (w := w) (base := base) T
  have c_Painter_stride := kx_Painter_stride (P := P) (w := w) (base := base) T
  have c_Painter_post := kx_Painter_post (P := P) (w := w) (base := base) T
  have c_Painter_day := kx_Painter_day (P := P) (w := w) (base := base) T
  have c_Painter_name := kx_Painter_name (P := P) (w := w) (base := base) T
  refine ⟨?_, T.fn_Painter_add.kp, FunD.bindsN T.fn_Painter_add fun _ _ _ _ _ _ us hl => match us, hl with | [_, _], _ => rfl⟩
  rw [W_Painter_add]
  refine def_ok (k := 4) T.fn_Painter_add sc_Painter_add fun cdv A outer s H E hr tk => ?_
  exact (ds_one (ds_ret (d_make T.k_Painter c_Painter_init.F (hr.mono (by decide)) (by rfl) T.g_Painter c_Painter_init.b tk (da_cons (d_prop (dv 0) T.c_Painter T.p_Painter_name c_Painter_name.F (hr.mono (by decide)) c_Painter_name.b) (da_cons (d_prop (dv 0) T.c_Painter T.p_Painter_day c_Painter_day.F (hr.mono (by decide)) c_Painter_day.b) (da_cons (d_op op_addD (d_prop (dv 0) T.c_Painter T.p_Painter_post c_Painter_post.F (hr.mono (by decide)) c_Painter_post.b) (dv 1)) (da_cons (d_prop (dv 0) T.c_Painter T.p_Painter_stride c_Painter_stride.F (hr.mono (by decide)) c_Painter_stride.b) da_nil)))))))
theorem kx_Painter_neg (T : Tx K mg) : CalX P w K mg base 5 (He.ma K (He.ga K "Painter") "__neg__") T.fd_Painter_neg P_Painter_neg (Pr K W_Painter_neg) := by
  have c_Painter_init := kx_Painter_init (P := P) (w := w) (base := base) T
  have c_Painter_stride := kx_Painter_stride (P := P) (w := w) (base := base) T
  have c_Painter_post := kx_Painter_post (P := P) (w := w) (base := base) T
  have c_Painter_day := kx_Painter_day (P := P) (w := w) (base := base) T
  have c_Painter_name := kx_Painter_name (P := P) (w := w) (base := base) T
  refine ⟨?_, T.fn_Painter_neg.kp, FunD.bindsN T.fn_Painter_neg fun _ _ _ _ _ _ us hl => match us, hl with | [_], _ => rfl⟩
  rw [W_Painter_neg]
  refine def_ok (k := 4) T.fn_Painter_neg sc_Painter_neg fun cdv A outer s H E hr tk => ?_
  exact (ds_one (ds_ret (d_make T.k_Painter c_Painter_init.F (hr.mono (by decide)) (by rfl) T.g_Painter c_Painter_init.b tk (da_cons (d_prop (dv 0) T.c_Painter T.p_Painter_name c_Painter_name.F (hr.mono (by decide)) c_Painter_name.b) (da_cons (d_prop (dv 0) T.c_Painter T.p_Painter_day c_Painter_day.F (hr.mono (by decide)) c_Painter_day.b) (da_cons (d_un un_negD (d_prop (dv 0) T.c_Painter T.p_Painter_post c_Painter_post.F (hr.mono (by decide)) c_Painter_post.b)) (da_cons (d_un un_negD (d_prop (dv 0) T.c_Painter T.p_Painter_stride c_Painter_stride.F (hr.mono (by decide)) c_Painter_stride.b)) da_nil)))))))
theorem kx_inverse (T : Tx K mg) : CalX P w K mg base 1 (He.ga K "inverse") T.fd_inverse P_inverse (Pr K W_inverse) := by
  refine ⟨?_, T.fn_inverse.kp, FunD.bindsN T.fn_inverse fun _ _ _ _ _ _ us hl => match us, hl with | [_, _], _ => rfl⟩
  rw [W_inverse]
  refine def_ok (k := 0) T.fn_inverse sc_inverse fun cdv A outer s H E hr tk => ?_
  exact (ds_cons (ds_asg (ps_asg (d_tup (da_cons (d_op op_modD (dv 0) (dv 1)) (da_cons (dv 1) (da_cons d_int (da_cons d_int da_nil))))) (dg_tup (pg_tup rfl (dgs_cons (pgs_cons (dg_name (pg_name (i := 2) sc_inverse.nd rfl (Or.inl rfl))) (dgs_cons (pgs_cons (dg_name (pg_name (i := 3) sc_inverse.nd rfl (Or.inl rfl))) (dgs_cons (pgs_cons (dg_name (pg_name (i := 4) sc_inverse.nd rfl (Or.inl rfl))) (dgs_cons (pgs_cons (dg_name (pg_name (i := 5) sc_inverse.nd rfl (Or.inl rfl))) dgs_nil))))))))))))
    (ds_cons (ds_while (ps_while (passes_of rfl) (dt_cmp (op_neDD hr.units) (dv 3) d_int)
    (ds_cons (ds_set (ps_set (i := 6) sc_inverse.nd rfl (Or.inl rfl) (d_op op_divD (dv 2) (dv 3))))
    (ds_cons (ds_parK2 (k1 := .e (eVar 3)) (k2 := .e (eOp oSub (eVar 2) (eOp oMul (eVar 6) (eVar 3)))) (ps_par (by rfl) sc_inverse.nd (i := 2) (j := 3) rfl rfl (by decide) rfl rfl (pa_cons (dv 3) (pa_cons (d_op op_subD (dv 2) (d_op op_mulD (dv 6) (dv 3))) pa_nil)) (by rfl)))
    (ds_one (ds_parK2 (k1 := .e (eVar 5)) (k2 := .e (eOp oSub (eVar 4) (eOp oMul (eVar 6) (eVar 5)))) (ps_par (by rfl) sc_inverse.nd (i := 4) (j := 5) rfl rfl (by decide) rfl rfl (pa_cons (dv 5) (pa_cons (d_op op_subD (dv 4) (d_op op_mulD (dv 6) (dv 5))) pa_nil)) (by rfl))))))))
    (ds_one (ds_ret (d_op op_modD (dv 4) (dv 1))))))
theorem kx_greatest_divisor (T : Tx K mg) : CalX P w K mg base 1 (He.ga K "greatest_divisor") T.fd_greatest_divisor P_greatest_divisor (Pr K W_greatest_divisor) := by
  refine ⟨?_, T.fn_greatest_divisor.kp, FunD.bindsN T.fn_greatest_divisor fun _ _ _ _ _ _ us hl => match us, hl with | [_, _], _ => rfl⟩
  rw [W_greatest_divisor]
  refine def_ok (k := 0) T.fn_greatest_divisor sc_greatest_divisor fun cdv A outer s H E hr tk => ?_
  exact (ds_cons (ds_parK2 (k1 := .e (eB oAbs (aCons (eVar 0) aNil))) (k2 := .e (eB oAbs (aCons (eVar 1) aNil))) (ps_par (by rfl) sc_greatest_divisor.nd (i := 0) (j := 1) rfl rfl (by decide) rfl rfl (pa_cons (d_b call_absD (by rfl) T.b_abs (by decide +kernel) (da_cons (dv 0) da_nil)) (pa_cons (d_b call_absD (by rfl) T.b_abs (by decide +kernel) (da_cons (dv 1) da_nil)) pa_nil)) (by rfl)))
    (ds_cons (ds_while (ps_while (passes_of rfl) (dt_cmp (op_neDD hr.units) (dv 1) d_int)
    (ds_one (ds_parK2 (k1 := .e (eVar 1)) (k2 := .e (eOp oMod (eVar 0) (eVar 1))) (ps_par (by rfl) sc_greatest_divisor.nd (i := 0) (j := 1) rfl rfl (by decide) rfl rfl (pa_cons (dv 1) (pa_cons (d_op op_modD (dv 0) (dv 1)) pa_nil)) (by rfl))))))
    (ds_one (ds_ret (dv 0)))))
theorem kx_least_fit (T : Tx K mg) : CalX P w K mg base 1 (He.ga K "least_fit") T.fd_least_fit P_least_fit (Pr K W_least_fit) := by
  refine ⟨?_, T.fn_least_fit.kp, FunD.bindsN T.fn_least_fit fun _ _ _ _ _ _ us hl => match us, hl with | [_], _ => rfl⟩
  rw [W_least_fit]
  refine def_ok (k := 0) T.fn_least_fit sc_least_fit fun cdv A outer s H E hr tk => ?_
  exact (ds_cons (ds_asg (ps_asg (d_tup (da_cons d_int (da_cons d_non da_nil))) (dg_tup (pg_tup rfl (dgs_cons (pgs_cons (dg_name (pg_name (i := 1) sc_least_fit.nd rfl (Or.inl rfl))) (dgs_cons (pgs_cons (dg_name (pg_name (i := 2) sc_least_fit.nd rfl (Or.inl rfl))) dgs_nil))))))))
    (ds_cons (ds_for (ps_for (passes_of rfl) rfl (di_list (pi_list (dv 0))) (dg_tup (pg_tup rfl (dgs_cons (pgs_cons (dg_name (pg_name (i := 3) sc_least_fit.nd rfl (Or.inl rfl))) (dgs_cons (pgs_cons (dg_name (pg_name (i := 4) sc_least_fit.nd rfl (Or.inl rfl))) dgs_nil))))))
    (ds_one (ds_if (dt_cmp op_gtD (dv 4) d_int) (ds_one (ds_set (ps_set (i := 1) sc_least_fit.nd rfl (Or.inl rfl) (d_b (call_maxD rfl) (by rfl) T.b_max (by decide +kernel) (da_cons (dv 1) (da_cons (d_un un_negD (d_op op_divD (dv 3) (dv 4))) da_nil)))))) (ds_one (ds_if (dt_cmp op_ltD (dv 4) d_int) (ds_cons (ds_set (ps_set (i := 5) sc_least_fit.nd rfl (Or.inl rfl) (d_op op_divD (dv 3) (d_un un_negD (dv 4)))))
    (ds_one (ds_set (ps_set (i := 2) sc_least_fit.nd rfl (Or.inl rfl) (d_cut (d_if (dt_cmp op_isD (dv 2) d_non) (dv 5) (d_b (call_minD rfl) (by rfl) T.b_min (by decide +kernel) (da_cons (dv 2) (da_cons (dv 5) da_nil))))))))) (ds_one (ds_if (dt_cmp op_ltD (dv 3) d_int) (ds_one (ds_ret (d_tup (da_cons d_int (da_cons d_int da_nil))))) ds_nil))))))))
    (ds_one (ds_ret (d_if (PW.pt (dw_or (dt_cmp op_isD (dv 2) d_non) (dw_or1 (dt_cmp op_leD (dv 1) (dv 2))))) (d_tup (da_cons (dv 1) (da_cons (dv 2) da_nil))) (d_tup (da_cons d_int (da_cons d_int da_nil))))))))
theorem kx_Crossing_init (T : Tx K mg) : CalX P w K mg base 2 (He.ma K (He.ga K "Crossing") "__init__") T.fd_Crossing_init P_Crossing_init (PrI K "Crossing" W_Crossing_init) := by
  have c_greatest_divisor := kx_greatest_divisor (P := P) (w := w) (base := base) T
  have c_inverse := kx_inverse (P := P) (w := w) (base := base) T
  refine ⟨?_, T.fn_Crossing_init.kp, FunD.bindsN T.fn_Crossing_init fun _ _ _ _ _ _ us hl => match us, hl with | [_, _, _], _ => rfl⟩
  rw [W_Crossing_init]
  refine init_ok (k := 1) T.fn_Crossing_init sc_Crossing_init fun cdv A outer s H E hr tk => ?_
  exact (ds_cons (ds_parK2 (k1 := .e (eIxN 1 (eK (.int 2)))) (k2 := .e (eIxN 2 (eK (.int 2)))) (ps_par (by rfl) sc_Crossing_init.nd (i := 3) (j := 4) rfl rfl (by decide) rfl rfl (pa_cons (d_ixN (hu_of hr) (pv 1) d_int) (pa_cons (d_ixN (hu_of hr) (pv 2) d_int) pa_nil)) (by rfl)))
    (ds_cons (ds_set (ps_set (i := 5) sc_Crossing_init.nd rfl (Or.inl rfl) (d_call c_greatest_divisor.F (hr.mono (by decide)) (by rfl) T.g_greatest_divisor c_greatest_divisor.kp c_greatest_divisor.b tk (da_cons (dv 3) (da_cons (dv 4) da_nil)))))
    (ds_cons (ds_asg (ps_asg (d_b call_divmodD (by rfl) T.b_divmod (by decide +kernel) (da_cons (d_op op_subD (d_ixN (hu_of hr) (pv 2) d_int) (d_ixN (hu_of hr) (pv 1) d_int)) (da_cons (dv 5) da_nil))) (dg_tup (pg_tup rfl (dgs_cons (pgs_cons (dg_name (pg_name (i := 6) sc_Crossing_init.nd rfl (Or.inl rfl))) (dgs_cons (pgs_cons (dg_name (pg_name (i := 7) sc_Crossing_init.nd rfl (Or.inl rfl))) dgs_nil))))))))
    (ds_cons (ds_fldC (cn := "Crossing") (ps_fld (pv 0) (dv 1) rfl) T.c_Crossing T.n_Crossing_one)
    (ds_cons (ds_fldC (cn := "Crossing") (ps_fld (pv 0) (dv 2) rfl) T.c_Crossing T.n_Crossing_other)
    (ds_cons (ds_fldC (cn := "Crossing") (ps_fld (pv 0) (d_cmp (op_neDD hr.units) (dv 7) d_int) rfl) T.c_Crossing T.n_Crossing_is_empty)
    (ds_cons (ds_fldC (cn := "Crossing") (ps_fld (pv 0) (d_op op_divD (d_b call_absD (by rfl) T.b_abs (by decide +kernel) (da_cons (dv 4) da_nil)) (dv 5)) rfl) T.c_Crossing T.n_Crossing_step)
    (ds_cons (ds_fldC (cn := "Crossing") (ps_fld (pv 0) (d_cut (d_if (dt_cmp op_gtD (dv 4) d_int) (d_op op_divD (dv 3) (dv 5)) (d_un un_negD (d_op op_divD (dv 3) (dv 5))))) rfl) T.c_Crossing T.n_Crossing_other_step)
    (ds_cons (ds_fldC (cn := "Crossing") (ps_fld (pv 0) (d_op op_modD (d_op op_mulD (dv 6) (d_call c_inverse.F (hr.mono (by decide)) (by rfl) T.g_inverse c_inverse.kp c_inverse.b tk (da_cons (d_op op_divD (dv 3) (dv 5)) (da_cons (d_fldV (cn := "Crossing") (pv 0) T.c_Crossing T.n_Crossing_step) da_nil)))) (d_fldV (cn := "Crossing") (pv 0) T.c_Crossing T.n_Crossing_step)) rfl) T.c_Crossing T.n_Crossing_start)
    (ds_one (ds_fldC (cn := "Crossing") (ps_fld (pv 0) (d_op op_divD (d_op op_subD (d_op op_addD (d_ixN (hu_of hr) (pv 1) d_int) (d_op op_mulD (d_fldV (cn := "Crossing") (pv 0) T.c_Crossing T.n_Crossing_start) (dv 3))) (d_ixN (hu_of hr) (pv 2) d_int)) (dv 4)) rfl) T.c_Crossing T.n_Crossing_other_start)))))))))))
theorem kx_Crossing_number (T : Tx K mg) : CalX P w K mg base 1 (He.ma K (He.ga K "Crossing") "number") T.fd_Crossing_number P_Crossing_number (Pr K W_Crossing_number) := by
  refine ⟨?_, T.fn_Crossing_number.kp, FunD.bindsN T.fn_Crossing_number fun _ _ _ _ _ _ us hl => match us, hl with | [_, _], _ => rfl⟩
  rw [W_Crossing_number]
  refine def_ok (k := 0) T.fn_Crossing_number sc_Crossing_number fun cdv A outer s H E hr tk => ?_
  exact (ds_one (ds_ret (d_op op_addD (d_fldC (dv 0) T.c_Crossing T.n_Crossing_start) (d_op op_mulD (dv 1) (d_fldC (dv 0) T.c_Crossing T.n_Crossing_step)))))
theorem kx_Crossing_common_post (T : Tx K mg) : CalX P w K mg base 2 (He.ma K (He.ga K "Crossing") "common_post") T.fd_Crossing_common_post P_Crossing_common_post (Pr K W_Crossing_common_post) := by
  have c_Crossing_number := kx_Crossing_number (P := P) (w := w) (base := base) T
  refine ⟨?_, T.fn_Crossing_common_post.kp, FunD.bindsN T.fn_Crossing_common_post fun _ _ _ _ _ _ us hl => match us, hl with | [_, _], _ => rfl⟩
  rw [W_Crossing_common_post]
  refine def_ok (k := 1) T.fn_Crossing_common_post sc_Crossing_common_post fun cdv A outer s H E hr tk => ?_
  exact (ds_one (ds_ret (d_op op_addD (d_ix (hu_of hr) (d_fldC (dv 0) T.c_Crossing T.n_Crossing_one) d_int) (d_op op_mulD (d_meth (dv 0) T.c_Crossing T.m_Crossing_number c_Crossing_number.F (hr.mono (by decide)) c_Crossing_number.b .nil (fun _ => .nil) tk (da_cons (dv 1) da_nil)) (d_ix (hu_of hr) (d_fldC (dv 0) T.c_Crossing T.n_Crossing_one) d_int)))))
theorem kx_Crossing_bounds (T : Tx K mg) : CalX P w K mg base 2 (He.ma K (He.ga K "Crossing") "bounds") T.fd_Crossing_bounds P_Crossing_bounds (Pr K W_Crossing_bounds) := by
  have c_least_fit := kx_least_fit (P := P) (w := w) (base := base) T
  obtain ⟨ds0, vd0, bd0⟩ := FunD.binds1 (ps := P_Crossing_bounds) T.fn_Crossing_bounds 2 1 (fun z => nomatch z) rfl fun _ _ _ _ _ _ _ us its h1 h2 => match us, its, h1, h2 with | [_, _], [_], _, _ => ⟨_, rfl, rfl⟩
  cases vd0
  refine ⟨?_, T.fn_Crossing_bounds.kp, bd0⟩
  rw [W_Crossing_bounds]
  refine def_ok (k := 1) T.fn_Crossing_bounds sc_Crossing_bounds fun cdv A outer s H E hr tk => ?_
  exact (ds_cons (ds_if (dt_bool (d_fldC (dv 0) T.c_Crossing T.n_Crossing_is_empty)) (ds_one (ds_ret (d_tup (da_cons d_int (da_cons d_int da_nil))))) ds_nil)
    (ds_one (ds_ret (d_call c_least_fit.F (hr.mono (by decide)) (by rfl) T.g_least_fit c_least_fit.kp c_least_fit.b tk (da_cons (d_lst (da_cons (d_tup (da_cons (d_fldC (dv 0) T.c_Crossing T.n_Crossing_other_start) (da_cons (d_fldC (dv 0) T.c_Crossing T.n_Crossing_other_step) da_nil))) (da_star (dv 1) da_nil))) da_nil)))))
theorem kx_Crossing_first_block (T : Tx K mg) : CalX P w K mg base 3 (He.ma K (He.ga K "Crossing") "first_block") T.fd_Crossing_first_block P_Crossing_first_block (Pr K W_Crossing_first_block) := by
  have c_Crossing_bounds := kx_Crossing_bounds (P := P) (w := w) (base := base) T
  have c_Crossing_number := kx_Crossing_number (P := P) (w := w) (base := base) T
  refine ⟨?_, T.fn_Crossing_first_block.kp, FunD.bindsN T.fn_Crossing_first_block fun _ _ _ _ _ _ us hl => match us, hl with | [_, _, _], _ => rfl⟩
  rw [W_Crossing_first_block]
  refine def_ok (k := 2) T.fn_Crossing_first_block sc_Crossing_first_block fun cdv A outer s H E hr tk => ?_
  exact (ds_cons (ds_set (ps_set (i := 3) sc_Crossing_first_block.nd rfl (Or.inl rfl) (d_op op_subD (d_op op_subD (d_op op_subD (d_op op_addD (d_ix (hu_of hr) (d_fldC (dv 0) T.c_Crossing T.n_Crossing_one) d_int) (d_fldC (dv 0) T.c_Crossing T.n_Crossing_start)) (d_ix (hu_of hr) (d_fldC (dv 0) T.c_Crossing T.n_Crossing_other) d_int)) (d_fldC (dv 0) T.c_Crossing T.n_Crossing_other_start)) (d_bT call_intD (by rfl) T.b_int (by decide +kernel) (da_cons (d_not (dv 2)) da_nil)))))
    (ds_cons (ds_setF (ps_set (i := 4) sc_Crossing_first_block.nd rfl (Or.inl rfl) (df_lst (da_cons (d_tup (da_cons (dv 3) (da_cons (d_op op_subD (d_fldC (dv 0) T.c_Crossing T.n_Crossing_step) (d_fldC (dv 0) T.c_Crossing T.n_Crossing_other_step)) da_nil))) da_nil))))
    (ds_cons (ds_cut (ds_if (dt_cmp op_isNotD (dv 1) d_non) (ds_one (ds_app (ps_expr (pe_bm PySem.F.plainAttrs_list PySem.F.slot_list_append PySem.F.type_list_append mt_append (pv 4) (pa_cons (d_tup (da_cons (d_op op_subD (d_op op_subD (dv 1) d_int) (d_fldC (dv 0) T.c_Crossing T.n_Crossing_other_start)) (da_cons (d_un un_negD (d_fldC (dv 0) T.c_Crossing T.n_Crossing_other_step)) da_nil))) pa_nil))))) ds_nil))
    (ds_cons (ds_asg (ps_asg (d_meth (dv 0) T.c_Crossing T.m_Crossing_bounds c_Crossing_bounds.F (hr.mono (by decide)) c_Crossing_bounds.b .nil (fun _ => .nil) tk (da_cons (dv 4) da_nil)) (dg_tup (pg_tup rfl (dgs_cons (pgs_cons (dg_name (pg_name (i := 5) sc_Crossing_first_block.nd rfl (Or.inl rfl))) (dgs_cons (pgs_cons (dg_name (pg_name (i := 6) sc_Crossing_first_block.nd rfl (Or.inl rfl))) dgs_nil))))))))
    (ds_one (ds_ret (d_if (PW.pt (dw_or (dt_cmp op_isD (dv 6) d_non) (dw_or1 (dt_cmp op_leD (dv 5) (dv 6))))) (d_meth (dv 0) T.c_Crossing T.m_Crossing_number c_Crossing_number.F (hr.mono (by decide)) c_Crossing_number.b .nil (fun _ => .nil) tk (da_cons (dv 5) da_nil)) d_non)))))))
theorem kx_common_posts (T : Tx K mg) : CalX P w K mg base 4 (He.ga K "common_posts") T.fd_common_posts P_common_posts (Pr K W_common_posts) := by
  have c_Crossing_init := kx_Crossing_init (P := P) (w := w) (base := base) T
  have c_Painter_way := kx_Painter_way (P := P) (w := w) (base := base) T
  have c_Crossing_bounds := kx_Crossing_bounds (P := P) (w := w) (base := base) T
  have c_Crossing_common_post := kx_Crossing_common_post (P := P) (w := w) (base := base) T
  have c_Painter_stride := kx_Painter_stride (P := P) (w := w) (base := base) T
  obtain ⟨ds_Crossing_bounds, vd_Crossing_bounds, bd_Crossing_bounds⟩ := FunD.binds1 (ps := P_Crossing_bounds) T.fn_Crossing_bounds 1 0 (fun z => nomatch z) rfl fun _ _ _ _ _ _ _ us its h1 h2 => match us, its, h1, h2 with | [_], [_], _, _ => ⟨_, rfl, rfl⟩
  refine ⟨?_, T.fn_common_posts.kp, FunD.bindsN T.fn_common_posts fun _ _ _ _ _ _ us hl => match us, hl with | [_, _], _ => rfl⟩
  rw [W_common_posts]
  refine def_ok (k := 3) T.fn_common_posts sc_common_posts fun cdv A outer s H E hr tk => ?_
  exact (ds_cons (ds_set (ps_set (i := 2) sc_common_posts.nd rfl (Or.inl rfl) (d_make T.k_Crossing c_Crossing_init.F (hr.mono (by decide)) (by rfl) T.g_Crossing c_Crossing_init.b tk (da_cons (d_prop (dv 0) T.c_Painter T.p_Painter_way c_Painter_way.F (hr.mono (by decide)) c_Painter_way.b) (da_cons (d_prop (dv 1) T.c_Painter T.p_Painter_way c_Painter_way.F (hr.mono (by decide)) c_Painter_way.b) da_nil)))))
    (ds_cons (ds_asg (ps_asg (d_meth0 (dv 2) T.c_Crossing T.m_Crossing_bounds c_Crossing_bounds.F (hr.mono (by decide)) bd_Crossing_bounds vd_Crossing_bounds (fun G => (.cons (.tup (T.t_bounds G) .nil) .nil)) tk) (dg_tup (pg_tup rfl (dgs_cons (pgs_cons (dg_name (pg_name (i := 3) sc_common_posts.nd rfl (Or.inl rfl))) (dgs_cons (pgs_cons (dg_name (pg_name (i := 4) sc_common_posts.nd rfl (Or.inl rfl))) dgs_nil))))))))
    (ds_cons (ds_cut (ds_if (PW.pt (dw_and (dt_cmp op_isNotD (dv 4) d_non) (dw_and1 (dt_cmp op_gtD (dv 3) (dv 4))))) (ds_one (ds_ret d_non)) ds_nil))
    (ds_cons (ds_set (ps_set (i := 5) sc_common_posts.nd rfl (Or.inl rfl) (d_cut (d_if (dt_cmp op_isD (dv 4) d_non) d_non (d_meth (dv 2) T.c_Crossing T.m_Crossing_common_post c_Crossing_common_post.F (hr.mono (by decide)) c_Crossing_common_post.b .nil (fun _ => .nil) tk (da_cons (dv 4) da_nil))))))
    (ds_one (ds_ret (d_tup (da_cons (d_meth (dv 2) T.c_Crossing T.m_Crossing_common_post c_Crossing_common_post.F (hr.mono (by decide)) c_Crossing_common_post.b .nil (fun _ => .nil) tk (da_cons (dv 3) da_nil)) (da_cons (dv 5) (da_cons (d_op op_mulD (d_b call_absD (by rfl) T.b_abs (by decide +kernel) (da_cons (d_prop (dv 0) T.c_Painter T.p_Painter_stride c_Painter_stride.F (hr.mono (by decide)) c_Painter_stride.b) da_nil)) (d_fldC (dv 2) T.c_Crossing T.n_Crossing_step)) da_nil))))))))))
theorem kx_first_block (T : Tx K mg) : CalK P w K mg base 4 (He.ga K "first_block") T.fd_first_block P_first_block (Pr K W_first_block) := by
  have c_need_count := kx_need_count (P := P) (w := w) (base := base) T
  have c_Crossing_init := kx_Crossing_init (P := P) (w := w) (base := base) T
  have c_Painter_way := kx_Painter_way (P := P) (w := w) (base := base) T
  have c_Crossing_first_block := kx_Crossing_first_block (P := P) (w := w) (base := base) T
  obtain ⟨ds_need_count, vd_need_count, bd_need_count⟩ := FunD.binds1 (ps := P_need_count) T.fn_need_count 1 0 (fun z => nomatch z) rfl fun _ _ _ _ _ _ _ us its h1 h2 => match us, its, h1, h2 with | [_], [_], _, _ => ⟨_, rfl, rfl⟩
  refine ⟨?_, T.fn_first_block.kp⟩
  rw [W_first_block]
  refine def_ok (k := 3) T.fn_first_block sc_first_block fun cdv A outer s H E hr tk => ?_
  exact (ds_cons (ds_cut (ds_if (dt_cmp op_isNotD (dv 2) d_non) (ds_one (ds_expr (ps_expr (d_callD c_need_count.F (hr.mono (by decide)) (by rfl) T.g_need_count c_need_count.kp bd_need_count vd_need_count (fun G => (.cons (.int _) .nil)) tk (da_cons (dv 2) da_nil))))) ds_nil))
    (ds_one (ds_ret (d_meth (d_make T.k_Crossing c_Crossing_init.F (hr.mono (by decide)) (by rfl) T.g_Crossing c_Crossing_init.b tk (da_cons (d_prop (dv 0) T.c_Painter T.p_Painter_way c_Painter_way.F (hr.mono (by decide)) c_Painter_way.b) (da_cons (d_prop (dv 1) T.c_Painter T.p_Painter_way c_Painter_way.F (hr.mono (by decide)) c_Painter_way.b) da_nil))) T.c_Crossing T.m_Crossing_first_block c_Crossing_first_block.F (hr.mono (by decide)) c_Crossing_first_block.b .nil (fun _ => .nil) tk (da_cons (dv 2) (da_cons (dv 3) da_nil))))))
theorem kx_made (T : Tx K mg) : CalX P w K mg base 5 (He.ga K "_law_made") T.fd_made P_made (Pr K W_made) := by
  have c_Painter_init := kx_Painter_init (P := P) (w := w) (base := base) T
  refine ⟨?_, T.fn_made.kp, FunD.bindsN T.fn_made fun _ _ _ _ _ _ us hl => match us, hl with | [_], _ => rfl⟩
  rw [W_made]
  refine def_ok (k := 4) T.fn_made sc_made fun cdv A outer s H E hr tk => ?_
  exact (ds_cons (ds_asg (ps_asg (dv 0) (dg_tup (pg_tup rfl (dgs_cons (pgs_cons (dg_name (pg_name (i := 1) sc_made.nd rfl (Or.inl rfl))) (dgs_cons (pgs_cons (dg_name (pg_name (i := 2) sc_made.nd rfl (Or.inl rfl))) (dgs_cons (pgs_cons (dg_name (pg_name (i := 3) sc_made.nd rfl (Or.inl rfl))) (dgs_cons (pgs_cons (dg_name (pg_name (i := 4) sc_made.nd rfl (Or.inl rfl))) dgs_nil))))))))))))
    (ds_one (ds_ret (d_make T.k_Painter c_Painter_init.F (hr.mono (by decide)) (by rfl) T.g_Painter c_Painter_init.b tk (da_cons (dv 1) (da_cons (dv 2) (da_cons (dv 3) (da_cons (dv 4) da_nil))))))))
theorem kx_duo (T : Tx K mg) : CalX P w K mg base 16 (He.ga K "_law_duo") T.fd_duo P_duo (Pr K W_duo) := by
  have c_names := kx_names (P := P) (w := w) (base := base) T
  have c_pick := kx_pick (P := P) (w := w) (base := base) T
  have c_draw := kx_draw (P := P) (w := w) (base := base) T
  have c_around := kx_around (P := P) (w := w) (base := base) T
  refine ⟨?_, T.fn_duo.kp, FunD.bindsN T.fn_duo fun _ _ _ _ _ _ us hl => match us, hl with | [_], _ => rfl⟩
  rw [W_duo]
  refine def_ok (k := 15) T.fn_duo sc_duo fun cdv A outer s H E hr tk => ?_
  exact (ds_cons (ds_parK2 (k1 := .e (eCall W_names (aPen 0 (aCons (eK (.int 2)) aNil)))) (k2 := .f (fLst aNil)) (ps_par (by rfl) sc_duo.nd (i := 1) (j := 2) rfl rfl (by decide) rfl rfl (pa_cons (d_call c_names.F (hr.mono (by decide)) (by rfl) T.g_names c_names.kp c_names.b tk (da_pen (pv 0) (da_cons d_int da_nil))) (pa_cons (df_lst da_nil) pa_nil)) (by rfl)))
    (ds_cons (ds_for (ps_for (passes_of rfl) rfl (di_r1 (pi_range1 (by rfl) T.b_range (da_cons d_int da_nil))) (dg_name (pg_name (i := 3) sc_duo.nd rfl (Or.inl rfl)))
    (ds_cons (ds_set (ps_set (i := 4) sc_duo.nd rfl (Or.inl rfl) (d_op op_mulD (d_op op_addD d_int (d_call c_pick.F (hr.mono (by decide)) (by rfl) T.g_pick c_pick.kp c_pick.b tk (da_pen (pv 0) (da_cons (d_lst (da_cons (d_call c_draw.F (hr.mono (by decide)) (by rfl) T.g_draw c_draw.kp c_draw.b tk (da_pen (pv 0) (da_cons d_int da_nil))) (da_cons (d_call c_draw.F (hr.mono (by decide)) (by rfl) T.g_draw c_draw.kp c_draw.b tk (da_pen (pv 0) (da_cons d_int da_nil))) da_nil))) da_nil)))) (d_call c_pick.F (hr.mono (by decide)) (by rfl) T.g_pick c_pick.kp c_pick.b tk (da_pen (pv 0) (da_cons (d_lst (da_cons d_int (da_cons (d_un un_negD d_int) da_nil))) da_nil))))))
    (ds_one (ds_app (ps_expr (pe_bm PySem.F.plainAttrs_list PySem.F.slot_list_append PySem.F.type_list_append mt_append (pv 2) (pa_cons (d_tup (da_cons (d_ixN (hu_of hr) (pv 1) (dv 3)) (da_cons (d_call c_draw.F (hr.mono (by decide)) (by rfl) T.g_draw c_draw.kp c_draw.b tk (da_pen (pv 0) (da_cons d_int da_nil))) (da_cons (d_call c_around.F (hr.mono (by decide)) (by rfl) T.g_around c_around.kp c_around.b tk (da_pen (pv 0) (da_cons d_int da_nil))) (da_cons (dv 4) da_nil))))) pa_nil))))))))
    (ds_cons (ds_cut (ds_if (dt_cmp (op_eqDD hr.units) (d_call c_draw.F (hr.mono (by decide)) (by rfl) T.g_draw c_draw.kp c_draw.b tk (da_pen (pv 0) (da_cons d_int da_nil))) d_int) (ds_one (ds_putL (ps_asg (d_op op_addD (d_tup (da_cons (d_ixN (hu_of hr) (pv 1) d_int) (da_cons (d_call c_pick.F (hr.mono (by decide)) (by rfl) T.g_pick c_pick.kp c_pick.b tk (da_pen (pv 0) (da_cons (d_lst (da_cons (d_ix (hu_of hr) (d_ixN (hu_of hr) (pv 2) d_int) d_int) (da_cons (d_ix (hu_of hr) (d_ixN (hu_of hr) (pv 2) d_int) d_int) da_nil))) da_nil))) da_nil))) (d_sl (d_ixN (hu_of hr) (pv 2) d_int) (do_some d_int) do_none)) (pg_sub (pv 2) d_int set_list)))) ds_nil))
    (ds_one (ds_ret (dv 2))))))
theorem kx_great_duo (T : Tx K mg) : CalX P w K mg base 16 (He.ga K "_law_great_duo") T.fd_great_duo P_great_duo (Pr K W_great_duo) := by
  have c_names := kx_names (P := P) (w := w) (base := base) T
  have c_great := kx_great (P := P) (w := w) (base := base) T
  have c_pick := kx_pick (P := P) (w := w) (base := base) T
  have c_draw := kx_draw (P := P) (w := w) (base := base) T
  refine ⟨?_, T.fn_great_duo.kp, FunD.bindsN T.fn_great_duo fun _ _ _ _ _ _ us hl => match us, hl with | [_], _ => rfl⟩
  rw [W_great_duo]
  refine def_ok (k := 15) T.fn_great_duo sc_great_duo fun cdv A outer s H E hr tk => ?_
  exact (ds_cons (ds_parK3 (k1 := .e (eCall W_names (aPen 0 (aCons (eK (.int 2)) aNil)))) (k2 := .e (eOp oMul (eCall W_great (aPen 0 (aCons (eK (.int 28)) aNil))) (eCall W_pick (aPen 0 (aCons (eLst (aCons (eK (.int 1)) (aCons (eUn oNeg (eK (.int 1))) aNil))) aNil))))) (k3 := .f (fLst aNil)) (ps_par3 (by rfl) sc_great_duo.nd (i := 1) (j := 2) (l := 3) rfl rfl rfl (by decide) (by decide) (by decide) rfl rfl rfl (pa_cons (d_call c_names.F (hr.mono (by decide)) (by rfl) T.g_names c_names.kp c_names.b tk (da_pen (pv 0) (da_cons d_int da_nil))) (pa_cons (d_op op_mulD (d_call c_great.F (hr.mono (by decide)) (by rfl) T.g_great c_great.kp c_great.b tk (da_pen (pv 0) (da_cons d_int da_nil))) (d_call c_pick.F (hr.mono (by decide)) (by rfl) T.g_pick c_pick.kp c_pick.b tk (da_pen (pv 0) (da_cons (d_lst (da_cons d_int (da_cons (d_un un_negD d_int) da_nil))) da_nil)))) (pa_cons (df_lst da_nil) pa_nil))) (by rfl)))
    (ds_cons (ds_parK2 (k1 := .e (eOp oAdd (eK (.int 1)) (eCall W_pick (aPen 0 (aCons (eLst (aCons (eCall W_draw (aPen 0 (aCons (eK (.int 9)) aNil))) (aCons (eCall W_great (aPen 0 (aCons (eK (.int 9)) aNil))) aNil))) aNil))))) (k2 := .e (eOp oAdd (eK (.int 1000000000000)) (eCall W_great (aPen 0 (aCons (eK (.int 29)) aNil))))) (ps_par (by rfl) sc_great_duo.nd (i := 4) (j := 5) rfl rfl (by decide) rfl rfl (pa_cons (d_op op_addD d_int (d_call c_pick.F (hr.mono (by decide)) (by rfl) T.g_pick c_pick.kp c_pick.b tk (da_pen (pv 0) (da_cons (d_lst (da_cons (d_call c_draw.F (hr.mono (by decide)) (by rfl) T.g_draw c_draw.kp c_draw.b tk (da_pen (pv 0) (da_cons d_int da_nil))) (da_cons (d_call c_great.F (hr.mono (by decide)) (by rfl) T.g_great c_great.kp c_great.b tk (da_pen (pv 0) (da_cons d_int da_nil))) da_nil))) da_nil)))) (pa_cons (d_op op_addD (d_pow (c := 1000000000000) (by decide) (by decide +kernel)) (d_call c_great.F (hr.mono (by decide)) (by rfl) T.g_great c_great.kp c_great.b tk (da_pen (pv 0) (da_cons d_int da_nil)))) pa_nil)) (by rfl)))
    (ds_cons (ds_for (ps_for (passes_of rfl) rfl (di_r1 (pi_range1 (by rfl) T.b_range (da_cons d_int da_nil))) (dg_name (pg_name (i := 6) sc_great_duo.nd rfl (Or.inl rfl)))
    (ds_cons (ds_set (ps_set (i := 7) sc_great_duo.nd rfl (Or.inl rfl) (d_op op_mulD (d_op op_mulD (dv 4) (d_op op_addD d_int (d_call c_pick.F (hr.mono (by decide)) (by rfl) T.g_pick c_pick.kp c_pick.b tk (da_pen (pv 0) (da_cons (d_lst (da_cons (d_call c_draw.F (hr.mono (by decide)) (by rfl) T.g_draw c_draw.kp c_draw.b tk (da_pen (pv 0) (da_cons d_int da_nil))) (da_cons (d_call c_great.F (hr.mono (by decide)) (by rfl) T.g_great c_great.kp c_great.b tk (da_pen (pv 0) (da_cons d_int da_nil))) da_nil))) da_nil))))) (d_call c_pick.F (hr.mono (by decide)) (by rfl) T.g_pick c_pick.kp c_pick.b tk (da_pen (pv 0) (da_cons (d_lst (da_cons d_int (da_cons (d_un un_negD d_int) da_nil))) da_nil))))))
    (ds_cons (ds_set (ps_set (i := 8) sc_great_duo.nd rfl (Or.inl rfl) (d_call c_pick.F (hr.mono (by decide)) (by rfl) T.g_pick c_pick.kp c_pick.b tk (da_pen (pv 0) (da_cons (d_lst (da_cons (d_call c_draw.F (hr.mono (by decide)) (by rfl) T.g_draw c_draw.kp c_draw.b tk (da_pen (pv 0) (da_cons d_int da_nil))) (da_cons (d_call c_great.F (hr.mono (by decide)) (by rfl) T.g_great c_great.kp c_great.b tk (da_pen (pv 0) (da_cons d_int da_nil))) da_nil))) da_nil)))))
    (ds_cons (ds_set (ps_set (i := 9) sc_great_duo.nd rfl (Or.inl rfl) (d_op op_subD (d_op op_addD (dv 5) (d_call c_pick.F (hr.mono (by decide)) (by rfl) T.g_pick c_pick.kp c_pick.b tk (da_pen (pv 0) (da_cons (d_lst (da_cons d_int (da_cons (d_call c_draw.F (hr.mono (by decide)) (by rfl) T.g_draw c_draw.kp c_draw.b tk (da_pen (pv 0) (da_cons d_int da_nil))) (da_cons (d_call c_great.F (hr.mono (by decide)) (by rfl) T.g_great c_great.kp c_great.b tk (da_pen (pv 0) (da_cons d_int da_nil))) da_nil)))) da_nil)))) (dv 8))))
    (ds_one (ds_app (ps_expr (pe_bm PySem.F.plainAttrs_list PySem.F.slot_list_append PySem.F.type_list_append mt_append (pv 3) (pa_cons (d_tup (da_cons (d_ixN (hu_of hr) (pv 1) (dv 6)) (da_cons (dv 9) (da_cons (d_op op_subD (dv 2) (d_op op_mulD (dv 8) (dv 7))) (da_cons (dv 7) da_nil))))) pa_nil))))))))))
    (ds_cons (ds_cut (ds_if (dt_cmp (op_eqDD hr.units) (d_call c_draw.F (hr.mono (by decide)) (by rfl) T.g_draw c_draw.kp c_draw.b tk (da_pen (pv 0) (da_cons d_int da_nil))) d_int) (ds_one (ds_putL (ps_asg (d_op op_addD (d_op op_addD (d_sl (d_ixN (hu_of hr) (pv 3) d_int) do_none (do_some d_int)) (d_tup (da_cons (d_op op_addD (d_op op_addD (d_ix (hu_of hr) (d_ixN (hu_of hr) (pv 3) d_int) d_int) d_int) (d_call c_draw.F (hr.mono (by decide)) (by rfl) T.g_draw c_draw.kp c_draw.b tk (da_pen (pv 0) (da_cons d_int da_nil)))) da_nil))) (d_sl (d_ixN (hu_of hr) (pv 3) d_int) (do_some d_int) do_none)) (pg_sub (pv 3) d_int set_list)))) ds_nil))
    (ds_one (ds_ret (d_tup (da_cons (d_ixN (hu_of hr) (pv 3) d_int) (da_cons (d_ixN (hu_of hr) (pv 3) d_int) (da_cons (dv 2) da_nil))))))))))
theorem kx_turned (T : Tx K mg) : CalX P w K mg base 1 (He.ga K "_law_turned") T.fd_turned P_turned (Pr K W_turned) := by
  refine ⟨?_, T.fn_turned.kp, FunD.bindsN T.fn_turned fun _ _ _ _ _ _ us hl => match us, hl with | [_, _, _], _ => rfl⟩
  rw [W_turned]
  refine def_ok (k := 0) T.fn_turned sc_turned fun cdv A outer s H E hr tk => ?_
  exact (ds_cons (ds_if (dt_cmp op_isD (dv 0) d_non) (ds_one (ds_ret d_non)) ds_nil)
    (ds_one (ds_ret (d_tup (da_cons (d_op op_addD (dv 1) (d_op op_mulD (dv 2) (d_ixN (hu_of hr) (pv 0) d_int))) (da_cons (d_cut (d_if (dt_cmp op_isD (d_ixN (hu_of hr) (pv 0) d_int) d_non) d_non (d_op op_addD (dv 1) (d_op op_mulD (dv 2) (d_ixN (hu_of hr) (pv 0) d_int))))) (da_cons (d_ixN (hu_of hr) (pv 0) d_int) da_nil)))))))
theorem kx_posts_right (T : Tx K mg) : CalX P w K mg base 6 (He.ga K "_law_posts_right") T.fd_posts_right P_posts_right (Pr K W_posts_right) := by
  have c_common_posts := kx_common_posts (P := P) (w := w) (base := base) T
  have c_Painter_add := kx_Painter_add (P := P) (w := w) (base := base) T
  have c_turned := kx_turned (P := P) (w := w) (base := base) T
  have c_Painter_neg := kx_Painter_neg (P := P) (w := w) (base := base) T
  refine ⟨?_, T.fn_posts_right.kp, FunD.bindsN T.fn_posts_right fun _ _ _ _ _ _ us hl => match us, hl with | [_, _, _], _ => rfl⟩
  rw [W_posts_right]
  refine def_ok (k := 5) T.fn_posts_right sc_posts_right fun cdv A outer s H E hr tk => ?_
  exact (ds_cons (ds_parK2 (k1 := .e (eCall W_common_posts (aCons (eVar 0) (aCons (eVar 1) aNil)))) (k2 := .e (eCall W_common_posts (aCons (eVar 1) (aCons (eVar 0) aNil)))) (ps_par (by rfl) sc_posts_right.nd (i := 3) (j := 4) rfl rfl (by decide) rfl rfl (pa_cons (d_call c_common_posts.F (hr.mono (by decide)) (by rfl) T.g_common_posts c_common_posts.kp c_common_posts.b tk (da_cons (dv 0) (da_cons (dv 1) da_nil))) (pa_cons (d_call c_common_posts.F (hr.mono (by decide)) (by rfl) T.g_common_posts c_common_posts.kp c_common_posts.b tk (da_cons (dv 1) (da_cons (dv 0) da_nil))) pa_nil)) (by rfl)))
    (ds_cons (ds_if (dt_cmp (op_neDD hr.units) (d_cmp op_isD (dv 3) d_non) (d_cmp op_isD (dv 4) d_non)) (ds_one (ds_ret d_bl)) ds_nil)
    (ds_cons (ds_cut (ds_if (PW.pt (dw_and (dt_cmp op_isNotD (dv 3) d_non) (dw_and (dt_cmp op_isD (d_ixN (hu_of hr) (pv 3) d_int) d_non) (dw_and1 (dt_cmp (op_neDD hr.units) (dv 3) (dv 4)))))) (ds_one (ds_ret d_bl)) ds_nil))
    (ds_cons (ds_cut (ds_if (PW.pt (dw_and (dt_cmp op_isNotD (dv 3) d_non) (dw_and (dt_cmp op_isNotD (d_ixN (hu_of hr) (pv 3) d_int) d_non) (dw_and1 (dt_cmp (op_neDD hr.units) (d_tup (da_cons (d_ixN (hu_of hr) (pv 3) d_int) (da_cons (d_ixN (hu_of hr) (pv 3) d_int) (da_cons (d_ixN (hu_of hr) (pv 3) d_int) da_nil)))) (dv 4)))))) (ds_one (ds_ret d_bl)) ds_nil))
    (ds_cons (ds_if (dt_cmp (op_neDD hr.units) (d_call c_common_posts.F (hr.mono (by decide)) (by rfl) T.g_common_posts c_common_posts.kp c_common_posts.b tk (da_cons (d_addI (dv 0) (dv 2) T.m_Painter___add__ T.n_Painter___radd__ T.sf_Painter c_Painter_add.F (hr.mono (by decide)) c_Painter_add.b tk) (da_cons (d_addI (dv 1) (dv 2) T.m_Painter___add__ T.n_Painter___radd__ T.sf_Painter c_Painter_add.F (hr.mono (by decide)) c_Painter_add.b tk) da_nil))) (d_call c_turned.F (hr.mono (by decide)) (by rfl) T.g_turned c_turned.kp c_turned.b tk (da_cons (dv 3) (da_cons (dv 2) (da_cons d_int da_nil))))) (ds_one (ds_ret d_bl)) ds_nil)
    (ds_one (ds_ret (d_cmp (op_eqDD hr.units) (d_call c_common_posts.F (hr.mono (by decide)) (by rfl) T.g_common_posts c_common_posts.kp c_common_posts.b tk (da_cons (d_negO (dv 0) T.m_Painter___neg__ c_Painter_neg.F (hr.mono (by decide)) c_Painter_neg.b tk) (da_cons (d_negO (dv 1) T.m_Painter___neg__ c_Painter_neg.F (hr.mono (by decide)) c_Painter_neg.b tk) da_nil))) (d_call c_turned.F (hr.mono (by decide)) (by rfl) T.g_turned c_turned.kp c_turned.b tk (da_cons (dv 3) (da_cons d_int (da_cons (d_un un_negD d_int) da_nil))))))))))))
theorem kx_is_later (T : Tx K mg) : CalX P w K mg base 1 (He.ga K "_law_is_later") T.fd_is_later P_is_later (Pr K W_is_later) := by
  refine ⟨?_, T.fn_is_later.kp, FunD.bindsN T.fn_is_later fun _ _ _ _ _ _ us hl => match us, hl with | [_, _], _ => rfl⟩
  rw [W_is_later]
  refine def_ok (k := 0) T.fn_is_later sc_is_later fun cdv A outer s H E hr tk => ?_
  exact (ds_one (ds_ret (d_and (d_cmp op_isNotD (dv 1) d_non) (d_one (d_or (d_cmp op_isD (dv 0) d_non) (d_one (d_cmp op_gtD (dv 0) (dv 1))))))))
theorem kx_blocks_right (T : Tx K mg) : CalX P w K mg base 16 (He.ga K "_law_blocks_right") T.fd_blocks_right P_blocks_right (Pr K W_blocks_right) := by
  have c_first_block := kx_first_block (P := P) (w := w) (base := base) T
  have c_pick := kx_pick (P := P) (w := w) (base := base) T
  have c_great := kx_great (P := P) (w := w) (base := base) T
  have c_draw := kx_draw (P := P) (w := w) (base := base) T
  have c_is_later := kx_is_later (P := P) (w := w) (base := base) T
  have c_Painter_init := kx_Painter_init (P := P) (w := w) (base := base) T
  have c_Painter_stride := kx_Painter_stride (P := P) (w := w) (base := base) T
  have c_Painter_post := kx_Painter_post (P := P) (w := w) (base := base) T
  have c_Painter_day := kx_Painter_day (P := P) (w := w) (base := base) T
  have c_Painter_name := kx_Painter_name (P := P) (w := w) (base := base) T
  have c_Painter_count_at := kx_Painter_count_at (P := P) (w := w) (base := base) T
  have c_Painter_post_after := kx_Painter_post_after (P := P) (w := w) (base := base) T
  obtain ⟨ds_first_block, vd_first_block, bd_first_block⟩ := FunD.binds0 (ps := P_first_block) T.fn_first_block 2 (fun z => nomatch z) rfl fun D _ _ _ _ _ us ks h1 h2 => match us, ks, h1, h2 with | [_, _], [_, _], _, _ => ⟨_, _, _, _, _, _, rfl, rfl, _, _, _, _, _, _, rfl, rfl, rfl⟩
  obtain ⟨mv_kb_first_block_is_earlier, kb_first_block_is_earlier⟩ := FunD.kbinds0 (ps := P_first_block) T.fn_first_block 2 ["is_earlier"] [("count", .non)] (fun us mv ws => us ++ (mv ++ ws)) (fun z => nomatch z) (fun q hq => by rw [List.mem_singleton.mp hq]; exact List.mem_cons_self ..) (fun a b c => a.append (b.append c)) fun D _ _ _ _ _ us mv ws h1 h2 h3 => match us, mv, ws, h1, h2, h3 with | [_, _], [_], [_], _, _, _ => ⟨_, _, _, _, _, _, rfl, rfl, rfl⟩
  obtain ⟨mv_kb_first_block_count, kb_first_block_count⟩ := FunD.kbinds0 (ps := P_first_block) T.fn_first_block 2 ["count"] [("is_earlier", .bl false)] (fun us mv ws => us ++ (ws ++ mv)) (fun z => nomatch z) (fun q hq => by rw [List.mem_singleton.mp hq]; exact List.mem_cons_of_mem _ (List.mem_cons_self ..)) (fun a b c => a.append (c.append b)) fun D _ _ _ _ _ us mv ws h1 h2 h3 => match us, mv, ws, h1, h2, h3 with | [_, _], [_], [_], _, _, _ => ⟨_, _, _, _, _, _, rfl, rfl, rfl⟩
  obtain ⟨mv_kb_first_block_count_is_earlier, kb_first_block_count_is_earlier⟩ := FunD.kbinds0 (ps := P_first_block) T.fn_first_block 2 ["count", "is_earlier"] [] (fun us _ ws => us ++ ws) (fun z => nomatch z) (fun q hq => nomatch hq) (fun a _ c => a.append c) fun D _ _ _ _ _ us mv ws h1 h2 h3 => match us, mv, ws, h1, h2, h3 with | [_, _], [], [_, _], _, _, _ => rfl
  refine ⟨?_, T.fn_blocks_right.kp, FunD.bindsN T.fn_blocks_right fun _ _ _ _ _ _ us hl => match us, hl with | [_, _, _, _], _ => rfl⟩
  rw [W_blocks_right]
  refine def_ok (k := 15) T.fn_blocks_right sc_blocks_right fun cdv A outer s H E hr tk => ?_
  exact (ds_cons (ds_parK2 (k1 := .e (eCallD W_first_block [.non, .bl false] (aCons (eVar 1) (aCons (eVar 2) aNil)))) (k2 := .e (eCallN W_first_block (fun bs cs => bs ++ (([.d (.non)] : List B) ++ cs)) 2 1 (aCons (eVar 1) (aCons (eVar 2) aNil)) (aCons (eK (.bl true)) aNil))) (ps_par (by rfl) sc_blocks_right.nd (i := 4) (j := 5) rfl rfl (by decide) rfl rfl (pa_cons (d_callD c_first_block.F (hr.mono (by decide)) (by rfl) T.g_first_block c_first_block.kp bd_first_block vd_first_block (fun G => (.cons (.non) (.cons (.bl _) .nil))) tk (da_cons (dv 1) (da_cons (dv 2) da_nil))) (pa_cons (d_callN (gD := (fun bs cs => bs ++ (([.d (.non)] : List B) ++ cs))) c_first_block.F (hr.mono (by decide)) (by rfl) T.g_first_block c_first_block.kp kb_first_block_is_earlier (fun x y => x.append (ArgsR.append (.cons (argd (.non)) .nil) y)) tk (da_cons (dv 1) (da_cons (dv 2) da_nil)) (dk_cons d_bl dk_nil)) pa_nil)) (by rfl)))
    (ds_cons (ds_set (ps_set (i := 6) sc_blocks_right.nd rfl (Or.inl rfl) (d_call c_pick.F (hr.mono (by decide)) (by rfl) T.g_pick c_pick.kp c_pick.b tk (da_pen (pv 0) (da_cons (d_lst (da_cons d_int (da_cons (d_call c_draw.F (hr.mono (by decide)) (by rfl) T.g_draw c_draw.kp c_draw.b tk (da_pen (pv 0) (da_cons d_int da_nil))) (da_cons (d_call c_great.F (hr.mono (by decide)) (by rfl) T.g_great c_great.kp c_great.b tk (da_pen (pv 0) (da_cons d_int da_nil))) da_nil)))) da_nil)))))
    (ds_cons (ds_parK2 (k1 := .e (eCallN W_first_block (fun bs cs => bs ++ (cs ++ ([.d (.bl false)] : List B))) 2 1 (aCons (eVar 1) (aCons (eVar 2) aNil)) (aCons (eVar 6) aNil))) (k2 := .e (eCallN W_first_block (fun bs cs => bs ++ (cs ++ ([.d (.bl false)] : List B))) 2 1 (aCons (eVar 1) (aCons (eVar 2) aNil)) (aCons (eOp oAdd (eOp oAdd (eVar 6) (eK (.int 1))) (eCall W_draw (aPen 0 (aCons (eK (.int 9)) aNil)))) aNil))) (ps_par (by rfl) sc_blocks_right.nd (i := 7) (j := 8) rfl rfl (by decide) rfl rfl (pa_cons (d_callN (gD := (fun bs cs => bs ++ (cs ++ ([.d (.bl false)] : List B)))) c_first_block.F (hr.mono (by decide)) (by rfl) T.g_first_block c_first_block.kp kb_first_block_count (fun x y => x.append (y.append (.cons (argd (.bl _)) .nil))) tk (da_cons (dv 1) (da_cons (dv 2) da_nil)) (dk_cons (dv 6) dk_nil)) (pa_cons (d_callN (gD := (fun bs cs => bs ++ (cs ++ ([.d (.bl false)] : List B)))) c_first_block.F (hr.mono (by decide)) (by rfl) T.g_first_block c_first_block.kp kb_first_block_count (fun x y => x.append (y.append (.cons (argd (.bl _)) .nil))) tk (da_cons (dv 1) (da_cons (dv 2) da_nil)) (dk_cons (d_op op_addD (d_op op_addD (dv 6) d_int) (d_call c_draw.F (hr.mono (by decide)) (by rfl) T.g_draw c_draw.kp c_draw.b tk (da_pen (pv 0) (da_cons d_int da_nil)))) dk_nil)) pa_nil)) (by rfl)))
    (ds_cons (ds_cut (ds_if (PW.pt (dw_or (dt_bool (d_call c_is_later.F (hr.mono (by decide)) (by rfl) T.g_is_later c_is_later.kp c_is_later.b tk (da_cons (dv 5) (da_cons (dv 4) da_nil)))) (dw_or (dt_bool (d_call c_is_later.F (hr.mono (by decide)) (by rfl) T.g_is_later c_is_later.kp c_is_later.b tk (da_cons (dv 8) (da_cons (dv 7) da_nil)))) (dw_or1 (dt_bool (d_call c_is_later.F (hr.mono (by decide)) (by rfl) T.g_is_later c_is_later.kp c_is_later.b tk (da_cons (dv 4) (da_cons (dv 8) da_nil)))))))) (ds_one (ds_ret d_bl)) ds_nil))
    (ds_cons (ds_set (ps_set (i := 9) sc_blocks_right.nd rfl (Or.inl rfl) (d_make T.k_Painter c_Painter_init.F (hr.mono (by decide)) (by rfl) T.g_Painter c_Painter_init.b tk (da_cons (d_prop (dv 1) T.c_Painter T.p_Painter_name c_Painter_name.F (hr.mono (by decide)) c_Painter_name.b) (da_cons (d_op op_addD (d_prop (dv 1) T.c_Painter T.p_Painter_day c_Painter_day.F (hr.mono (by decide)) c_Painter_day.b) (dv 3)) (da_cons (d_prop (dv 1) T.c_Painter T.p_Painter_post c_Painter_post.F (hr.mono (by decide)) c_Painter_post.b) (da_cons (d_prop (dv 1) T.c_Painter T.p_Painter_stride c_Painter_stride.F (hr.mono (by decide)) c_Painter_stride.b) da_nil)))))))
    (ds_cons (ds_if (dt_cmp (op_neDD hr.units) (d_callD c_first_block.F (hr.mono (by decide)) (by rfl) T.g_first_block c_first_block.kp bd_first_block vd_first_block (fun G => (.cons (.non) (.cons (.bl _) .nil))) tk (da_cons (dv 9) (da_cons (d_make T.k_Painter c_Painter_init.F (hr.mono (by decide)) (by rfl) T.g_Painter c_Painter_init.b tk (da_cons (d_prop (dv 2) T.c_Painter T.p_Painter_name c_Painter_name.F (hr.mono (by decide)) c_Painter_name.b) (da_cons (d_op op_addD (d_prop (dv 2) T.c_Painter T.p_Painter_day c_Painter_day.F (hr.mono (by decide)) c_Painter_day.b) (dv 3)) (da_cons (d_prop (dv 2) T.c_Painter T.p_Painter_post c_Painter_post.F (hr.mono (by decide)) c_Painter_post.b) (da_cons (d_prop (dv 2) T.c_Painter T.p_Painter_stride c_Painter_stride.F (hr.mono (by decide)) c_Painter_stride.b) da_nil))))) da_nil))) (dv 4)) (ds_one (ds_ret d_bl)) ds_nil)
    (ds_cons (ds_if (dt_cmp op_isD (dv 4) d_non) (ds_one (ds_ret (d_cmp op_isD (d_callN (gD := (fun bs cs => bs ++ cs)) c_first_block.F (hr.mono (by decide)) (by rfl) T.g_first_block c_first_block.kp kb_first_block_count_is_earlier (fun x y => x.append y) tk (da_cons (dv 1) (da_cons (dv 2) da_nil)) (dk_cons d_int (dk_cons d_bl dk_nil))) d_non))) ds_nil)
    (ds_cons (ds_set (ps_set (i := 10) sc_blocks_right.nd rfl (Or.inl rfl) (d_meth (dv 2) T.c_Painter T.m_Painter_count_at c_Painter_count_at.F (hr.mono (by decide)) c_Painter_count_at.b .nil (fun _ => .nil) tk (da_cons (d_meth (dv 1) T.c_Painter T.m_Painter_post_after c_Painter_post_after.F (hr.mono (by decide)) c_Painter_post_after.b .nil (fun _ => .nil) tk (da_cons (dv 4) da_nil)) da_nil))))
    (ds_cons (ds_cut (ds_if (PW.pt (dw_or (dt_cmp op_isD (dv 10) d_non) (dw_or1 (dt_cmp op_geD (d_op op_addD (d_prop (dv 2) T.c_Painter T.p_Painter_day c_Painter_day.F (hr.mono (by decide)) c_Painter_day.b) (dv 10)) (d_op op_addD (d_prop (dv 1) T.c_Painter T.p_Painter_day c_Painter_day.F (hr.mono (by decide)) c_Painter_day.b) (dv 4)))))) (ds_one (ds_ret d_bl)) ds_nil))
    (ds_one (ds_ret (d_and (d_cmp (op_eqDD hr.units) (d_callN (gD := (fun bs cs => bs ++ (cs ++ ([.d (.bl false)] : List B)))) c_first_block.F (hr.mono (by decide)) (by rfl) T.g_first_block c_first_block.kp kb_first_block_count (fun x y => x.append (y.append (.cons (argd (.bl _)) .nil))) tk (da_cons (dv 1) (da_cons (dv 2) da_nil)) (dk_cons (d_op op_addD (dv 10) d_int) dk_nil)) (dv 4)) (d_one (d_cmp (op_neDD hr.units) (d_callN (gD := (fun bs cs => bs ++ (cs ++ ([.d (.bl false)] : List B)))) c_first_block.F (hr.mono (by decide)) (by rfl) T.g_first_block c_first_block.kp kb_first_block_count (fun x y => x.append (y.append (.cons (argd (.bl _)) .nil))) tk (da_cons (dv 1) (da_cons (dv 2) da_nil)) (dk_cons (dv 10) dk_nil)) (dv 4)))))))))))))))
theorem k_law (T : Tx K mg) (hw : ∀ n : Nat, n ≤ 63 → w_law lawN (lawE N_law.length n)) : FnG P w K mg base 17 (He.ga K "law") T.fd_law P_law (spLaw K) := by
  have c_pen := k_pen (P := P) (w := w) (base := base) T
  have c_duo := kx_duo (P := P) (w := w) (base := base) T
  have c_great_duo := kx_great_duo (P := P) (w := w) (base := base) T
  have c_made := kx_made (P := P) (w := w) (base := base) T
  have c_posts_right := kx_posts_right (P := P) (w := w) (base := base) T
  have c_around := kx_around (P := P) (w := w) (base := base) T
  have c_blocks_right := kx_blocks_right (P := P) (w := w) (base := base) T
  have c_great := kx_great (P := P) (w := w) (base := base) T
  have c_draw := kx_draw (P := P) (w := w) (base := base) T
  refine FnG.mk' T.fn_law sc_law (fun vs H Q E h => ?_) (fun cdv A outer s H vs Q E gd hr h => ?_)
  · obtain ⟨a, ns, rfl, _⟩ := h
    rfl
  · obtain ⟨a, ns, rfl, hS, hn, k⟩ := h
    have hgd : (A.deeper (envOfC "law" (defScope s_law) s.heap.objs.size (He.ga K "law") cdv)).guards = some [] := gd
    have tk : Takes (cxOf CX0 P w K mg base N_law "law" (defScope s_law) (He.ga K "law") cdv A outer s H E) (fun _ _ _ _ => False) := takes0
    have body : DSs (cxOf CX0 P w K mg base N_law "law" (defScope s_law) (He.ga K "law") cdv A outer s H E) (fun _ _ _ _ => False) ((defBody s_law).drop 1) w_law := (ds_cons (ds_for (ps_for (passes_of rfl) rfl (di_r1 (pi_range1 (by rfl) T.b_range (da_cons (d_op op_addD d_int (d_b (call_minD rfl) (by rfl) T.b_min (by decide +kernel) (da_cons d_int (da_cons (d_lenV (pv 0) (by rfl) T.b_len) da_nil)))) da_nil))) (dg_name (pg_name (i := 2) sc_law.nd rfl (Or.inl rfl)))
    (ds_cons (ds_parK2 (k1 := .e (eCall W_duo (aPen 1 aNil))) (k2 := .e (eCall W_great_duo (aPen 1 aNil))) (ps_par (by rfl) sc_law.nd (i := 3) (j := 4) rfl rfl (by decide) rfl rfl (pa_cons (d_call c_duo.F (hr.mono (by decide)) (by rfl) T.g_duo c_duo.kp c_duo.b tk (da_pen (pv 1) da_nil)) (pa_cons (d_call c_great_duo.F (hr.mono (by decide)) (by rfl) T.g_great_duo c_great_duo.kp c_great_duo.b tk (da_pen (pv 1) da_nil)) pa_nil)) (by rfl)))
    (ds_one (ds_for (ps_for (passes_of rfl) rfl (di_list (pi_list (d_lst (da_cons (d_tup (da_cons (d_ixN (hu_of hr) (pv 3) d_int) (da_cons (d_ixN (hu_of hr) (pv 3) d_int) da_nil))) (da_cons (d_tup (da_cons (d_ixN (hu_of hr) (pv 4) d_int) (da_cons (d_ixN (hu_of hr) (pv 4) d_int) da_nil))) da_nil))))) (dg_tup (pg_tup rfl (dgs_cons (pgs_cons (dg_name (pg_name (i := 5) sc_law.nd rfl (Or.inl rfl))) (dgs_cons (pgs_cons (dg_name (pg_name (i := 6) sc_law.nd rfl (Or.inl rfl))) dgs_nil))))))
    (ds_cons (ds_parK2 (k1 := .e (eCall W_made (aCons (eVar 5) aNil))) (k2 := .e (eCall W_made (aCons (eVar 6) aNil))) (ps_par (by rfl) sc_law.nd (i := 7) (j := 8) rfl rfl (by decide) rfl rfl (pa_cons (d_call c_made.F (hr.mono (by decide)) (by rfl) T.g_made c_made.kp c_made.b tk (da_cons (dv 5) da_nil)) (pa_cons (d_call c_made.F (hr.mono (by decide)) (by rfl) T.g_made c_made.kp c_made.b tk (da_cons (dv 6) da_nil)) pa_nil)) (by rfl)))
    (ds_cons (ds_if (dt_not (dt_bool (d_call c_posts_right.F (hr.mono (by decide)) (by rfl) T.g_posts_right c_posts_right.kp c_posts_right.b tk (da_cons (dv 7) (da_cons (dv 8) (da_cons (d_call c_around.F (hr.mono (by decide)) (by rfl) T.g_around c_around.kp c_around.b tk (da_pen (pv 1) (da_cons (d_pow (c := 100000000000000000000000000000) (by decide) (by decide +kernel)) da_nil))) da_nil)))))) (ds_one (ds_ret d_bl)) ds_nil)
    (ds_cons (ds_if (dt_not (dt_bool (d_call c_blocks_right.F (hr.mono (by decide)) (by rfl) T.g_blocks_right c_blocks_right.kp c_blocks_right.b tk (da_pen (pv 1) (da_cons (dv 7) (da_cons (dv 8) (da_cons (d_call c_great.F (hr.mono (by decide)) (by rfl) T.g_great c_great.kp c_great.b tk (da_pen (pv 1) (da_cons d_int da_nil))) da_nil))))))) (ds_one (ds_ret d_bl)) ds_nil)
    (ds_one (ds_if (dt_not (dt_bool (d_call c_blocks_right.F (hr.mono (by decide)) (by rfl) T.g_blocks_right c_blocks_right.kp c_blocks_right.b tk (da_pen (pv 1) (da_cons (dv 8) (da_cons (dv 7) (da_cons (d_call c_draw.F (hr.mono (by decide)) (by rfl) T.g_draw c_draw.kp c_draw.b tk (da_pen (pv 1) (da_cons d_int da_nil))) da_nil))))))) (ds_one (ds_ret d_bl)) ds_nil)))))))))))
    (ds_one (ds_ret d_bl)))
    refine ⟨_, pss_cons (ps_set (i := 1) sc_law.nd rfl (Or.inl rfl) (pe_call c_pen.F (hr.mono (by decide)) (by rfl) T.g_pen c_pen.kp c_pen.b .nil pass0 (pa_cons (pv 0) pa_nil))) body, ?_⟩
    refine ⟨.ref a, rfl, a, ns, rfl, hS, fun p H1 s1 np hP => ?_⟩
    exact law_start hS s1 np hP (hw ns.length hn) k
end
end KD

/-! Painters, over data. -/
namespace KD
open PySem PySem.Spec PyProof.Rows L2 KP
theorem q_isi {x : D} {t n : String} {c : Bool} {Q : D → Prop} (e : x.tn = some t) (k : kitB t n = some c) (q : Q (.bl c)) : oIsi [x, .ty n] Q := by
  unfold oIsi
  show (match x.tn with | some t => (match kitB t n with | some b => Q (.bl b) | none => False) | none => False)
  rw [e]
  show (match kitB t n with | some b => Q (.bl b) | none => False)
  rw [k]
  exact q
/-- the package's painter -/
def Pt.o (q : Pt) : D := .obj "Painter" [("parts", q.d)]
section
variable {b : Int} {Q : D → Int → Prop} {E : XC → Int → Prop}
theorem q_is_integer {i : Int} (k : Q (.bl true) b) : W_is_integer [.d (.int i)] b Q E := by
  unfold W_is_integer
  refine ⟨rfl, ?_⟩
  refine q_isi (x := .int i) rfl kb_ii ?_
  refine q_isi (x := .int i) rfl kb_ib ?_
  exact k
theorem q_is_between {v lo hi : Int} (k : Q (.bl (decide (lo ≤ v) && decide (v ≤ hi))) b) : W_is_between [.d (.int v), .d (.int lo), .d (.int hi)] b Q E := by
  unfold W_is_between
  refine ⟨rfl, ?_⟩
  refine q_is_integer ?_
  show (match D.bl (decide (lo ≤ v)) with | .bl true => Q (.bl (decide (v ≤ hi))) b | .bl false => Q (.bl false) b | _ => False)
  cases h : decide (lo ≤ v) with
  | true => rw [h] at k; exact k
  | false => rw [h] at k; exact k
theorem bt_true {v lo hi : Int} (h0 : lo ≤ v) (h1 : v ≤ hi) : (decide (lo ≤ v) && decide (v ≤ hi)) = true := by simp [h0, h1]
/-- a test that is_between passes -/
theorem q_between {v lo hi : Int} (h0 : lo ≤ v) (h1 : v ≤ hi) (k : Q (.bl true) b) : W_is_between [.d (.int v), .d (.int lo), .d (.int hi)] b Q E := q_is_between (by rw [bt_true h0 h1]; exact k)
theorem q_need_count {v hi : Int} (h0 : 0 ≤ v) (h1 : v ≤ hi) (k : Q .non b) : W_need_count [.d (.int v), .d (.int hi)] b Q E := by
  unfold W_need_count
  refine ⟨rfl, ?_⟩
  refine q_between h0 h1 ?_
  exact iteF k
theorem abc_mem {c : Nat} (h : 97 ≤ c ∧ c ≤ 122) : c ∈ ("abcdefghijklmnopqrstuvwxyz" : Str).cps.toList := by
  have e : ("abcdefghijklmnopqrstuvwxyz" : Str).cps.toList = (List.range 26).map (97 + ·) := by decide +kernel
  rw [e]
  exact List.mem_map.mpr ⟨c - 97, List.mem_range.mpr (by omega), by omega⟩
theorem q_is_name {z : Str} (h : NameD z) (k : Q (.bl true) b) : W_is_name [.d (.str z)] b Q E := by
  unfold W_is_name
  refine ⟨rfl, ?_⟩
  refine ⟨fun en => en = ⟨[some (.d (.str z)), none], b⟩, ?_, fun en e => ?_⟩
  · refine q_isi (x := .str z) rfl kb_ss ?_
    refine iteF ?_
    refine ⟨by have := h.2.1; omega, ?_⟩
    have e1 : decide ((1 : Int) ≤ (z.length : Int)) = true := decide_eq_true (by have := h.1; omega)
    have e2 : decide ((z.length : Int) ≤ 8) = true := decide_eq_true (by have := h.2.1; omega)
    show (match D.bl (decide ((1 : Int) ≤ (z.length : Int))) with | .bl true => _ | .bl false => _ | _ => False)
    rw [e1]
    show (if (!decide ((z.length : Int) ≤ 8)) = true then _ else _)
    rw [e2]
    exact iteF rfl
  · subst e
    refine lcGo_ind (z.cps.toList.map fun c => D.str ⟨#[c]⟩) (fun i acc en => acc = List.replicate i (.bl true) ∧ en = ⟨[some (.d (.str z)), none], b⟩) ⟨rfl, rfl⟩ (fun i x acc en J hx ⟨ha, he⟩ hJ => ?_) fun acc en ⟨ha, he⟩ => ?_
    · subst ha he
      rw [List.getElem?_map] at hx
      cases q : z.cps.toList[i]? with
      | none => rw [q] at hx; cases hx
      | some c =>
        rw [q] at hx; cases hx
        have hc := h.2.2 c (List.mem_of_getElem? q)
        have hi := (List.getElem?_eq_some_iff.mp q).1
        show (List.replicate i (D.bl true)).length < 100000 ∧ J (List.replicate i (D.bl true) ++ [.bl (decide (c ∈ ("abcdefghijklmnopqrstuvwxyz" : Str).cps.toList))]) _
        rw [decide_eq_true (abc_mem hc)]
        refine ⟨?_, hJ _ _ ⟨?_, rfl⟩⟩
        · rw [List.length_replicate]
          have h8 : z.cps.toList.length ≤ 8 := by have := h.2.1; rw [slen_tl] at this; exact this
          omega
        · rw [← List.replicate_succ']
    · subst ha he
      have e : ∀ n, allB (List.replicate n (D.bl true)) = some (List.replicate n true) := fun n => by
        induction n with
        | zero => rfl
        | succ n ih => rw [List.replicate_succ, allB, ih]; rfl
      show (match allB (List.replicate _ (D.bl true)) with | some bs => _ | none => False)
      rw [e]
      show Q (.bl ((List.replicate _ true).all id)) b
      rw [show (List.replicate (z.cps.toList.map fun c => D.str ⟨#[c]⟩).length true).all id = true by simp]
      exact k
theorem q_Painter_name {q : Pt} (k : Q (.str q.nm) b) : W_Painter_name [.d q.o] b Q E := by
  unfold W_Painter_name
  exact ⟨rfl, rfl, k⟩
theorem q_Painter_day {q : Pt} (k : Q (.int q.dy) b) : W_Painter_day [.d q.o] b Q E := by
  unfold W_Painter_day
  exact ⟨rfl, rfl, k⟩
theorem q_Painter_post {q : Pt} (k : Q (.int q.po) b) : W_Painter_post [.d q.o] b Q E := by
  unfold W_Painter_post
  exact ⟨rfl, rfl, k⟩
theorem q_Painter_stride {q : Pt} (k : Q (.int q.sr) b) : W_Painter_stride [.d q.o] b Q E := by
  unfold W_Painter_stride
  exact ⟨rfl, rfl, k⟩
theorem q_Painter_init {q : Pt} {Qn : List (Str × D) → Int → Prop} (h : q.Ok) (k : Qn [("parts", q.d)] b) : W_Painter_init [.d (.str q.nm), .d (.int q.dy), .d (.int q.po), .d (.int q.sr)] b Qn E := by
  unfold W_Painter_init
  refine ⟨rfl, ?_⟩
  refine q_is_name h.nm ?_
  refine iteF ?_
  refine ⟨rfl, rfl, ?_⟩
  refine q_between h.d0 h.d1 ?_
  refine iteF ?_
  refine ⟨rfl, rfl, ⟨rfl, rfl, ?_⟩⟩
  refine q_between h.p0 h.p1 ?_
  refine iteF ?_
  refine ⟨fun en => en = ⟨[some (.slf "Painter" []), some (.d (.str q.nm)), some (.d (.int q.dy)), some (.d (.int q.po)), some (.d (.int q.sr))], b⟩, ?_, fun en e => ?_⟩
  · refine ⟨rfl, rfl, ⟨rfl, rfl, ?_⟩⟩
    refine q_between h.s0 h.s1 ?_
    refine iteF ?_
    show (if decide (q.sr = 0) = true then _ else _)
    rw [decide_eq_false h.sn]
    exact iteF rfl
  · subst e
    exact ⟨(by show (4 : Nat) ≤ 100000; decide), rfl, by decide, rfl, k⟩
theorem q_post_after {q : Pt} {c : Int} (h : q.Ok) (h0 : 0 ≤ c) (h1 : c ≤ 10 ^ 80) (k : Q (.int (q.po + c * q.sr)) b) : W_Painter_post_after [.d q.o, .d (.int c)] b Q E := by
  unfold W_Painter_post_after
  refine ⟨rfl, ?_⟩
  refine q_need_count h0 h1 ?_
  refine ⟨rfl, ?_⟩
  refine q_Painter_post ?_
  refine ⟨rfl, ?_⟩
  refine q_Painter_stride ?_
  have := h.s0
  have := h.s1
  exact ⟨⟨by unfold Big; omega, by unfold Big; omega, by unfold Big; omega, by unfold Big; omega⟩, k⟩
end
end KD

namespace KP
/-! ### common posts of two ways: plain mathematics -/
/-- the post with number k of the one way is a post of the other way -/
def Com (p1 s p2 t k : Int) : Prop := 0 ≤ k ∧ ∃ j, 0 ≤ j ∧ p1 + k * s = p2 + j * t
structure Cross (p1 s p2 t : Int) (emp : Bool) (step ostep start ostart : Int) : Prop where
  stp : step = (t.natAbs : Int) / (Int.gcd s t : Int)
  pos : 0 < step
  st0 : 0 ≤ start
  st1 : start < step
  non : emp = true → ∀ k j, p1 + k * s ≠ p2 + j * t
  on : emp = false → p1 + start * s = p2 + ostart * t
  two : step * s = ostep * t
  all : emp = false → ∀ k j, p1 + k * s = p2 + j * t → ∃ m, k = start + m * step
theorem abs_cases (t : Int) : (0 ≤ t ∧ (t.natAbs : Int) = t) ∨ (t < 0 ∧ (t.natAbs : Int) = -t) := by omega
theorem cross_mk {p1 s p2 t g inv step ostep start ostart gap rest : Int} (hs : s ≠ 0) (ht : t ≠ 0) (hg : g = (Int.gcd s t : Int)) (hgap : gap = (p2 - p1).fdiv g) (hrest : rest = (p2 - p1).fmod g) (hstep : step = (t.natAbs : Int) / g)
    (hostep : ostep = if 0 < t then s / g else -(s / g)) (hinv : ((s / g) * inv) % step = 1 % step) (hstart : start = gap * inv % step) (host : ostart = (p1 + start * s - p2).fdiv t) : Cross p1 s p2 t (decide (rest ≠ 0)) step ostep start ostart := by
  have g0 : 0 < g := by
    rw [hg]
    have := Int.gcd_pos_of_ne_zero_left t hs
    omega
  have ds : g ∣ s := by
    rw [hg]
    exact Int.gcd_dvd_left s t
  have dt : g ∣ (t.natAbs : Int) := by
    rw [hg, Int.dvd_natAbs]
    exact Int.gcd_dvd_right s t
  have dt2 : g ∣ t := by
    rw [hg]
    exact Int.gcd_dvd_right s t
  obtain ⟨a, ha⟩ := ds
  obtain ⟨c, hc⟩ := dt
  have ea : s / g = a := by
    rw [ha]
    exact Int.mul_ediv_cancel_left a (by omega)
  have ec : step = c := by
    rw [hstep, hc]
    exact Int.mul_ediv_cancel_left c (by omega)
  rw [ea] at hinv hostep
  subst ec
  have spos : 0 < step := by
    have : 0 < (t.natAbs : Int) := by omega
    rw [hc] at this
    exact Int.pos_of_mul_pos_right this (by omega)
  obtain ⟨u, hu⟩ : ∃ u, a * inv = 1 + step * u := by
    have : (a * inv - 1) % step = 0 := by
      rw [Int.sub_emod, hinv, Int.sub_self, Int.zero_emod]
    obtain ⟨u, hu⟩ := Int.dvd_of_emod_eq_zero this
    exact ⟨u, by omega⟩
  have st0 : 0 ≤ start := by
    rw [hstart]
    exact Int.emod_nonneg _ (by omega)
  have st1 : start < step := by
    rw [hstart]
    exact Int.emod_lt_of_pos _ spos
  have two : step * s = ostep * t := by
    rcases abs_cases t with ⟨h1, h2⟩ | ⟨h1, h2⟩
    · rw [hostep, if_pos (by omega), ha]
      rw [h2] at hc
      grind
    · rw [hostep, if_neg (by omega), ha]
      rw [h2] at hc
      grind
  have hdiv : p2 - p1 = g * gap + rest := by
    rw [hgap, hrest]
    have := Int.fmod_add_mul_fdiv (p2 - p1) g
    omega
  have on : rest = 0 → p1 + start * s = p2 + ostart * t := by
    intro hr
    rw [hr] at hdiv
    obtain ⟨v, hv⟩ : ∃ v, start = gap * inv - step * v := ⟨gap * inv / step, by
      have := Int.emod_add_mul_ediv (gap * inv) step
      rw [hstart]
      omega⟩
    have e1 : p1 + start * s - p2 = (t.natAbs : Int) * (gap * u - v * a) := by
      rw [hc, ha, hv]
      grind
    obtain ⟨x, hx⟩ : ∃ x, p1 + start * s - p2 = t * x := by
      rcases abs_cases t with ⟨h1, h2⟩ | ⟨h1, h2⟩
      · exact ⟨_, by rw [e1, h2]⟩
      · exact ⟨-(gap * u - v * a), by rw [e1, h2]; grind⟩
    have e2 : ostart = x := by
      rw [host, hx]
      exact Int.mul_fdiv_cancel_left x ht
    rw [e2]
    grind
  refine ⟨by rw [← hg, hc]; exact (Int.mul_ediv_cancel_left step (by omega)).symm, spos, st0, st1, fun he k j e => ?_, fun he => ?_, two, fun he k j e => ?_⟩
  · have hr := of_decide_eq_true he
    apply hr
    obtain ⟨y, hy⟩ := dt2
    have : p2 - p1 = g * (k * a - j * y) := by
      rw [ha, hy] at e
      grind
    rw [hrest, this]
    exact Int.mul_fmod_right g _
  · have hr := of_decide_eq_false he
    exact on (by omega)
  · have hr := of_decide_eq_false he
    have h0 := on (by omega)
    have e1 : (k - start) * s = (j - ostart) * t := by grind
    obtain ⟨x, hx⟩ : ∃ x, (k - start) * a = step * x := by
      rcases abs_cases t with ⟨h1, h2⟩ | ⟨h1, h2⟩
      · refine ⟨j - ostart, ?_⟩
        rw [h2] at hc
        rw [ha, hc] at e1
        exact Int.eq_of_mul_eq_mul_left (show g ≠ 0 by omega) (by grind)
      · refine ⟨-(j - ostart), ?_⟩
        rw [h2] at hc
        have ht2 : t = -(g * step) := by omega
        rw [ha, ht2] at e1
        exact Int.eq_of_mul_eq_mul_left (show g ≠ 0 by omega) (by grind)
    refine ⟨x * inv - (k - start) * u, ?_⟩
    have : (k - start) * (a * inv) = step * (x * inv) := by grind
    rw [hu] at this
    grind
namespace Cross
variable {p1 s p2 t : Int} {emp : Bool} {step ostep start ostart : Int}
theorem sgn (C : Cross p1 s p2 t emp step ostep start ostart) (hs : s ≠ 0) (ht : t ≠ 0) : (0 < s * t ∧ 0 < ostep) ∨ (s * t < 0 ∧ ostep < 0) := by
  have h := C.two
  have hp := C.pos
  have e : step * (s * t) = ostep * (t * t) := by grind
  have tt : 0 < t * t := by
    rcases Int.lt_or_gt_of_ne ht with h1 | h1
    · exact Int.mul_pos_of_neg_of_neg h1 h1
    · exact Int.mul_pos h1 h1
  have st : s * t ≠ 0 := Int.mul_ne_zero hs ht
  rcases Int.lt_or_gt_of_ne st with h1 | h1
  · right
    refine ⟨h1, ?_⟩
    have : step * (s * t) < 0 := Int.mul_neg_of_pos_of_neg hp h1
    rw [e] at this
    exact Int.neg_of_mul_neg_right (a := t * t) (by rw [Int.mul_comm]; exact this) (by omega)
  · left
    refine ⟨h1, ?_⟩
    have : 0 < step * (s * t) := Int.mul_pos hp h1
    rw [e] at this
    exact Int.pos_of_mul_pos_left this (by omega)
theorem com_iff (C : Cross p1 s p2 t emp step ostep start ostart) (ht : t ≠ 0) (he : emp = false) (k : Int) : Com p1 s p2 t k ↔ ∃ m, k = start + m * step ∧ 0 ≤ m ∧ 0 ≤ ostart + m * ostep := by
  have on := C.on he
  have two := C.two
  have p := C.pos
  have s0 := C.st0
  have s1 := C.st1
  constructor
  · rintro ⟨k0, j, j0, e⟩
    obtain ⟨m, rfl⟩ := C.all he k j e
    have ej : j = ostart + m * ostep := by
      apply Int.eq_of_mul_eq_mul_right ht
      grind
    refine ⟨m, rfl, ?_, by omega⟩
    apply Classical.byContradiction
    intro hm
    have : m * step ≤ (-1) * step := Int.mul_le_mul_of_nonneg_right (by omega) (by omega)
    omega
  · rintro ⟨m, rfl, m0, h⟩
    have : 0 ≤ m * step := Int.mul_nonneg m0 (by omega)
    exact ⟨by omega, ostart + m * ostep, h, by grind⟩
end Cross
/-- the numbers m that fit -/
def Fit (ps : List (Int × Int)) (low : Int) (high : Option Int) : Prop := ∀ m : Int, (0 ≤ m ∧ ∀ x ∈ ps, 0 ≤ x.1 + m * x.2) ↔ (low ≤ m ∧ ∀ h, high = some h → m ≤ h)
theorem fit_pos {b g m : Int} (hg : 0 < g) : 0 ≤ b + m * g ↔ -(b / g) ≤ m := by
  have h1 := Int.emod_add_mul_ediv b g
  have h2 := Int.emod_nonneg b (show g ≠ 0 by omega)
  have h3 := Int.emod_lt_of_pos b hg
  constructor
  · intro h
    apply Classical.byContradiction
    intro hn
    have : (m + b / g) * g ≤ (-1) * g := Int.mul_le_mul_of_nonneg_right (by omega) (by omega)
    grind
  · intro h
    have : 0 ≤ (m + b / g) * g := Int.mul_nonneg (by omega) (by omega)
    grind
theorem fit_neg {b g m : Int} (hg : g < 0) : 0 ≤ b + m * g ↔ m ≤ b / -g := by
  have h1 := Int.emod_add_mul_ediv b (-g)
  have h2 := Int.emod_nonneg b (show -g ≠ 0 by omega)
  have h3 := Int.emod_lt_of_pos b (show 0 < -g by omega)
  constructor
  · intro h
    apply Classical.byContradiction
    intro hn
    have : 1 * (-g) ≤ (m - b / -g) * (-g) := Int.mul_le_mul_of_nonneg_right (by omega) (by omega)
    grind
  · intro h
    have : 0 ≤ (b / -g - m) * (-g) := Int.mul_nonneg (by omega) (by omega)
    grind
/-- what common_posts is to return -/
def CP (p1 s p2 t : Int) : Option (Int × Option Int × Int) → Prop
  | none => ∀ k, ¬ Com p1 s p2 t k
  | some (f, l, d) => (∃ k, Com p1 s p2 t k ∧ (∀ k', Com p1 s p2 t k' → k ≤ k') ∧ f = p1 + k * s) ∧
      (match l with
        | none => 0 < s * t
        | some x => s * t < 0 ∧ ∃ k, Com p1 s p2 t k ∧ (∀ k', Com p1 s p2 t k' → k' ≤ k) ∧ x = p1 + k * s) ∧ d = (s.natAbs : Int) * ((t.natAbs : Int) / (Int.gcd s t : Int))
theorem CP.inj {p1 s p2 t : Int} {x y : Option (Int × Option Int × Int)} (hx : CP p1 s p2 t x) (hy : CP p1 s p2 t y) : x = y := by
  match x, y, hx, hy with
  | none, none, _, _ => rfl
  | none, some (f, l, d), hx, ⟨⟨k, h, _⟩, _⟩ => exact absurd h (hx k)
  | some (f, l, d), none, ⟨⟨k, h, _⟩, _⟩, hy => exact absurd h (hy k)
  | some (f, l, d), some (f2, l2, d2), ⟨⟨k, h, m, e⟩, hl, hd⟩, ⟨⟨k2, h2, m2, e2⟩, hl2, hd2⟩ =>
    have ek : k = k2 := by
      have a1 := m _ h2
      have a2 := m2 _ h
      omega
    have ef : f = f2 := by rw [e, e2, ek]
    have ed : d = d2 := by rw [hd, hd2]
    have el : l = l2 := by
      match l, l2, hl, hl2 with
      | none, none, _, _ => rfl
      | none, some z, h1, h2 => exact absurd h1 (by have := h2.1; omega)
      | some z, none, h1, h2 => exact absurd h2 (by have := h1.1; omega)
      | some z, some z2, ⟨_, k3, c3, m3, e3⟩, ⟨_, k4, c4, m4, e4⟩ =>
        have a1 := m3 _ c4
        have a2 := m4 _ c3
        have : k3 = k4 := by omega
        rw [e3, e4, this]
    rw [ef, ed, el]
theorem cp_none {p1 s p2 t : Int} {emp : Bool} {step ostep start ostart : Int} (C : Cross p1 s p2 t emp step ostep start ostart) (ht : t ≠ 0) (h : emp = true ∨ ∀ m, ¬ (0 ≤ m ∧ 0 ≤ ostart + m * ostep)) : CP p1 s p2 t none := by
  intro k hk
  cases emp with
  | true =>
    obtain ⟨_, j, _, e⟩ := hk
    exact C.non rfl k j e
  | false =>
    rcases h with h | h
    · cases h
    · obtain ⟨m, _, h1, h2⟩ := (C.com_iff ht rfl k).mp hk
      exact h m ⟨h1, h2⟩
theorem cp_some {p1 s p2 t : Int} {step ostep start ostart low : Int} {high : Option Int} (C : Cross p1 s p2 t false step ostep start ostart) (hs : s ≠ 0) (ht : t ≠ 0) (F : Fit [(ostart, ostep)] low high) (hh : high = none ↔ 0 < ostep)
    (hl : ∀ h, high = some h → low ≤ h) : CP p1 s p2 t (some (p1 + (start + low * step) * s, high.map fun h => p1 + (start + h * step) * s, (s.natAbs : Int) * step)) := by
  have p := C.pos
  have ci := C.com_iff ht rfl
  have fm : ∀ m, (0 ≤ m ∧ 0 ≤ ostart + m * ostep) ↔ (low ≤ m ∧ ∀ h, high = some h → m ≤ h) := fun m => by
    have z := F m
    constructor
    · rintro ⟨h1, h2⟩
      exact z.mp ⟨h1, fun x hx => by rw [List.mem_singleton.mp hx]; exact h2⟩
    · intro h
      have y := z.mpr h
      exact ⟨y.1, y.2 (ostart, ostep) (List.mem_singleton.mpr rfl)⟩
  refine ⟨⟨_, (ci _).mpr ⟨low, rfl, (fm low).mpr ⟨Int.le_refl _, hl⟩⟩, fun k' hk => ?_, rfl⟩, ?_, by rw [C.stp]⟩
  · obtain ⟨m, rfl, h1, h2⟩ := (ci k').mp hk
    have := ((fm m).mp ⟨h1, h2⟩).1
    have := Int.mul_le_mul_of_nonneg_right this (show 0 ≤ step by omega)
    omega
  · cases high with
    | none =>
      show 0 < s * t
      rcases C.sgn hs ht with ⟨h1, _⟩ | ⟨_, h2⟩
      · exact h1
      · exact absurd (hh.mp rfl) (by omega)
    | some h =>
      show s * t < 0 ∧ _
      refine ⟨?_, _, (ci _).mpr ⟨h, rfl, (fm h).mpr ⟨hl h rfl, fun z e => by injection e with e; omega⟩⟩, fun k' hk => ?_, rfl⟩
      · rcases C.sgn hs ht with ⟨_, h2⟩ | ⟨h1, _⟩
        · exact absurd (hh.mpr h2) (by simp)
        · exact h1
      · obtain ⟨m, rfl, h1, h2⟩ := (ci k').mp hk
        have := ((fm m).mp ⟨h1, h2⟩).2 h rfl
        have := Int.mul_le_mul_of_nonneg_right this (show 0 ≤ step by omega)
        omega
end KP

/-! Crossings: plain numbers (for the data layer). -/
namespace KD
open KP
theorem ifabs (v : Int) : (if v < 0 then -v else v) = (v.natAbs : Int) := by split <;> omega
structure FitR (ps : List (Int × Int)) (low : Int) (high : Option Int) : Prop where
  fit : Fit ps low high
  nrm : ∀ h, high = some h → low ≤ h ∨ (low = 1 ∧ h = 0)
  nn : high = none → ∀ x ∈ ps, 0 ≤ x.2
  pp : (∀ x ∈ ps, 0 < x.2) → high = none
  l0 : 0 ≤ low
  l1 : low ≤ 10 ^ 90
  h0 : ∀ h, high = some h → -(10 ^ 90) ≤ h ∧ h ≤ 10 ^ 90
theorem gcd_mod (x y : Int) : Int.gcd y (x % y) = Int.gcd x y := by
  rw [Int.gcd_comm x y, Int.gcd_right_eq_iff]
  intro c hc
  have h := Int.emod_add_mul_ediv x y
  constructor
  · intro h1
    rw [← h]
    exact Int.dvd_add h1 (Int.dvd_mul_of_dvd_left hc)
  · intro h1
    have : x % y = x - y * (x / y) := by omega
    rw [this]
    exact Int.dvd_sub h1 (Int.dvd_mul_of_dvd_left hc)
theorem inv_step {m x y f g tn : Int} (h : f.natAbs * y + g.natAbs * x ≤ m) (y0 : 0 < y) (x0 : 0 ≤ x) (ht : tn = x / y) : (g.natAbs : Int) * (x - tn * y) + ((f - tn * g).natAbs : Int) * y ≤ m := by
  have t0 : 0 ≤ tn := by
    rw [ht]
    exact Int.ediv_nonneg x0 (by omega)
  have a1 : ((f - tn * g).natAbs : Int) ≤ f.natAbs + tn * g.natAbs := by
    have e : ((tn * g).natAbs : Int) = tn * g.natAbs := by
      rw [Int.natAbs_mul]
      rcases abs_cases tn with ⟨_, h2⟩ | ⟨h1, _⟩
      · rw [Int.natCast_mul, h2]
      · omega
    omega
  have a2 : ((f - tn * g).natAbs : Int) * y ≤ (f.natAbs + tn * g.natAbs) * y := Int.mul_le_mul_of_nonneg_right a1 (by omega)
  grind
theorem take_mem {ps : List (Int × Int)} {i : Nat} {x : Int × Int} (h : ps[i]? = some x) : ps.take (i + 1) = ps.take i ++ [x] := by
  rw [List.take_add_one, h]
  rfl
def lowH (high : Option Int) (x : Int) : Int := match high with
  | none => x
  | some h => if x < h then x else h
structure FitI (ps : List (Int × Int)) (low : Int) (high : Option Int) : Prop where
  fit : Fit ps low high
  nn : high = none → ∀ x ∈ ps, 0 ≤ x.2
  pp : (∀ x ∈ ps, 0 < x.2) → high = none
  l0 : 0 ≤ low
  l1 : low ≤ 10 ^ 90
  h0 : ∀ h, high = some h → -(10 ^ 90) ≤ h ∧ h ≤ 10 ^ 90
theorem fit_none {ps : List (Int × Int)} (h : ∀ m, ¬ (0 ≤ m ∧ ∀ x ∈ ps, 0 ≤ x.1 + m * x.2)) : Fit ps 1 (some 0) := fun m =>
  ⟨fun z => absurd z (h m), fun z => by
    have a := z.1
    have b := z.2 0 rfl
    omega⟩
theorem div_small {b g : Int} (hg : 0 < g) (h1 : -(10 ^ 80) ≤ b) (h2 : b ≤ 10 ^ 80) : -(10 ^ 80) ≤ b / g ∧ b / g ≤ 10 ^ 80 := by
  have e := Int.emod_add_mul_ediv b g
  have r0 := Int.emod_nonneg b (show g ≠ 0 by omega)
  have r1 := Int.emod_lt_of_pos b hg
  rcases Int.le_total 0 b with hb | hb
  · have a := Int.ediv_nonneg hb (show 0 ≤ g by omega)
    have c := Int.ediv_le_self g hb
    omega
  · have a : b / g ≤ 0 := by
      have := Int.ediv_le_ediv hg hb
      rw [Int.zero_ediv] at this
      exact this
    refine ⟨?_, by omega⟩
    apply Classical.byContradiction
    intro hn
    have : g * (b / g) ≤ 1 * (b / g) := Int.mul_le_mul_of_nonpos_right (by omega) a
    have q : b / g ≤ -(10 ^ 80) - 1 := by omega
    have q2 : g * (b / g) ≤ g * (-(10 ^ 80) - 1) := Int.mul_le_mul_of_nonneg_left q (by omega)
    have q3 : g * (-(10 ^ 80) - 1) = -(g * (10 ^ 80)) - g := by grind
    have q4 : 1 * (10 ^ 80 : Int) ≤ g * (10 ^ 80) := Int.mul_le_mul_of_nonneg_right (by omega) (by decide)
    omega
theorem FitI.up {ps : List (Int × Int)} {low b g : Int} {high : Option Int} (F : FitI ps low high) (hg : 0 < g) (h1 : -(10 ^ 80) ≤ b) (h2 : b ≤ 10 ^ 80) : FitI (ps ++ [(b, g)]) (if -(b / g) > low then -(b / g) else low) high := by
  have d := div_small hg h1 h2
  refine ⟨fun m => ?_, fun e x hx => ?_, fun h => F.pp fun x hx => h x (List.mem_append_left _ hx), by have := F.l0; split <;> omega, by have := F.l1; split <;> omega, F.h0⟩
  · have z := F.fit m
    have y := fit_pos (b := b) (m := m) hg
    constructor
    · rintro ⟨m0, h⟩
      have a := z.mp ⟨m0, fun x hx => h x (List.mem_append_left _ hx)⟩
      have c := y.mp (h (b, g) (List.mem_append_right _ (List.mem_singleton.mpr rfl)))
      exact ⟨by split <;> omega, a.2⟩
    · rintro ⟨a, c⟩
      have a2 : low ≤ m ∧ -(b / g) ≤ m := by split at a <;> omega
      obtain ⟨m0, h⟩ := z.mpr ⟨a2.1, c⟩
      refine ⟨m0, fun x hx => ?_⟩
      rcases List.mem_append.mp hx with hx | hx
      · exact h x hx
      · rw [List.mem_singleton.mp hx]
        exact y.mpr a2.2
  · rcases List.mem_append.mp hx with hx | hx
    · exact F.nn e x hx
    · rw [List.mem_singleton.mp hx]
      show 0 ≤ g
      omega
theorem FitI.down {ps : List (Int × Int)} {low b g : Int} {high : Option Int} (F : FitI ps low high) (hg : g < 0) (h1 : -(10 ^ 80) ≤ b) (h2 : b ≤ 10 ^ 80) :
    FitI (ps ++ [(b, g)]) low (some (lowH high (b / -g))) := by
  have d := div_small (show 0 < -g by omega) h1 h2
  refine ⟨fun m => ?_, fun e => (nomatch e), fun h => absurd (h (b, g) (List.mem_append_right _ (List.mem_singleton.mpr rfl))) (by show ¬ 0 < g; omega), F.l0, F.l1, fun h e => ?_⟩
  · have z := F.fit m
    have y := fit_neg (b := b) (m := m) hg
    constructor
    · rintro ⟨m0, h⟩
      have a := z.mp ⟨m0, fun x hx => h x (List.mem_append_left _ hx)⟩
      have c := y.mp (h (b, g) (List.mem_append_right _ (List.mem_singleton.mpr rfl)))
      refine ⟨a.1, fun k e => ?_⟩
      injection e with e
      subst e
      cases high with
      | none => exact c
      | some h =>
        have := a.2 h rfl
        show m ≤ if b / -g < h then b / -g else h
        split <;> omega
    · rintro ⟨a, c⟩
      have c2 := c _ rfl
      have c3 : m ≤ b / -g ∧ ∀ h, high = some h → m ≤ h := by
        cases high with
        | none => exact ⟨c2, fun h e => (nomatch e)⟩
        | some h =>
          have c4 : m ≤ if b / -g < h then b / -g else h := c2
          refine ⟨by split at c4 <;> omega, fun k e => ?_⟩
          injection e with e
          split at c4 <;> omega
      obtain ⟨m0, h⟩ := z.mpr ⟨a, c3.2⟩
      refine ⟨m0, fun x hx => ?_⟩
      rcases List.mem_append.mp hx with hx | hx
      · exact h x hx
      · rw [List.mem_singleton.mp hx]
        exact y.mpr c3.1
  · injection e with e
    subst e
    cases high with
    | none => exact ⟨by show -(10 ^ 90) ≤ b / -g; omega, by show b / -g ≤ 10 ^ 90; omega⟩
    | some h =>
      have := F.h0 h rfl
      show -(10 ^ 90) ≤ (if b / -g < h then b / -g else h) ∧ (if b / -g < h then b / -g else h) ≤ 10 ^ 90
      split <;> omega
theorem FitI.flat {ps : List (Int × Int)} {low b : Int} {high : Option Int} (F : FitI ps low high) (hb : 0 ≤ b) (z : (∀ x ∈ ps ++ [(b, 0)], 0 < x.2) → high = none := fun h => absurd (h (_, 0) (List.mem_append_right _ (List.mem_singleton.mpr rfl))) (show ¬ (0 : Int) < 0 by decide)) : FitI (ps ++ [(b, 0)]) low high := by
  refine ⟨fun m => ?_, fun e x hx => ?_, z, F.l0, F.l1, F.h0⟩
  · have z := F.fit m
    constructor
    · rintro ⟨m0, h⟩
      exact z.mp ⟨m0, fun x hx => h x (List.mem_append_left _ hx)⟩
    · intro h
      obtain ⟨m0, h⟩ := z.mpr h
      refine ⟨m0, fun x hx => ?_⟩
      rcases List.mem_append.mp hx with hx | hx
      · exact h x hx
      · rw [List.mem_singleton.mp hx]
        show 0 ≤ b + m * 0
        omega
  · rcases List.mem_append.mp hx with hx | hx
    · exact F.nn e x hx
    · rw [List.mem_singleton.mp hx]
      exact Int.le_refl 0
structure CrB (p1 s p2 t : Int) (e : Bool) (st os sa oa : Int) : Prop where
  c : Cross p1 s p2 t e st os sa oa
  b1 : st ≤ 10 ^ 18
  b2 : -(10 ^ 18) ≤ os
  b3 : os ≤ 10 ^ 18
  b4 : -(10 ^ 40) ≤ oa
  b5 : oa ≤ 10 ^ 40
theorem gcd_abs {s t : Int} (ht : t ≠ 0) : Int.gcd (s / (Int.gcd s t : Int)) ((t.natAbs : Int) / (Int.gcd s t : Int)) = 1 := by
  have g0 : 0 < Int.gcd s t := Int.gcd_pos_of_ne_zero_right s ht
  have h := Int.gcd_ediv_gcd_ediv_gcd g0
  rcases abs_cases t with ⟨_, h2⟩ | ⟨_, h2⟩
  · rw [h2]
    exact h
  · rw [h2, Int.neg_ediv_of_dvd (Int.gcd_dvd_right s t), Int.gcd_neg]
    exact h
theorem gcd_le9 {s t : Int} (ht : t ≠ 0) (h1 : -(10 ^ 18) ≤ t) (h2 : t ≤ 10 ^ 18) : 0 < (Int.gcd s t : Int) ∧ (Int.gcd s t : Int) ≤ 10 ^ 18 := by
  have a := Int.gcd_pos_of_ne_zero_right s ht
  have b := Int.gcd_le_natAbs_right s ht
  omega
theorem div_le {a g B : Int} (hg : 0 < g) (h1 : -B ≤ a) (h2 : a ≤ B) : -B ≤ a / g ∧ a / g ≤ B := by
  have e := Int.emod_add_mul_ediv a g
  have r0 := Int.emod_nonneg a (show g ≠ 0 by omega)
  have r1 := Int.emod_lt_of_pos a hg
  have B0 : 0 ≤ B := by omega
  have gB : 1 * B ≤ g * B := Int.mul_le_mul_of_nonneg_right (by omega) B0
  constructor
  · apply Classical.byContradiction
    intro hn
    have q2 : g * (a / g) ≤ g * (-B - 1) := Int.mul_le_mul_of_nonneg_left (by omega) (by omega)
    have q3 : g * (-B - 1) = -(g * B) - g := by grind
    omega
  · apply Classical.byContradiction
    intro hn
    have q2 : g * (B + 1) ≤ g * (a / g) := Int.mul_le_mul_of_nonneg_left (by omega) (by omega)
    have q3 : g * (B + 1) = g * B + g := by grind
    omega
theorem fdiv_le {a g B : Int} (hg : g ≠ 0) (h1 : -B ≤ a) (h2 : a ≤ B) : -B ≤ a.fdiv g ∧ a.fdiv g ≤ B := by
  rcases Int.lt_or_gt_of_ne hg with h | h
  · have e : a.fdiv g = (-a) / (-g) := by
      rw [← Int.neg_fdiv_neg, Int.fdiv_eq_ediv_of_nonneg _ (by omega)]
    rw [e]
    exact div_le (by omega) (by omega) (by omega)
  · rw [Int.fdiv_eq_ediv_of_nonneg _ (by omega)]
    exact div_le h h1 h2
def BndR (e : Bool) (ps : List (Int × Int)) (low : Int) (high : Option Int) : Prop := if e = true then low = 1 ∧ high = some 0 else FitR ps low high
end KD

/-! Crossings, over data. -/
namespace KD
open PySem PySem.Spec PyProof.Rows L2 KP
def optN : Option Int → D
  | none => .non
  | some i => .int i
def wayD (q : Pt) : D := .tup [.int q.dy, .int q.po, .int q.sr]
theorem fmodP {i j : Int} (h : 0 < j) : i.fmod j = i % j := Int.fmod_eq_emod_of_nonneg _ (by omega)
theorem fdivP {i j : Int} (h : 0 < j) : i.fdiv j = i / j := Int.fdiv_eq_ediv_of_nonneg _ (by omega)
section
variable {b : Int} {Q : D → Int → Prop} {E : XC → Int → Prop}
theorem q_way {q : Pt} (k : Q (wayD q) b) : W_Painter_way [.d q.o] b Q E := by
  unfold W_Painter_way
  exact ⟨rfl, rfl, k⟩
theorem q_gcd {x y : Int} (k : Q (.int (Int.gcd x y : Int)) b) : W_greatest_divisor [.d (.int x), .d (.int y)] b Q E := by
  unfold W_greatest_divisor
  refine ⟨rfl, rfl, ?_⟩
  refine ⟨fun m en => ∃ u v : Int, en = ⟨[some (.d (.int u)), some (.d (.int v))], b⟩ ∧ 0 ≤ u ∧ 0 ≤ v ∧ m = v.toNat ∧ Int.gcd u v = Int.gcd x y, ⟨_, _, _, rfl, ?_, ?_, rfl, ?_⟩, ?_⟩
  · rw [ifabs]; omega
  · rw [ifabs]; omega
  · rw [ifabs, ifabs]; rfl
  rintro m en ⟨u, v, rfl, u0, v0, rfl, hg⟩
  show (if (!decide (v = 0)) = true then _ else _)
  refine ite2 (fun e => ?_) (fun e => ?_)
  · have vn : v ≠ 0 := by simpa using e
    refine ⟨vn, rfl, ?_⟩
    refine ⟨(u % v).toNat, ?_, v, u.fmod v, rfl, v0, ?_, ?_, ?_⟩
    · have := Int.emod_lt_of_pos u (show 0 < v by omega)
      have := Int.emod_nonneg u vn
      omega
    · rw [fmodP (by omega)]; exact Int.emod_nonneg _ vn
    · rw [fmodP (by omega)]
    · rw [fmodP (by omega), gcd_mod]; exact hg
  · have vz : v = 0 := by simpa using e
    subst vz
    have : (Int.gcd x y : Int) = u := by
      rw [← hg, Int.gcd_zero_right]
      omega
    rw [this] at k
    exact k
theorem q_inv {n m : Int} (m0 : 0 < m) (mb : m ≤ 10 ^ 40) (hg : Int.gcd n m = 1) (k : ∀ x : Int, 0 ≤ x → x < m → (n * x) % m = 1 % m → Q (.int x) b) : W_inverse [.d (.int n), .d (.int m)] b Q E := by
  unfold W_inverse
  have nm0 := Int.emod_nonneg n (show m ≠ 0 by omega)
  have nm1 := Int.emod_lt_of_pos n m0
  refine ⟨rfl, (show m ≠ 0 by omega), by simp, rfl, ?_⟩
  refine ⟨fun c en => ∃ (x y f g : Int) (y6 : Option B), en = ⟨[some (.d (.int n)), some (.d (.int m)), some (.d (.int x)), some (.d (.int y)), some (.d (.int f)), some (.d (.int g)), y6], b⟩ ∧ 0 ≤ x ∧ x ≤ m ∧ 0 ≤ y ∧ y ≤ m ∧ c = y.toNat ∧ Int.gcd x y = 1 ∧
      (f.natAbs : Int) * y + g.natAbs * x ≤ m ∧ (g = 0 ∨ 1 ≤ x) ∧ (∃ u, f * n = x + m * u) ∧ (∃ u, g * n = y + m * u), ⟨_, n.fmod m, m, 1, 0, none, rfl, ?_, ?_, ?_, ?_, rfl, ?_, ?_, .inl rfl, ⟨n / m, ?_⟩, ⟨-1, by omega⟩⟩, ?_⟩
  · rw [fmodP m0]; exact nm0
  · rw [fmodP m0]; omega
  · omega
  · omega
  · rw [fmodP m0, Int.gcd_comm, gcd_mod]; exact hg
  · rw [fmodP m0]; simp
  · rw [fmodP m0]
    have := Int.emod_add_mul_ediv n m
    omega
  rintro c en ⟨x, y, f, g, y6, rfl, x0, xm, y0, ym, rfl, hxy, hb, hgx, ⟨u, hu⟩, ⟨v, hv⟩⟩
  show (if (!decide (y = 0)) = true then _ else _)
  refine ite2 (fun e => ?_) (fun e => ?_)
  · have yn : y ≠ 0 := by simpa using e
    have tq0 : 0 ≤ x / y := Int.ediv_nonneg x0 y0
    have tq1 : x / y ≤ x := Int.ediv_le_self y x0
    have fb : (f.natAbs : Int) ≤ m := by
      have h1 : (f.natAbs : Int) * 1 ≤ f.natAbs * y := Int.mul_le_mul_of_nonneg_left (by omega) (by omega)
      have h2 : 0 ≤ (g.natAbs : Int) * x := Int.mul_nonneg (by omega) x0
      omega
    have gb : (g.natAbs : Int) ≤ m := by
      rcases hgx with rfl | h1
      · simp
        omega
      · have h1 : (g.natAbs : Int) * 1 ≤ g.natAbs * x := Int.mul_le_mul_of_nonneg_left (by omega) (by omega)
        have h2 : 0 ≤ (f.natAbs : Int) * y := Int.mul_nonneg (by omega) y0
        omega
    have em := Int.emod_add_mul_ediv x y
    have r0 := Int.emod_nonneg x yn
    have r1 := Int.emod_lt_of_pos x (show 0 < y by omega)
    have cm : x / y * y = y * (x / y) := Int.mul_comm _ _
    have fd : x.fdiv y = x / y := fdivP (by omega)
    refine ⟨⟨yn, by unfold Big; omega, by unfold Big; omega⟩, ?_⟩
    refine ⟨⟨by rw [fd]; unfold Big; omega, by rw [fd]; unfold Big; omega, by unfold Big; omega, by unfold Big; omega⟩, rfl, ?_⟩
    refine ⟨⟨by rw [fd]; unfold Big; omega, by rw [fd]; unfold Big; omega, by unfold Big; omega, by unfold Big; omega⟩, rfl, ?_⟩
    refine ⟨(x % y).toNat, by omega, y, x - x.fdiv y * y, g, f - x.fdiv y * g, _, rfl, y0, ym, by rw [fd]; omega, by rw [fd]; omega, by rw [fd]; congr 1; omega, ?_, by rw [fd]; exact inv_step hb (by omega) x0 rfl, .inr (by omega), ⟨v, hv⟩, ⟨u - x / y * v, by rw [fd]; grind⟩⟩
    rw [fd, show x - x / y * y = x % y by omega, gcd_mod]
    exact hxy
  · have yz : y = 0 := by simpa using e
    subst yz
    have x1 : x = 1 := by
      rw [Int.gcd_zero_right] at hxy
      omega
    subst x1
    refine ⟨(show m ≠ 0 by omega), ?_⟩
    show Q (.int (f.fmod m)) b
    rw [fmodP m0]
    refine k (f % m) (Int.emod_nonneg _ (by omega)) (Int.emod_lt_of_pos _ m0) ?_
    rw [Int.mul_emod, Int.emod_emod, ← Int.mul_emod, Int.mul_comm n f, hu, Int.add_mul_emod_self_left]
/-- a condition of least_fit -/
def cdD (x : Int × Int) : D := .tup [.int x.1, .int x.2]
theorem q_fit {ps : List (Int × Int)} (hb : ∀ x ∈ ps, -(10 ^ 80) ≤ x.1 ∧ x.1 ≤ 10 ^ 80 ∧ -(10 ^ 80) ≤ x.2 ∧ x.2 ≤ 10 ^ 80) (k : ∀ low high, FitR ps low high → Q (.tup [.int low, optN high]) b) : W_least_fit [.d (.lst (ps.map cdD))] b Q E := by
  unfold W_least_fit
  refine ⟨rfl, by simp, rfl, ?_⟩
  have none_ret : (∀ m, ¬ (0 ≤ m ∧ ∀ x ∈ ps, 0 ≤ x.1 + m * x.2)) → ¬ (∀ x ∈ ps, 0 < x.2) → Q (.tup [.int 1, .int 0]) b := fun h1 h2 =>
    k 1 (some 0) ⟨fit_none h1, fun h e => .inr ⟨rfl, by injection e with e; omega⟩, fun e => (nomatch e), fun z => absurd z h2, by decide, by decide, fun h e => by injection e with e; subst e; decide⟩
  refine forGo_ind _ (fun i en => ∃ (low : Int) (high : Option Int) (y3 y4 y5 : Option B), en = ⟨[some (.d (.lst (ps.map cdD))), some (.d (.int low)), some (.d (optN high)), y3, y4, y5], b⟩ ∧ FitI (ps.take i) low high) ?_ ?_ ?_
  · exact ⟨0, none, none, none, none, rfl, ⟨fun m => ⟨fun z => ⟨z.1, fun h e => nomatch e⟩, fun z => ⟨z.1, fun x hx => nomatch hx⟩⟩, fun _ x hx => (nomatch hx), fun _ => rfl, by decide, by decide, fun h e => (nomatch e)⟩⟩
  · rintro i x en J hx ⟨low, high, y3, y4, y5, rfl, F⟩ hJ
    rw [List.getElem?_map] at hx
    cases hp : ps[i]? with
    | none => rw [hp] at hx; cases hx
    | some bg =>
      rw [hp] at hx; cases hx
      obtain ⟨b0, g⟩ := bg
      obtain ⟨b1, b2, g1, g2⟩ := hb _ (List.mem_of_getElem? hp)
      rw [show ps.take (i + 1) = ps.take i ++ [(b0, g)] from take_mem hp] at hJ
      refine ⟨rfl, ?_⟩
      show (if decide (g > 0) = true then _ else _)
      refine ite2 (fun e => ?_) (fun e => ?_)
      · have g0 : 0 < g := of_decide_eq_true e
        refine ⟨⟨(show g ≠ 0 by omega), by unfold Big; omega, by unfold Big; omega⟩, ?_⟩
        refine hJ _ ⟨_, high, _, _, y5, rfl, ?_⟩
        rw [fdivP g0]
        exact F.up g0 b1 b2
      · have g0 : ¬ 0 < g := of_decide_eq_false (Bool.eq_false_iff.mpr e)
        show (if decide (g < 0) = true then _ else _)
        refine ite2 (fun e => ?_) (fun e => ?_)
        · have gn : g < 0 := of_decide_eq_true e
          refine ⟨⟨(show -g ≠ 0 by omega), by unfold Big; omega, by unfold Big; omega⟩, ?_⟩
          refine ⟨fun x en => x = .int (lowH high (b0 / -g)) ∧ en = ⟨[some (.d (.lst (ps.map cdD))), some (.d (.int low)), some (.d (optN high)), some (.d (.int b0)), some (.d (.int g)), some (.d (.int (b0.fdiv (-g))))], b⟩, ?_, ?_⟩
          · have fd : b0.fdiv (-g) = b0 / -g := fdivP (by omega)
            cases high with
            | none => exact ⟨by rw [fd]; rfl, rfl⟩
            | some h => exact ⟨by rw [fd]; rfl, rfl⟩
          · rintro x en ⟨rfl, rfl⟩
            exact hJ _ ⟨low, some _, _, _, _, rfl, F.down gn b1 b2⟩
        · have gz : g = 0 := by
            have : ¬ g < 0 := of_decide_eq_false (Bool.eq_false_iff.mpr e)
            omega
          subst gz
          show (if decide (b0 < 0) = true then _ else _)
          refine ite2 (fun e => ?_) (fun e => ?_)
          · have bn : b0 < 0 := of_decide_eq_true e
            have hm := List.mem_of_getElem? hp
            refine ⟨by simp, none_ret (fun m z => ?_) fun z => absurd (z _ hm) (show ¬ (0 : Int) < 0 by decide)⟩
            have := z.2 _ hm
            simp at this
            omega
          · have bn : ¬ b0 < 0 := of_decide_eq_false (Bool.eq_false_iff.mpr e)
            exact hJ _ ⟨low, high, _, _, y5, rfl, F.flat (by omega)⟩
  · rintro en ⟨low, high, y3, y4, y5, rfl, F⟩
    rw [List.length_map, List.take_length] at F
    cases high with
    | none => exact ⟨by simp, k low none ⟨F.fit, fun h e => (nomatch e), F.nn, F.pp, F.l0, F.l1, F.h0⟩⟩
    | some h =>
      show (if decide (low ≤ h) = true then _ else _)
      refine ite2 (fun e => ?_) (fun e => ?_)
      · have le : low ≤ h := of_decide_eq_true e
        exact ⟨by simp, k low (some h) ⟨F.fit, fun k e => .inl (by injection e with e; omega), fun e => (nomatch e), F.pp, F.l0, F.l1, F.h0⟩⟩
      · have gt : ¬ low ≤ h := of_decide_eq_false (Bool.eq_false_iff.mpr e)
        refine ⟨by simp, none_ret (fun m z => ?_) fun z => nomatch F.pp z⟩
        have := (F.fit m).mp z
        have := this.2 h rfl
        omega
def crF (q1 q2 : Pt) (e : Bool) (st os sa oa : Int) : List (Str × D) := [("one", wayD q1), ("other", wayD q2), ("is_empty", .bl e), ("step", .int st), ("other_step", .int os), ("start", .int sa), ("other_start", .int oa)]
abbrev crD (q1 q2 : Pt) (e : Bool) (st os sa oa : Int) : D := .obj "Crossing" (crF q1 q2 e st os sa oa)
theorem q_Crossing_init {q1 q2 : Pt} {Qn : List (Str × D) → Int → Prop} (o1 : q1.Ok) (o2 : q2.Ok) (k : ∀ e st os sa oa, CrB q1.po q1.sr q2.po q2.sr e st os sa oa → Qn (crF q1 q2 e st os sa oa) b) : W_Crossing_init [.d (wayD q1), .d (wayD q2)] b Qn E := by
  unfold W_Crossing_init
  obtain ⟨n1, d1, p1, s⟩ := q1
  obtain ⟨n2, d2, p2, t⟩ := q2
  obtain ⟨_, _, _, p10, p11, s0, s1, sn⟩ := o1
  obtain ⟨_, _, _, p20, p21, t0, t1, tn⟩ := o2
  dsimp only at p10 p11 s0 s1 sn p20 p21 t0 t1 tn
  have ⟨g0, g1⟩ := gcd_le9 (s := s) tn t0 t1
  refine ⟨rfl, rfl, rfl, rfl, ?_⟩
  refine q_gcd ?_
  refine ⟨rfl, rfl, ⟨(show (Int.gcd s t : Int) ≠ 0 by omega), (show -Big < (Int.gcd s t : Int) by unfold Big; omega), (show (Int.gcd s t : Int) < Big by unfold Big; omega)⟩, rfl, ?_⟩
  have gb := fdiv_le (g := (Int.gcd s t : Int)) (B := 10 ^ 31) (by omega) (show -(10 ^ 31) ≤ p2 - p1 by omega) (show p2 - p1 ≤ 10 ^ 31 by omega)
  have tb := Int.gcd_le_natAbs_right s tn
  have estep : (if t < 0 then -t else t).fdiv (Int.gcd s t) = (t.natAbs : Int) / (Int.gcd s t : Int) := by rw [ifabs, Int.fdiv_eq_ediv_of_nonneg _ (by omega)]
  have es : s.fdiv (Int.gcd s t) = s / (Int.gcd s t : Int) := Int.fdiv_eq_ediv_of_nonneg _ (by omega)
  have sb : 0 < (t.natAbs : Int) / (Int.gcd s t : Int) ∧ (t.natAbs : Int) / (Int.gcd s t : Int) ≤ 10 ^ 18 := by
    have h1 : 0 < (t.natAbs : Int) / (Int.gcd s t : Int) := Int.ediv_pos_of_pos_of_dvd (by omega) (by omega) (Int.dvd_natAbs.mpr (Int.gcd_dvd_right s t))
    have h2 := Int.ediv_le_self (Int.gcd s t : Int) (show 0 ≤ (t.natAbs : Int) by omega)
    exact ⟨h1, by omega⟩
  have sg := div_le (a := s) (B := 10 ^ 18) g0 s0 s1
  refine ⟨rfl, (show 0 < 1000 by decide), ?_⟩
  refine ⟨rfl, (show 1 < 1000 by decide), ?_⟩
  refine ⟨rfl, (show 2 < 1000 by decide), ?_⟩
  refine ⟨⟨(show (Int.gcd s t : Int) ≠ 0 by omega), (show -Big < (Int.gcd s t : Int) by unfold Big; omega), (show (Int.gcd s t : Int) < Big by unfold Big; omega)⟩, rfl, (show 3 < 1000 by decide), ?_⟩
  rw [estep]
  generalize hst : (t.natAbs : Int) / (Int.gcd s t : Int) = st at sb ⊢
  refine ⟨fun x en => x = .int (if 0 < t then s / (Int.gcd s t : Int) else -(s / (Int.gcd s t : Int))) ∧ en = ⟨[some (.slf "Crossing" [("one", wayD ⟨n1, d1, p1, s⟩), ("other", wayD ⟨n2, d2, p2, t⟩), ("is_empty", .bl (!decide ((p2 - p1).fmod (Int.gcd s t) = 0))), ("step", .int st)]), some (.d (wayD ⟨n1, d1, p1, s⟩)), some (.d (wayD ⟨n2, d2, p2, t⟩)), some (.d (.int s)), some (.d (.int t)), some (.d (.int (Int.gcd s t : Int))), some (.d (.int ((p2 - p1).fdiv (Int.gcd s t)))), some (.d (.int ((p2 - p1).fmod (Int.gcd s t))))], b⟩, ?_, ?_⟩
  · show (if decide (t > 0) = true then _ else _)
    refine ite2 (fun e => ?_) (fun e => ?_)
    · have t0 : 0 < t := of_decide_eq_true e
      refine ⟨⟨(show (Int.gcd s t : Int) ≠ 0 by omega), (show -Big < (Int.gcd s t : Int) by unfold Big; omega), (show (Int.gcd s t : Int) < Big by unfold Big; omega)⟩, ?_, rfl⟩
      rw [if_pos t0, es]
    · have t0 : ¬ 0 < t := of_decide_eq_false (Bool.eq_false_iff.mpr e)
      refine ⟨⟨(show (Int.gcd s t : Int) ≠ 0 by omega), (show -Big < (Int.gcd s t : Int) by unfold Big; omega), (show (Int.gcd s t : Int) < Big by unfold Big; omega)⟩, ?_, rfl⟩
      rw [if_neg t0, es]
  rintro x en ⟨rfl, rfl⟩
  refine ⟨rfl, (show 4 < 1000 by decide), ?_⟩
  refine ⟨⟨(show (Int.gcd s t : Int) ≠ 0 by omega), (show -Big < (Int.gcd s t : Int) by unfold Big; omega), (show (Int.gcd s t : Int) < Big by unfold Big; omega)⟩, rfl, ?_⟩
  show W_inverse [.d (.int (s.fdiv (Int.gcd s t))), .d (.int st)] b _ _
  rw [es]
  refine q_inv sb.1 (by omega) (by rw [← hst]; exact gcd_abs tn) fun inv i0 i1 hinv => ?_
  refine ⟨⟨(show -Big < (p2 - p1).fdiv (Int.gcd s t) by unfold Big; omega), (show (p2 - p1).fdiv (Int.gcd s t) < Big by unfold Big; omega), by unfold Big; omega, by unfold Big; omega⟩, rfl, (show st ≠ 0 by omega), rfl, (show 5 < 1000 by decide), ?_⟩
  rw [fmodP sb.1]
  have c0 := Int.emod_nonneg ((p2 - p1).fdiv (Int.gcd s t) * inv) (show st ≠ 0 by omega)
  have c1 := Int.emod_lt_of_pos ((p2 - p1).fdiv (Int.gcd s t) * inv) sb.1
  generalize hsa : (p2 - p1).fdiv (Int.gcd s t) * inv % st = sa at c0 c1 ⊢
  have m1 : sa * s ≤ 10 ^ 18 * 10 ^ 18 := by
    have h1 := Int.mul_le_mul_of_nonneg_left s1 c0
    have h2 := Int.mul_le_mul_of_nonneg_right (show sa ≤ 10 ^ 18 by omega) (show (0 : Int) ≤ 10 ^ 18 by decide)
    omega
  have m2 : -(10 ^ 18 * 10 ^ 18) ≤ sa * s := by
    have h1 := Int.mul_le_mul_of_nonneg_left s0 c0
    have h2 := Int.mul_le_mul_of_nonneg_right (show sa ≤ 10 ^ 18 by omega) (show (0 : Int) ≤ 10 ^ 18 by decide)
    rw [Int.mul_neg] at h1
    omega
  have ob := fdiv_le (a := p1 + sa * s - p2) (g := t) (B := 10 ^ 40) tn (by omega) (by omega)
  refine ⟨rfl, rfl, ⟨(show -Big < sa by unfold Big; omega), (show sa < Big by unfold Big; omega), (show -Big < s by unfold Big; omega), (show s < Big by unfold Big; omega)⟩, rfl, ⟨tn, (show -Big < t by unfold Big; omega), (show t < Big by unfold Big; omega)⟩, rfl, (show 6 < 1000 by decide), ?_⟩
  have ee : (!decide ((p2 - p1).fmod (Int.gcd s t) = 0)) = decide ((p2 - p1).fmod (Int.gcd s t) ≠ 0) := by simp
  have C : CrB p1 s p2 t (decide ((p2 - p1).fmod (Int.gcd s t) ≠ 0)) st (if 0 < t then s / (Int.gcd s t : Int) else -(s / (Int.gcd s t : Int))) sa ((p1 + sa * s - p2).fdiv t) :=
    ⟨cross_mk sn tn rfl rfl rfl hst.symm rfl hinv hsa.symm rfl, sb.2, by split <;> omega, by split <;> omega, ob.1, ob.2⟩
  have := k _ _ _ _ _ C
  rw [← ee] at this
  exact ⟨rfl, this⟩
section
variable {q1 q2 : Pt} {e : Bool} {st os sa oa : Int}
theorem q_number {m : Int} (C : CrB q1.po q1.sr q2.po q2.sr e st os sa oa) (m0 : -(10 ^ 91) ≤ m) (m1 : m ≤ 10 ^ 91) (k : Q (.int (sa + m * st)) b) : W_Crossing_number [.d (crD q1 q2 e st os sa oa), .d (.int m)] b Q E := by
  unfold W_Crossing_number
  have c1 := C.b1
  have c2 := C.c.pos
  refine ⟨rfl, rfl, rfl, ⟨by unfold Big; omega, by unfold Big; omega, by unfold Big; omega, by unfold Big; omega⟩, k⟩
theorem num_b {m : Int} (C : CrB q1.po q1.sr q2.po q2.sr e st os sa oa) (m0 : -(10 ^ 91) ≤ m) (m1 : m ≤ 10 ^ 91) : -(10 ^ 110) ≤ sa + m * st ∧ sa + m * st ≤ 10 ^ 110 := by
  have c1 := C.b1
  have c2 := C.c.pos
  have c3 := C.c.st0
  have c4 := C.c.st1
  have a1 : m * st ≤ 10 ^ 91 * st := Int.mul_le_mul_of_nonneg_right m1 (by omega)
  have a2 : -(10 ^ 91) * st ≤ m * st := Int.mul_le_mul_of_nonneg_right m0 (by omega)
  omega
theorem q_common_post {m : Int} (o1 : q1.Ok) (C : CrB q1.po q1.sr q2.po q2.sr e st os sa oa) (m0 : -(10 ^ 91) ≤ m) (m1 : m ≤ 10 ^ 91) (k : Q (.int (q1.po + (sa + m * st) * q1.sr)) b) : W_Crossing_common_post [.d (crD q1 q2 e st os sa oa), .d (.int m)] b Q E := by
  unfold W_Crossing_common_post
  have nb := num_b C m0 m1
  have c5 := o1.s0
  have c6 := o1.s1
  refine ⟨rfl, rfl, ⟨rfl, rfl, ?_⟩⟩
  refine q_number C m0 m1 ?_
  refine ⟨rfl, ⟨by unfold Big; omega, by unfold Big; omega, by unfold Big; omega, by unfold Big; omega⟩, k⟩
theorem q_bounds {x : D} {xs : List D} {ps : List (Int × Int)} (hs : starD x = some xs) (hx : xs = ps.map cdD) (hl : ps.length ≤ 100) (hb : ∀ x ∈ ps, -(10 ^ 80) ≤ x.1 ∧ x.1 ≤ 10 ^ 80 ∧ -(10 ^ 80) ≤ x.2 ∧ x.2 ≤ 10 ^ 80) (C : CrB q1.po q1.sr q2.po q2.sr e st os sa oa)
    (k : ∀ low high, BndR e ((oa, os) :: ps) low high → Q (.tup [.int low, optN high]) b) : W_Crossing_bounds [.d (crD q1 q2 e st os sa oa), .d x] b Q E := by
  unfold W_Crossing_bounds
  subst hx
  refine ⟨rfl, rfl, ?_⟩
  show (if e = true then _ else _)
  refine ite2 (fun he => ?_) (fun he => ?_)
  · refine ⟨by simp, k 1 (some 0) ?_⟩
    unfold BndR
    rw [if_pos he]
    exact ⟨rfl, rfl⟩
  · refine ⟨rfl, rfl, by simp, ?_⟩
    show (match starD x with | some xs => _ | none => False)
    rw [hs]
    have ha : allD (B.d (cdD (oa, os)) :: ((ps.map cdD).map B.d ++ [])) = some (((oa, os) :: ps).map cdD) := by
      rw [List.append_nil]
      have : ∀ l : List D, allD (l.map B.d) = some l := fun l => by
        induction l with
        | nil => rfl
        | cons y l ih => rw [List.map_cons, allD, ih]; rfl
      exact this (((oa, os) :: ps).map cdD)
    show (match allD (B.d (cdD (oa, os)) :: ((ps.map cdD).map B.d ++ [])) with | some xs => _ | none => False)
    rw [ha]
    refine ⟨by simp; omega, ?_⟩
    refine q_fit (fun x hx => ?_) fun low high F => k low high ?_
    · rcases List.mem_cons.mp hx with rfl | hx
      · have := C.b2
        have := C.b3
        have := C.b4
        have := C.b5
        dsimp only
        omega
      · exact hb x hx
    · unfold BndR
      rw [if_neg he]
      exact F
end
end
end KD

/-! Common posts, numbers of posts, over data. -/
namespace KD
open PySem PySem.Spec PyProof.Rows L2 KP
def cpN : Option (Int × Option Int × Int) → D
  | none => .non
  | some (f, l, d) => .tup [.int f, optN l, .int d]
def CpB (r : Option (Int × Option Int × Int)) : Prop := ∀ f l d, r = some (f, l, d) → (-(10 ^ 130) ≤ f ∧ f ≤ 10 ^ 130) ∧ (∀ x, l = some x → -(10 ^ 130) ≤ x ∧ x ≤ 10 ^ 130) ∧ 0 ≤ d ∧ d ≤ 10 ^ 40
theorem post_b {q : Pt} {n : Int} (o : q.Ok) (h : -(10 ^ 110) ≤ n ∧ n ≤ 10 ^ 110) : -(10 ^ 130) ≤ q.po + n * q.sr ∧ q.po + n * q.sr ≤ 10 ^ 130 := by
  have h1 : ((n * q.sr).natAbs : Int) = n.natAbs * q.sr.natAbs := by rw [Int.natAbs_mul]; simp
  have s0 := o.s0
  have s1 := o.s1
  have h2 : (n.natAbs : Int) * q.sr.natAbs ≤ 10 ^ 110 * 10 ^ 18 := by
    have a := Int.mul_le_mul_of_nonneg_left (show (q.sr.natAbs : Int) ≤ 10 ^ 18 by omega) (show (0 : Int) ≤ n.natAbs by omega)
    have c := Int.mul_le_mul_of_nonneg_right (show (n.natAbs : Int) ≤ 10 ^ 110 by omega) (show (0 : Int) ≤ 10 ^ 18 by decide)
    omega
  have := o.p0
  have := o.p1
  omega
section
variable {b : Int} {Q : D → Int → Prop} {E : XC → Int → Prop}
theorem BndR.bd {e : Bool} {ps : List (Int × Int)} {low : Int} {high : Option Int} (R : BndR e ps low high) : 0 ≤ low ∧ low ≤ 10 ^ 90 ∧ ∀ h, high = some h → -(10 ^ 90) ≤ h ∧ h ≤ 10 ^ 90 := by
  unfold BndR at R
  split at R
  · obtain ⟨rfl, rfl⟩ := R
    exact ⟨by decide, by decide, fun h e => by injection e with e; subst e; decide⟩
  · exact ⟨R.l0, R.l1, R.h0⟩
theorem q_common_posts {q1 q2 : Pt} (o1 : q1.Ok) (o2 : q2.Ok) (k : ∀ r, CP q1.po q1.sr q2.po q2.sr r → CpB r → Q (cpN r) b) : W_common_posts [.d q1.o, .d q2.o] b Q E := by
  unfold W_common_posts
  refine ⟨rfl, rfl, ?_⟩
  refine q_way ⟨rfl, q_way ?_⟩
  refine q_Crossing_init o1 o2 fun e st os sa oa C => ?_
  refine ⟨rfl, rfl, ?_⟩
  refine q_bounds (ps := []) (x := .tup []) (xs := []) rfl rfl (by decide) (fun x hx => (nomatch hx)) C fun low high R => ?_
  refine ⟨rfl, ?_⟩
  have lb := R.bd
  refine ⟨fun en => (∃ y5, en = ⟨[some (.d q1.o), some (.d q2.o), some (.d (crD q1 q2 e st os sa oa)), some (.d (.int low)), some (.d (optN high)), y5], b⟩) ∧ e = false ∧ ∀ h, high = some h → low ≤ h, ?_, ?_⟩
  · have fin : (∃ h, high = some h ∧ h < low) → Q .non b := by
      rintro ⟨h, rfl, lt⟩
      refine k none (cp_none C.c o2.sn ?_) (fun f l d e => nomatch e)
      unfold BndR at R
      split at R
      · rename_i he
        exact .inl he
      · refine .inr fun m z => ?_
        have y := (R.fit m).mp ⟨z.1, fun w hw => by rw [List.mem_singleton.mp hw]; exact z.2⟩
        have := y.2 h rfl
        omega
    cases high with
    | none =>
      have he : e = false := by
        unfold BndR at R
        split at R
        · cases R.2
        · rename_i he
          exact Bool.eq_false_iff.mpr he
      exact ⟨⟨none, rfl⟩, he, fun h e => nomatch e⟩
    | some h =>
      show (if decide (low > h) = true then _ else _)
      refine ite2 (fun z => ?_) (fun z => ?_)
      · exact fin ⟨h, rfl, of_decide_eq_true z⟩
      · have le : ¬ h < low := of_decide_eq_false (Bool.eq_false_iff.mpr z)
        have he : e = false := by
          unfold BndR at R
          split at R
          · obtain ⟨rfl, e2⟩ := R
            injection e2 with e2
            omega
          · rename_i he
            exact Bool.eq_false_iff.mpr he
        exact ⟨⟨none, rfl⟩, he, fun k e => by injection e with e; omega⟩
  · rintro en ⟨⟨y5, rfl⟩, rfl, hlh⟩
    have F : FitR [(oa, os)] low high := R
    have sg := C.c.sgn o1.sn o2.sn
    have cps := cp_some C.c o1.sn o2.sn F.fit ⟨fun e => by
      have z := F.nn e (oa, os) (List.mem_singleton.mpr rfl)
      dsimp only at z
      rcases sg with ⟨_, z2⟩ | ⟨_, z2⟩ <;> omega, fun z => F.pp fun w hw => by
        rw [List.mem_singleton.mp hw]
        exact z⟩ hlh
    have c1 := C.b1
    have c2 := C.c.pos
    have c5 := o1.s0
    have c6 := o1.s1
    refine ⟨fun x en => x = optN (high.map fun h => q1.po + (sa + h * st) * q1.sr) ∧ en = ⟨[some (.d q1.o), some (.d q2.o), some (.d (crD q1 q2 false st os sa oa)), some (.d (.int low)), some (.d (optN high)), y5], b⟩, ?_, ?_⟩
    · cases high with
      | none => exact ⟨rfl, rfl⟩
      | some h =>
        have hb2 := lb.2.2 h rfl
        refine ⟨rfl, rfl, ?_⟩
        exact q_common_post o1 C (by omega) (by omega) ⟨rfl, rfl⟩
    · rintro x en ⟨rfl, rfl⟩
      refine ⟨rfl, rfl, ?_⟩
      refine q_common_post o1 C (by omega) (by omega) ?_
      refine ⟨rfl, q_Painter_stride ?_⟩
      refine ⟨rfl, ?_⟩
      show CB2 (if q1.sr < 0 then -q1.sr else q1.sr) st ∧ _
      refine ⟨⟨by unfold Big; split <;> omega, by unfold Big; split <;> omega, by unfold Big; omega, by unfold Big; omega⟩, by simp, ?_⟩
      show Q (.tup [.int (q1.po + (sa + low * st) * q1.sr), optN (high.map fun h => q1.po + (sa + h * st) * q1.sr), .int ((if q1.sr < 0 then -q1.sr else q1.sr) * st)]) b
      rw [ifabs]
      refine k _ cps fun f l d e => ?_
      injection e with e
      injection e with e1 e2
      injection e2 with e2 e3
      subst e1 e2 e3
      refine ⟨post_b o1 (num_b C (by omega) (by omega)), fun x e => ?_, Int.mul_nonneg (by omega) (by omega), ?_⟩
      · cases high with
        | none => cases e
        | some h =>
          have hb2 := lb.2.2 h rfl
          injection e with e
          subst e
          exact post_b o1 (num_b C (by omega) (by omega))
      · have a := Int.mul_le_mul_of_nonneg_left c1 (show (0 : Int) ≤ q1.sr.natAbs by omega)
        omega
/-- the number of a post on a way -/
def cntO (q : Pt) (p : Int) : Option Int := if (p - q.po).fmod q.sr = 0 ∧ 0 ≤ (p - q.po).fdiv q.sr then some ((p - q.po).fdiv q.sr) else none
theorem cnt_some {q : Pt} {c : Int} (hs : q.sr ≠ 0) (h : 0 ≤ c) : cntO q (q.po + c * q.sr) = some c := by
  have e1 : q.po + c * q.sr - q.po = c * q.sr := by omega
  have e2 : (c * q.sr).fdiv q.sr = c := Int.mul_fdiv_cancel _ hs
  have e3 : (c * q.sr).fmod q.sr = 0 := Int.mul_fmod_left _ _
  unfold cntO
  rw [e1, e2, e3, if_pos ⟨rfl, h⟩]
theorem cnt_get {q : Pt} {p c : Int} (h : cntO q p = some c) : 0 ≤ c ∧ p = q.po + c * q.sr := by
  unfold cntO at h
  split at h
  · rename_i h2
    injection h with h
    subst h
    have := Int.fmod_add_mul_fdiv (p - q.po) q.sr
    refine ⟨h2.2, ?_⟩
    rw [Int.mul_comm]
    omega
  · cases h
theorem cnt_none {q : Pt} {p : Int} (h : ∀ c, 0 ≤ c → p ≠ q.po + c * q.sr) : cntO q p = none := by
  cases e : cntO q p with
  | none => rfl
  | some c =>
    obtain ⟨h1, h2⟩ := cnt_get e
    exact absurd h2 (h c h1)
theorem cnt_b {q : Pt} {p c : Int} (o : q.Ok) (p0 : -(10 ^ 80) ≤ p) (p1 : p ≤ 10 ^ 80) (h : cntO q p = some c) : 0 ≤ c ∧ c ≤ 10 ^ 81 := by
  unfold cntO at h
  split at h
  · rename_i h2
    injection h with h
    subst h
    have := fdiv_le (a := p - q.po) (g := q.sr) (B := 10 ^ 81) o.sn (by have := o.p1; omega) (by have := o.p0; omega)
    exact ⟨h2.2, this.2⟩
  · cases h
theorem q_need_post {v : Int} (h0 : -(10 ^ 80) ≤ v) (h1 : v ≤ 10 ^ 80) (k : Q .non b) : W_need_post [.d (.int v)] b Q E := by
  unfold W_need_post
  refine ⟨rfl, ?_⟩
  refine q_between h0 h1 ?_
  exact iteF k
theorem q_count_at {q : Pt} {p : Int} (o : q.Ok) (p0 : -(10 ^ 80) ≤ p) (p1 : p ≤ 10 ^ 80) (k : Q (optN (cntO q p)) b) : W_Painter_count_at [.d q.o, .d (.int p)] b Q E := by
  unfold W_Painter_count_at
  have s0 := o.s0
  have s1 := o.s1
  refine ⟨rfl, ?_⟩
  refine q_need_post p0 p1 ?_
  refine ⟨rfl, q_Painter_post ?_⟩
  refine ⟨rfl, q_Painter_stride ?_⟩
  refine ⟨⟨o.sn, (show -Big < q.sr by unfold Big; omega), (show q.sr < Big by unfold Big; omega)⟩, rfl, ?_⟩
  unfold cntO at k
  show (if decide ((p - q.po).fmod q.sr = 0) = true then _ else _)
  refine ite2 (fun e => ?_) (fun e => ?_)
  · have e1 := of_decide_eq_true e
    show (if decide ((p - q.po).fdiv q.sr ≥ 0) = true then _ else _)
    refine ite2 (fun e => ?_) (fun e => ?_)
    · have e2 : 0 ≤ (p - q.po).fdiv q.sr := of_decide_eq_true e
      rw [if_pos ⟨e1, e2⟩] at k
      exact k
    · have e2 : ¬ 0 ≤ (p - q.po).fdiv q.sr := of_decide_eq_false (Bool.eq_false_iff.mpr e)
      rw [if_neg (fun z => e2 z.2)] at k
      exact k
  · have e1 := of_decide_eq_false (Bool.eq_false_iff.mpr e)
    rw [if_neg (fun z => e1 z.1)] at k
    exact k
end
end KD

namespace KP
/-! ### common posts by going, of ways with small numbers -/
def hasS (p2 t x : Int) : Bool := decide ((x - p2).fmod t = 0) && decide (0 ≤ (x - p2).fdiv t)
theorem hasS_iff {p2 t x : Int} (ht : t ≠ 0) : hasS p2 t x = true ↔ ∃ j, 0 ≤ j ∧ x = p2 + j * t := by
  unfold hasS
  rw [Bool.and_eq_true, decide_eq_true_iff, decide_eq_true_iff]
  have h := Int.fmod_add_mul_fdiv (x - p2) t
  constructor
  · rintro ⟨h1, h2⟩
    exact ⟨_, h2, by rw [h1] at h; grind⟩
  · rintro ⟨j, j0, rfl⟩
    have e : p2 + j * t - p2 = t * j := by grind
    rw [e]
    exact ⟨Int.mul_fmod_right t j, by rw [Int.mul_fdiv_cancel_left j ht]; exact j0⟩
def dueKs (p1 s p2 t : Int) : List Nat := (List.range 200).filter fun k => hasS p2 t (p1 + (k : Int) * s)
def dueL (p1 s p2 t : Int) : List Int := ((List.range 200).map fun k : Nat => p1 + (k : Int) * s).filter (hasS p2 t)
theorem dueL_eq (p1 s p2 t : Int) : dueL p1 s p2 t = (dueKs p1 s p2 t).map fun k : Nat => p1 + (k : Int) * s := by
  unfold dueL dueKs
  rw [List.filter_map]
  rfl
theorem dueKs_mem {p1 s p2 t : Int} (ht : t ≠ 0) (k : Nat) : k ∈ dueKs p1 s p2 t ↔ k < 200 ∧ Com p1 s p2 t k := by
  unfold dueKs
  rw [List.mem_filter, List.mem_range, hasS_iff ht]
  constructor
  · rintro ⟨h, j, j0, e⟩
    exact ⟨h, by omega, j, j0, e⟩
  · rintro ⟨h, _, j, j0, e⟩
    exact ⟨h, j, j0, e⟩
theorem dueKs_sorted (p1 s p2 t : Int) : (dueKs p1 s p2 t).Pairwise (· < ·) := List.pairwise_lt_range.filter _
structure SmP (p1 s p2 t : Int) : Prop where
  a1 : -9 ≤ p1
  a2 : p1 ≤ 9
  b1 : -9 ≤ p2
  b2 : p2 ≤ 9
  s1 : -9 ≤ s
  s2 : s ≤ 9
  t1 : -9 ≤ t
  t2 : t ≤ 9
  sn : s ≠ 0
  tn : t ≠ 0
theorem com_less {p1 s p2 t : Int} (h : SmP p1 s p2 t) {k : Int} (hk : 200 ≤ k) (hc : Com p1 s p2 t k) : 0 < s * t ∧ Com p1 s p2 t (k - t.natAbs) := by
  obtain ⟨k0, j, j0, e⟩ := hc
  obtain ⟨a1, a2, b1, b2, s1, s2, t1, t2, sn, tn⟩ := h
  rcases Int.lt_or_gt_of_ne sn with s3 | s3
  · rcases Int.lt_or_gt_of_ne tn with t3 | t3
    · refine ⟨Int.mul_pos_of_neg_of_neg s3 t3, by omega, j + s, ?_, ?_⟩
      · have h1 : k * s ≤ k * (-1) := Int.mul_le_mul_of_nonneg_left (by omega) k0
        have h2 : j * (-9) ≤ j * t := Int.mul_le_mul_of_nonneg_left (by omega) j0
        omega
      · have : (t.natAbs : Int) = -t := by omega
        rw [this]
        grind
    · have h1 : k * s ≤ k * (-1) := Int.mul_le_mul_of_nonneg_left (by omega) k0
      have h2 : 0 ≤ j * t := Int.mul_nonneg j0 (by omega)
      omega
  · rcases Int.lt_or_gt_of_ne tn with t3 | t3
    · have h1 : k * 1 ≤ k * s := Int.mul_le_mul_of_nonneg_left (by omega) k0
      have h2 : j * t ≤ 0 := Int.mul_nonpos_of_nonneg_of_nonpos j0 (by omega)
      omega
    · refine ⟨Int.mul_pos s3 t3, by omega, j - s, ?_, ?_⟩
      · have h1 : k * 1 ≤ k * s := Int.mul_le_mul_of_nonneg_left (by omega) k0
        have h2 : j * t ≤ j * 9 := Int.mul_le_mul_of_nonneg_left (by omega) j0
        omega
      · have : (t.natAbs : Int) = t := by omega
        rw [this]
        grind
theorem com_small {p1 s p2 t : Int} (h : SmP p1 s p2 t) : ∀ (n : Nat) (k : Int), k.toNat ≤ n → Com p1 s p2 t k → ∃ k', k' < 200 ∧ Com p1 s p2 t k'
  | 0, k, hn, hc => ⟨k, by omega, hc⟩
  | n + 1, k, hn, hc => by
    by_cases hk : k < 200
    · exact ⟨k, hk, hc⟩
    · have tn := h.tn
      exact com_small h n (k - t.natAbs) (by omega) (com_less h (by omega) hc).2
theorem due_nil {p1 s p2 t : Int} (h : SmP p1 s p2 t) (e : dueL p1 s p2 t = []) : CP p1 s p2 t none := by
  intro k hk
  obtain ⟨k', h1, h2⟩ := com_small h _ k (Nat.le_refl _) hk
  have k0 := h2.1
  have : k'.toNat ∈ dueKs p1 s p2 t := (dueKs_mem h.tn _).mpr ⟨by omega, by rw [Int.toNat_of_nonneg k0]; exact h2⟩
  rw [dueL_eq] at e
  rw [List.map_eq_nil_iff.mp e] at this
  cases this
theorem due_some {p1 s p2 t : Int} (h : SmP p1 s p2 t) {x z : Int} {r i : List Int} (e : dueL p1 s p2 t = x :: r) (el : dueL p1 s p2 t = i ++ [z]) :
    CP p1 s p2 t (some (x, if 0 < s * t then none else some z, (s.natAbs : Int) * ((t.natAbs : Int) / (Int.gcd s t : Int)))) := by
  rw [dueL_eq] at e el
  have sor := dueKs_sorted p1 s p2 t
  have mem := dueKs_mem (p1 := p1) (s := s) (p2 := p2) h.tn
  refine ⟨?_, ?_, rfl⟩
  · obtain ⟨k0, rest, hks, hx, hr⟩ := List.map_eq_cons_iff.mp e
    rw [hks] at sor mem
    have h0 := (mem k0).mp (List.mem_cons_self ..)
    refine ⟨k0, h0.2, fun k' hk => ?_, hx.symm⟩
    by_cases lt : k' < 200
    · have k1 := hk.1
      have : k'.toNat ∈ k0 :: rest := (mem _).mpr ⟨by omega, by rw [Int.toNat_of_nonneg k1]; exact hk⟩
      rcases List.mem_cons.mp this with q | q
      · omega
      · have := (List.pairwise_cons.mp sor).1 _ q
        omega
    · omega
  · by_cases pos : 0 < s * t
    · rw [if_pos pos]
      exact pos
    · rw [if_neg pos]
      show s * t < 0 ∧ _
      have ne : s * t ≠ 0 := Int.mul_ne_zero h.sn h.tn
      refine ⟨by omega, ?_⟩
      obtain ⟨i2, z2, hks, hi, hz⟩ := List.map_eq_append_iff.mp el
      obtain ⟨k1, rest, hz2, hz3, hz4⟩ := List.map_eq_cons_iff.mp hz
      have hrest : rest = [] := List.map_eq_nil_iff.mp hz4
      subst hrest
      subst hz2
      rw [hks] at sor mem
      have h0 := (mem k1).mp (List.mem_append_right _ (List.mem_singleton.mpr rfl))
      refine ⟨k1, h0.2, fun k' hk => ?_, hz3.symm⟩
      by_cases lt : k' < 200
      · have k2 := hk.1
        have : k'.toNat ∈ i2 ++ [k1] := (mem _).mpr ⟨by omega, by rw [Int.toNat_of_nonneg k2]; exact hk⟩
        rcases List.mem_append.mp this with q | q
        · have := (List.pairwise_append.mp sor).2.2 _ q k1 (List.mem_singleton.mpr rfl)
          omega
        · have := List.mem_singleton.mp q
          omega
      · have := (com_less h (by omega) hk).1
        omega
end KP

namespace KP
/-! ### the first block: plain mathematics -/
/-- at its post with number k the one finds that the other was there before -/
def Blk (d1 p1 s d2 p2 t : Int) (lim : Option Int) (ear : Bool) (k : Int) : Prop := 0 ≤ k ∧ ∃ j, 0 ≤ j ∧ p1 + k * s = p2 + j * t ∧ (∀ l, lim = some l → j < l) ∧ (0 < d1 + k - d2 - j ∨ (d1 + k - d2 - j = 0 ∧ ear = true))
def FB (d1 p1 s d2 p2 t : Int) (lim : Option Int) (ear : Bool) : Option Int → Prop
  | none => ∀ k, ¬ Blk d1 p1 s d2 p2 t lim ear k
  | some k => Blk d1 p1 s d2 p2 t lim ear k ∧ ∀ k', Blk d1 p1 s d2 p2 t lim ear k' → k ≤ k'
theorem FB.inj {d1 p1 s d2 p2 t : Int} {lim : Option Int} {ear : Bool} {x y : Option Int} (hx : FB d1 p1 s d2 p2 t lim ear x) (hy : FB d1 p1 s d2 p2 t lim ear y) : x = y := by
  match x, y, hx, hy with
  | none, none, _, _ => rfl
  | none, some k, h, ⟨b, _⟩ => exact absurd b (h k)
  | some k, none, ⟨b, _⟩, h => exact absurd b (h k)
  | some k, some k', ⟨b, m⟩, ⟨b', m'⟩ =>
    have h1 := m k' b'
    have h2 := m' k b
    have : k = k' := by omega
    rw [this]
def notE (ear : Bool) : Int := if ear = true then 0 else 1
/-- the conditions upon m -/
def blkPs (d1 d2 step ostep start ostart : Int) (lim : Option Int) (ear : Bool) : List (Int × Int) := (ostart, ostep) :: (d1 + start - d2 - ostart - notE ear, step - ostep) :: (match lim with
  | none => []
  | some c => [(c - 1 - ostart, -ostep)])
theorem blk_iff {d1 p1 s d2 p2 t step ostep start ostart : Int} {lim : Option Int} {ear : Bool} (C : Cross p1 s p2 t false step ostep start ostart) (ht : t ≠ 0) (k : Int) :
    Blk d1 p1 s d2 p2 t lim ear k ↔ ∃ m, k = start + m * step ∧ 0 ≤ m ∧ ∀ x ∈ blkPs d1 d2 step ostep start ostart lim ear, 0 ≤ x.1 + m * x.2 := by
  have on := C.on rfl
  have two := C.two
  have p := C.pos
  have s0 := C.st0
  have s1 := C.st1
  constructor
  · rintro ⟨k0, j, j0, e, hl, hd⟩
    obtain ⟨m, rfl⟩ := C.all rfl k j e
    have ej : j = ostart + m * ostep := by
      apply Int.eq_of_mul_eq_mul_right ht
      grind
    refine ⟨m, rfl, ?_, fun x hx => ?_⟩
    · apply Classical.byContradiction
      intro hm
      have : m * step ≤ (-1) * step := Int.mul_le_mul_of_nonneg_right (by omega) (by omega)
      omega
    · unfold blkPs at hx
      rcases List.mem_cons.mp hx with rfl | hx
      · show 0 ≤ ostart + m * ostep
        omega
      rcases List.mem_cons.mp hx with rfl | hx
      · show 0 ≤ d1 + start - d2 - ostart - notE ear + m * (step - ostep)
        rw [Int.mul_sub]
        unfold notE
        split
        · omega
        · rename_i h
          rcases hd with hd | ⟨_, hd⟩
          · omega
          · exact absurd hd h
      · cases lim with
        | none => cases hx
        | some c =>
          have hx2 := List.mem_singleton.mp hx
          subst hx2
          show 0 ≤ c - 1 - ostart + m * (-ostep)
          rw [Int.mul_neg]
          have := hl c rfl
          omega
  · rintro ⟨m, rfl, m0, h⟩
    have ms : 0 ≤ m * step := Int.mul_nonneg m0 (by omega)
    have h1 := h _ (List.mem_cons_self ..)
    have h2 := h _ (List.mem_cons_of_mem _ (List.mem_cons_self ..))
    dsimp only at h1 h2
    rw [Int.mul_sub] at h2
    refine ⟨by omega, ostart + m * ostep, h1, by grind, fun l e => ?_, ?_⟩
    · subst e
      have h3 := h (l - 1 - ostart, -ostep) (List.mem_cons_of_mem _ (List.mem_cons_of_mem _ (List.mem_singleton.mpr rfl)))
      dsimp only at h3
      rw [Int.mul_neg] at h3
      omega
    · unfold notE at h2
      split at h2
      · rename_i he
        by_cases z : d1 + (start + m * step) - d2 - (ostart + m * ostep) = 0
        · exact .inr ⟨z, he⟩
        · left
          omega
      · left
        omega
theorem fb_of {d1 p1 s d2 p2 t step ostep start ostart low : Int} {high : Option Int} {lim : Option Int} {ear : Bool} (C : Cross p1 s p2 t false step ostep start ostart) (ht : t ≠ 0) (F : Fit (blkPs d1 d2 step ostep start ostart lim ear) low high)
    (hl : ∀ h, high = some h → low ≤ h) : FB d1 p1 s d2 p2 t lim ear (some (start + low * step)) := by
  have p := C.pos
  refine ⟨(blk_iff C ht _).mpr ⟨low, rfl, (F low).mpr ⟨Int.le_refl _, hl⟩⟩, fun k' hk => ?_⟩
  obtain ⟨m, rfl, h1, h2⟩ := (blk_iff C ht k').mp hk
  have := ((F m).mp ⟨h1, h2⟩).1
  have := Int.mul_le_mul_of_nonneg_right this (show 0 ≤ step by omega)
  omega
theorem fb_none {d1 p1 s d2 p2 t step ostep start ostart : Int} {lim : Option Int} {ear emp : Bool} (C : Cross p1 s p2 t emp step ostep start ostart) (ht : t ≠ 0) (h : emp = true ∨ ∀ m, ¬ (0 ≤ m ∧ ∀ x ∈ blkPs d1 d2 step ostep start ostart lim ear, 0 ≤ x.1 + m * x.2)) :
    FB d1 p1 s d2 p2 t lim ear none := by
  intro k hk
  cases emp with
  | true =>
    obtain ⟨_, j, _, e, _⟩ := hk
    exact C.non rfl k j e
  | false =>
    rcases h with h | h
    · cases h
    · obtain ⟨m, _, h1, h2⟩ := (blk_iff C ht k).mp hk
      exact h m ⟨h1, h2⟩
theorem blk_no {d1 p1 s d2 p2 t : Int} {lim : Option Int} {ear : Bool} {k : Int} (ht : t ≠ 0) (h : ¬ hasS p2 t (p1 + k * s) = true) : ¬ Blk d1 p1 s d2 p2 t lim ear k := fun ⟨_, j, j0, e, _⟩ => h ((hasS_iff ht).mpr ⟨j, j0, e⟩)
theorem blk_at {d1 p1 s d2 p2 t : Int} {lim : Option Int} {ear : Bool} {k : Int} (ht : t ≠ 0) (k0 : 0 ≤ k) (h : hasS p2 t (p1 + k * s) = true) :
    Blk d1 p1 s d2 p2 t lim ear k ↔ (∀ l, lim = some l → (p1 + k * s - p2).fdiv t < l) ∧ (0 < d1 + k - d2 - (p1 + k * s - p2).fdiv t ∨ (d1 + k - d2 - (p1 + k * s - p2).fdiv t = 0 ∧ ear = true)) := by
  obtain ⟨j, j0, e⟩ := (hasS_iff ht).mp h
  have ej : (p1 + k * s - p2).fdiv t = j := by
    rw [e, show p2 + j * t - p2 = t * j by grind]
    exact Int.mul_fdiv_cancel_left j ht
  rw [ej]
  constructor
  · rintro ⟨_, j2, j20, e2, hl, hd⟩
    have : j2 = j := Int.eq_of_mul_eq_mul_right ht (by omega)
    subst this
    exact ⟨hl, hd⟩
  · rintro ⟨hl, hd⟩
    exact ⟨k0, j, j0, e, hl, hd⟩
/-! ### by going, of small numbers -/
theorem blk_less {d1 p1 s d2 p2 t : Int} {lim : Option Int} {ear : Bool} (h : SmP p1 s p2 t) (a0 : 0 ≤ d1) (a1 : d1 ≤ 7) (b0 : 0 ≤ d2) (b1 : d2 ≤ 7) {k : Int} (hk : 420 ≤ k) (hc : Blk d1 p1 s d2 p2 t lim ear k) : Blk d1 p1 s d2 p2 t lim ear (k - t.natAbs) := by
  obtain ⟨k0, j, j0, e, hl, hd⟩ := hc
  have pos := (com_less h (show 200 ≤ k by omega) ⟨k0, j, j0, e⟩).1
  obtain ⟨a1', a2, b1', b2, s1, s2, t1, t2, sn, tn⟩ := h
  have jd : ∀ (k j s t : Int), 0 ≤ j → 420 ≤ k → 1 ≤ s → s ≤ 9 → 1 ≤ t → t ≤ 9 → -18 ≤ k * s - j * t → k * s - j * t ≤ 18 → 9 ≤ j ∧ (s < t → 30 ≤ k - j) := by
    intro k j s t j0 hk s1 s2 t1 t2 h1 h2
    have x1 : k * 1 ≤ k * s := Int.mul_le_mul_of_nonneg_left s1 (by omega)
    have x2 : j * t ≤ j * 9 := Int.mul_le_mul_of_nonneg_left t2 j0
    refine ⟨by omega, fun lt => ?_⟩
    apply Classical.byContradiction
    intro z
    have y1 : (k - 30) * t ≤ j * t := Int.mul_le_mul_of_nonneg_right (by omega) (by omega)
    have y2 : k * (s + 1) ≤ k * t := Int.mul_le_mul_of_nonneg_left (by omega) (by omega)
    have y3 : (k - 30) * t = k * t - 30 * t := by grind
    have y4 : k * (s + 1) = k * s + k := by grind
    omega
  rcases Int.lt_or_gt_of_ne sn with s3 | s3
  · rcases Int.lt_or_gt_of_ne tn with t3 | t3
    · have q := jd k j (-s) (-t) j0 hk (by omega) (by omega) (by omega) (by omega) (by grind) (by grind)
      have na : (t.natAbs : Int) = -t := by omega
      rw [na]
      refine ⟨by omega, j + s, by omega, by grind, fun l e => by have := hl l e; omega, ?_⟩
      by_cases lt : -s < -t
      · have := q.2 lt
        left
        omega
      · rcases hd with hd | ⟨hd, he⟩
        · left
          omega
        · by_cases eq : s = t
          · right
            exact ⟨by omega, he⟩
          · left
            omega
    · exact absurd pos (by have := Int.mul_neg_of_neg_of_pos s3 t3; omega)
  · rcases Int.lt_or_gt_of_ne tn with t3 | t3
    · exact absurd pos (by have := Int.mul_neg_of_pos_of_neg s3 t3; omega)
    · have q := jd k j s t j0 hk (by omega) (by omega) (by omega) (by omega) (by omega) (by omega)
      have na : (t.natAbs : Int) = t := by omega
      rw [na]
      refine ⟨by omega, j - s, by omega, by grind, fun l e => by have := hl l e; omega, ?_⟩
      by_cases lt : s < t
      · have := q.2 lt
        left
        omega
      · rcases hd with hd | ⟨hd, he⟩
        · left
          omega
        · by_cases eq : s = t
          · right
            exact ⟨by omega, he⟩
          · left
            omega
theorem blk_small {d1 p1 s d2 p2 t : Int} {lim : Option Int} {ear : Bool} (h : SmP p1 s p2 t) (a0 : 0 ≤ d1) (a1 : d1 ≤ 7) (b0 : 0 ≤ d2) (b1 : d2 ≤ 7) : ∀ (n : Nat) (k : Int), k.toNat ≤ n → Blk d1 p1 s d2 p2 t lim ear k → ∃ k', k' < 420 ∧ Blk d1 p1 s d2 p2 t lim ear k'
  | 0, k, hn, hc => ⟨k, by omega, hc⟩
  | n + 1, k, hn, hc => by
    by_cases hk : k < 420
    · exact ⟨k, hk, hc⟩
    · have tn := h.tn
      exact blk_small h a0 a1 b0 b1 n (k - t.natAbs) (by omega) (blk_less h a0 a1 b0 b1 (by omega) hc)
theorem fb_going_none {d1 p1 s d2 p2 t : Int} {lim : Option Int} {ear : Bool} (h : SmP p1 s p2 t) (a0 : 0 ≤ d1) (a1 : d1 ≤ 7) (b0 : 0 ≤ d2) (b1 : d2 ≤ 7) (no : ∀ k : Nat, k < 420 → ¬ Blk d1 p1 s d2 p2 t lim ear k) : FB d1 p1 s d2 p2 t lim ear none := by
  intro k hk
  obtain ⟨k', h1, h2⟩ := blk_small h a0 a1 b0 b1 _ k (Nat.le_refl _) hk
  have k0 := h2.1
  exact no k'.toNat (by omega) (by rw [Int.toNat_of_nonneg k0]; exact h2)
theorem fb_going_some {d1 p1 s d2 p2 t : Int} {lim : Option Int} {ear : Bool} {k : Nat} (b : Blk d1 p1 s d2 p2 t lim ear k) (no : ∀ i : Nat, i < k → ¬ Blk d1 p1 s d2 p2 t lim ear i) : FB d1 p1 s d2 p2 t lim ear (some k) := by
  refine ⟨b, fun k' hk => ?_⟩
  have k0 := hk.1
  apply Classical.byContradiction
  intro z
  exact no k'.toNat (by omega) (by rw [Int.toNat_of_nonneg k0]; exact hk)
end KP

namespace KP
/-! ### common posts from both sides, moved, mirrored -/
def swp : Option (Int × Option Int × Int) → Option (Int × Option Int × Int)
  | none => none
  | some (f, none, d) => some (f, none, d)
  | some (f, some l, d) => some (l, some f, d)
theorem ord_same {s t a c : Int} (h : a * s = c * t) (p : 0 < s * t) (h0 : 0 ≤ a) : 0 ≤ c := by
  apply Classical.byContradiction
  intro n
  rcases Int.lt_or_gt_of_ne (show t ≠ 0 by intro z; subst z; omega) with t0 | t0
  · have s0 : s < 0 := by
      apply Classical.byContradiction
      intro z
      have := Int.mul_nonpos_of_nonneg_of_nonpos (show 0 ≤ s by omega) (show t ≤ 0 by omega)
      omega
    have x1 : a * s ≤ 0 := Int.mul_nonpos_of_nonneg_of_nonpos h0 (by omega)
    have x2 : 0 < c * t := Int.mul_pos_of_neg_of_neg (by omega) t0
    omega
  · have s0 : 0 < s := by
      apply Classical.byContradiction
      intro z
      have := Int.mul_nonpos_of_nonpos_of_nonneg (show s ≤ 0 by omega) (show 0 ≤ t by omega)
      omega
    have x1 : 0 ≤ a * s := Int.mul_nonneg h0 (by omega)
    have x2 : c * t < 0 := Int.mul_neg_of_neg_of_pos (by omega) t0
    omega
theorem ord_opp {s t a c : Int} (h : a * s = c * t) (p : s * t < 0) (h0 : 0 ≤ a) : c ≤ 0 := by
  have := ord_same (s := s) (t := -t) (a := a) (c := -c) (by rw [Int.neg_mul_neg]; exact h) (by rw [Int.mul_neg]; omega) h0
  omega
theorem lcm_sym (s t : Int) : (s.natAbs : Int) * ((t.natAbs : Int) / (Int.gcd s t : Int)) = (t.natAbs : Int) * ((s.natAbs : Int) / (Int.gcd t s : Int)) := by
  rw [Int.gcd_comm t s]
  by_cases g : (Int.gcd s t : Int) = 0
  · rw [g]; simp
  · have d1 : (Int.gcd s t : Int) ∣ (s.natAbs : Int) := Int.dvd_natAbs.mpr (Int.gcd_dvd_left s t)
    have d2 : (Int.gcd s t : Int) ∣ (t.natAbs : Int) := Int.dvd_natAbs.mpr (Int.gcd_dvd_right s t)
    rw [← Int.mul_ediv_assoc _ d2, ← Int.mul_ediv_assoc _ d1, Int.mul_comm]
theorem CP.swap {p1 s p2 t : Int} {r : Option (Int × Option Int × Int)} (h : CP p1 s p2 t r) : CP p2 t p1 s (swp r) := by
  match r, h with
  | none, h =>
    rintro j ⟨j0, k, k0, e⟩
    exact h k ⟨k0, j, j0, e.symm⟩
  | some (f, none, d), ⟨⟨k, ⟨k0, j, j0, e⟩, m, ef⟩, st, hd⟩ =>
    have st : 0 < s * t := st
    refine ⟨⟨j, ⟨j0, k, k0, e.symm⟩, ?_, by rw [ef, e]⟩, (show 0 < t * s by rw [Int.mul_comm]; exact st), by rw [hd, lcm_sym]⟩
    rintro j' ⟨j0', k', k0', e'⟩
    have := m k' ⟨k0', j', j0', e'.symm⟩
    have := ord_same (s := s) (t := t) (a := k' - k) (c := j' - j) (by rw [Int.sub_mul, Int.sub_mul]; omega) st (by omega)
    omega
  | some (f, some l, d), ⟨⟨k, ⟨k0, j, j0, e⟩, m, ef⟩, ⟨st, k2, ⟨k20, j2, j20, e2⟩, m2, el⟩, hd⟩ =>
    refine ⟨⟨j2, ⟨j20, k2, k20, e2.symm⟩, ?_, by rw [el, e2]⟩, ⟨by rw [Int.mul_comm]; exact st, j, ⟨j0, k, k0, e.symm⟩, ?_, by rw [ef, e]⟩, by rw [hd, lcm_sym]⟩
    · rintro j' ⟨j0', k', k0', e'⟩
      have := m2 k' ⟨k0', j', j0', e'.symm⟩
      have := ord_opp (s := s) (t := t) (a := k2 - k') (c := j2 - j') (by rw [Int.sub_mul, Int.sub_mul]; omega) st (by omega)
      omega
    · rintro j' ⟨j0', k', k0', e'⟩
      have := m k' ⟨k0', j', j0', e'.symm⟩
      have := ord_opp (s := s) (t := t) (a := k' - k) (c := j' - j) (by rw [Int.sub_mul, Int.sub_mul]; omega) st (by omega)
      omega
/-- moved by c, with sign g -/
def trn (c g : Int) : Option (Int × Option Int × Int) → Option (Int × Option Int × Int)
  | none => none
  | some (f, l, d) => some (c + g * f, l.map (fun x => c + g * x), d)
theorem CP.shift {p1 s p2 t c : Int} {r : Option (Int × Option Int × Int)} (h : CP p1 s p2 t r) : CP (p1 + c) s (p2 + c) t (trn c 1 r) := by
  have iff : ∀ k, Com (p1 + c) s (p2 + c) t k ↔ Com p1 s p2 t k := fun k => ⟨fun ⟨a, j, b, e⟩ => ⟨a, j, b, by omega⟩, fun ⟨a, j, b, e⟩ => ⟨a, j, b, by omega⟩⟩
  match r, h with
  | none, h => exact fun k hk => h k ((iff k).mp hk)
  | some (f, l, d), ⟨⟨k, hk, m, ef⟩, hl, hd⟩ =>
    refine ⟨⟨k, (iff k).mpr hk, fun k' h' => m k' ((iff k').mp h'), by rw [ef]; omega⟩, ?_, hd⟩
    cases l with
    | none => exact hl
    | some x =>
      obtain ⟨st, k2, hk2, m2, el⟩ := hl
      exact ⟨st, k2, (iff k2).mpr hk2, fun k' h' => m2 k' ((iff k').mp h'), by rw [el]; show c + 1 * (p1 + k2 * s) = p1 + c + k2 * s; omega⟩
theorem CP.mirror {p1 s p2 t : Int} {r : Option (Int × Option Int × Int)} (h : CP p1 s p2 t r) : CP (-p1) (-s) (-p2) (-t) (trn 0 (-1) r) := by
  have iff : ∀ k, Com (-p1) (-s) (-p2) (-t) k ↔ Com p1 s p2 t k := fun k => ⟨fun ⟨a, j, b, e⟩ => ⟨a, j, b, by rw [Int.mul_neg, Int.mul_neg] at e; omega⟩, fun ⟨a, j, b, e⟩ => ⟨a, j, b, by rw [Int.mul_neg, Int.mul_neg]; omega⟩⟩
  match r, h with
  | none, h => exact fun k hk => h k ((iff k).mp hk)
  | some (f, l, d), ⟨⟨k, hk, m, ef⟩, hl, hd⟩ =>
    refine ⟨⟨k, (iff k).mpr hk, fun k' h' => m k' ((iff k').mp h'), by rw [ef, Int.mul_neg]; omega⟩, ?_, by rw [hd]; simp⟩
    cases l with
    | none => exact (show 0 < -s * -t by rw [Int.neg_mul_neg]; exact hl)
    | some x =>
      obtain ⟨st, k2, hk2, m2, el⟩ := hl
      exact ⟨by rw [Int.neg_mul_neg]; exact st, k2, (iff k2).mpr hk2, fun k' h' => m2 k' ((iff k').mp h'), by rw [el, Int.mul_neg]; show 0 + -1 * (p1 + k2 * s) = -p1 + -(k2 * s); omega⟩
/-! ### first blocks, compared -/
theorem Blk.lim {d1 p1 s d2 p2 t : Int} {lim lim' : Option Int} {ear ear' : Bool} {k : Int} (h : Blk d1 p1 s d2 p2 t lim ear k) (hl : ∀ l', lim' = some l' → ∃ l, lim = some l ∧ l ≤ l') (he : ear = true → ear' = true) : Blk d1 p1 s d2 p2 t lim' ear' k := by
  obtain ⟨k0, j, j0, e, h1, h2⟩ := h
  refine ⟨k0, j, j0, e, fun l' e' => ?_, ?_⟩
  · obtain ⟨l, el, hle⟩ := hl l' e'
    have := h1 l el
    omega
  · rcases h2 with h2 | ⟨h2, h3⟩
    · exact .inl h2
    · exact .inr ⟨h2, he h3⟩
theorem FB.le {d1 p1 s d2 p2 t : Int} {lim lim' : Option Int} {ear ear' : Bool} {x y : Option Int} (hx : FB d1 p1 s d2 p2 t lim ear x) (hy : FB d1 p1 s d2 p2 t lim' ear' y) (hl : ∀ l', lim' = some l' → ∃ l, lim = some l ∧ l ≤ l') (he : ear = true → ear' = true) : ∀ k, x = some k → ∃ k', y = some k' ∧ k' ≤ k := by
  rintro k rfl
  have b := hx.1.lim hl he
  match y, hy with
  | none, hy => exact absurd b (hy k)
  | some k', hy => exact ⟨k', rfl, hy.2 k b⟩
theorem FB.days {d1 p1 s d2 p2 t c : Int} {lim : Option Int} {ear : Bool} {x : Option Int} (h : FB d1 p1 s d2 p2 t lim ear x) : FB (d1 + c) p1 s (d2 + c) p2 t lim ear x := by
  have iff : ∀ k, Blk (d1 + c) p1 s (d2 + c) p2 t lim ear k ↔ Blk d1 p1 s d2 p2 t lim ear k := fun k => ⟨fun ⟨a, j, b, e, f, g⟩ => ⟨a, j, b, e, f, by rcases g with g | ⟨g, z⟩; exact .inl (by omega); exact .inr ⟨by omega, z⟩⟩, fun ⟨a, j, b, e, f, g⟩ => ⟨a, j, b, e, f, by rcases g with g | ⟨g, z⟩; exact .inl (by omega); exact .inr ⟨by omega, z⟩⟩⟩
  match x, h with
  | none, h => exact fun k hk => h k ((iff k).mp hk)
  | some k, h => exact ⟨(iff k).mpr h.1, fun k' h' => h.2 k' ((iff k').mp h')⟩
theorem fit_low {ps : List (Int × Int)} {low B : Int} {high : Option Int} (F : Fit ps low high) (hl : ∀ h, high = some h → low ≤ h) (hb : ∀ x ∈ ps, -B ≤ x.1) (B0 : 0 ≤ B) : low ≤ B + 1 := by
  apply Classical.byContradiction
  intro n
  have h1 := (F low).mpr ⟨Int.le_refl _, hl⟩
  have h2 : ¬ (0 ≤ low - 1 ∧ ∀ x ∈ ps, 0 ≤ x.1 + (low - 1) * x.2) := fun z => by
    have := ((F (low - 1)).mp z).1
    omega
  apply h2
  refine ⟨by omega, fun x hx => ?_⟩
  have a := h1.2 x hx
  have b := hb x hx
  by_cases g : 0 < x.2
  · have := Int.mul_le_mul_of_nonneg_left (show 1 ≤ x.2 by omega) (show 0 ≤ low - 1 by omega)
    omega
  · have := Int.mul_nonneg (show 0 ≤ 1 by decide) (show 0 ≤ -x.2 by omega)
    rw [Int.sub_mul]
    omega
end KP

/-! First blocks, over data. -/
namespace KD
open PySem PySem.Spec PyProof.Rows L2 KP
section
variable {b : Int} {Q : D → Int → Prop} {E : XC → Int → Prop} {q1 q2 : Pt} {e : Bool} {st os sa oa : Int}
def blkT (d1 d2 st os sa oa : Int) (lim : Option Int) (ear : Bool) : List (Int × Int) := (d1 + sa - d2 - oa - notE ear, st - os) :: (match lim with
  | none => []
  | some c => [(c - 1 - oa, -os)])
theorem q_C_first {lim : Option Int} {ear : Bool} (o1 : q1.Ok) (o2 : q2.Ok) (C : CrB q1.po q1.sr q2.po q2.sr e st os sa oa) (hl : ∀ l, lim = some l → 0 ≤ l ∧ l ≤ 10 ^ 79)
    (k : ∀ r, FB q1.dy q1.po q1.sr q2.dy q2.po q2.sr lim ear r → (∀ k, r = some k → 0 ≤ k ∧ k ≤ 10 ^ 60) → Q (optN r) b) : W_Crossing_first_block [.d (crD q1 q2 e st os sa oa), .d (optN lim), .d (.bl ear)] b Q E := by
  unfold W_Crossing_first_block
  have b1 := C.b1
  have b2 := C.b2
  have b3 := C.b3
  have b4 := C.b4
  have b5 := C.b5
  have c0 := C.c.st0
  have c1 := C.c.st1
  have cp := C.c.pos
  have d0 := o1.d0
  have d1 := o1.d1
  have e0 := o2.d0
  have e1 := o2.d1
  have en : (if (!ear) = true then (1 : Int) else 0) = notE ear := by cases ear <;> rfl
  refine ⟨rfl, rfl, rfl, rfl, rfl, rfl, rfl, ?_⟩
  refine ⟨by simp, by simp, ?_⟩
  refine ⟨fun x => x = ⟨[some (.d (crD q1 q2 e st os sa oa)), some (.d (optN lim)), some (.d (.bl ear)), some (.d (.int (q1.dy + sa - q2.dy - oa - (if (!ear) = true then 1 else 0)))), some (.own ((blkT q1.dy q2.dy st os sa oa lim ear).map cdD)), none, none], b⟩, ?_, ?_⟩
  · unfold blkT
    rw [← en]
    cases lim with
    | none => exact rfl
    | some l => exact ⟨rfl, rfl, rfl, by simp, by simp, rfl⟩
  · rintro x rfl
    have tb : ∀ x ∈ blkT q1.dy q2.dy st os sa oa lim ear, -(10 ^ 80) ≤ x.1 ∧ x.1 ≤ 10 ^ 80 ∧ -(10 ^ 80) ≤ x.2 ∧ x.2 ≤ 10 ^ 80 := fun x hx => by
      unfold blkT at hx
      have ne : 0 ≤ notE ear ∧ notE ear ≤ 1 := by unfold notE; split <;> omega
      rcases List.mem_cons.mp hx with rfl | hx
      · dsimp only; omega
      · cases lim with
        | none => cases hx
        | some c =>
          have := hl c rfl
          cases List.mem_singleton.mp hx
          dsimp only; omega
    have tb2 : ∀ x ∈ blkT q1.dy q2.dy st os sa oa lim ear, -(10 ^ 41) ≤ x.1 := fun x hx => by
      unfold blkT at hx
      have ne : 0 ≤ notE ear ∧ notE ear ≤ 1 := by unfold notE; split <;> omega
      rcases List.mem_cons.mp hx with rfl | hx
      · dsimp only; omega
      · cases lim with
        | none => cases hx
        | some c =>
          have := hl c rfl
          cases List.mem_singleton.mp hx
          dsimp only; omega
    refine ⟨rfl, rfl, ?_⟩
    refine q_bounds (x := .lst ((blkT q1.dy q2.dy st os sa oa lim ear).map cdD)) rfl rfl (by unfold blkT; cases lim <;> simp) tb C fun low high R => ?_
    have lb := R.bd
    refine ⟨rfl, ?_⟩
    have fin : (∃ h, high = some h ∧ h < low) → Q .non b := by
      rintro ⟨h, rfl, lt⟩
      refine k none (fb_none C.c o2.sn ?_) (fun k e => nomatch e)
      unfold BndR at R
      split at R
      · rename_i he; exact .inl he
      · refine .inr fun m z => ?_
        have y := (R.fit m).mp ⟨z.1, z.2⟩
        have := y.2 h rfl
        omega
    have ok : (∀ h, high = some h → low ≤ h) → W_Crossing_number [.d (crD q1 q2 e st os sa oa), .d (.int low)] b (fun x b' => Q x b') (fun x b' => E x b') := fun hh => by
      refine q_number C (by omega) (by omega) ?_
      have he : e = false := by
        unfold BndR at R
        split at R
        · obtain ⟨rfl, e2⟩ := R
          have := hh 0 e2
          omega
        · rename_i he; exact Bool.eq_false_iff.mpr he
      subst he
      have F : FitR (blkPs q1.dy q2.dy st os sa oa lim ear) low high := R
      have lw := fit_low (B := 10 ^ 41) F.fit hh (fun x hx => by
        rcases List.mem_cons.mp hx with rfl | hx
        · dsimp only; omega
        · exact (tb2 x hx)) (by decide)
      refine k (some (sa + low * st)) (fb_of C.c o2.sn F.fit hh) fun z ez => ?_
      injection ez with ez
      subst ez
      have a1 : low * st ≤ (10 ^ 41 + 1) * st := Int.mul_le_mul_of_nonneg_right lw (by omega)
      have a2 := Int.mul_nonneg lb.1 (show 0 ≤ st by omega)
      omega
    cases high with
    | none => exact ⟨rfl, rfl, ok fun h e => nomatch e⟩
    | some h =>
      show (if decide (low ≤ h) = true then _ else _)
      refine ite2 (fun z => ?_) (fun z => ?_)
      · have z := of_decide_eq_true z
        exact ⟨rfl, rfl, ok fun k e => by injection e with e; omega⟩
      · have z := of_decide_eq_false (Bool.eq_false_iff.mpr z)
        exact fin ⟨h, rfl, by omega⟩
theorem q_first_block {lim : Option Int} {ear : Bool} (o1 : q1.Ok) (o2 : q2.Ok) (hl : ∀ l, lim = some l → 0 ≤ l ∧ l ≤ 10 ^ 79)
    (k : ∀ r, FB q1.dy q1.po q1.sr q2.dy q2.po q2.sr lim ear r → (∀ k, r = some k → 0 ≤ k ∧ k ≤ 10 ^ 60) → Q (optN r) b) : W_first_block [.d q1.o, .d q2.o, .d (optN lim), .d (.bl ear)] b Q E := by
  unfold W_first_block
  refine ⟨rfl, ?_⟩
  refine ⟨fun x => x = ⟨[some (.d q1.o), some (.d q2.o), some (.d (optN lim)), some (.d (.bl ear))], b⟩, ?_, ?_⟩
  · cases lim with
    | none => exact rfl
    | some l =>
      have := hl l rfl
      exact q_need_count (by omega) (by omega) rfl
  · rintro x rfl
    refine ⟨rfl, ?_⟩
    refine q_way ⟨rfl, q_way ?_⟩
    refine q_Crossing_init o1 o2 fun e st os sa oa C => ?_
    refine ⟨rfl, rfl, ?_⟩
    exact q_C_first o1 o2 C hl k
end
end KD


namespace KD
open PySem PySem.Spec PyProof.Rows L2 KP
section
variable {b : Int} {Q : D → Int → Prop} {E : XC → Int → Prop} {q1 q2 : Pt}
theorem q_made {q : Pt} (h : q.Ok) (k : Q q.o b) : W_made [.d q.d] b Q E := by
  unfold W_made
  refine ⟨rfl, rfl, ?_⟩
  exact q_Painter_init h k
theorem sgn_pick {b : Int} {Q : D → Int → Prop} {E : XC → Int → Prop} (hb : b < 10 ^ 11) (k : ∀ g : Int, (g = 1 ∨ g = -1) → ∀ b', b' ≤ b + 13 → Q (.int g) b') : W_pick [.pen, .d (.lst [.int 1, .int (-1)])] b Q E := by
  refine q_pick rfl (by simp) (by simp) hb fun y hy b' h => ?_
  simp only [List.mem_cons, List.mem_nil_iff, or_false] at hy
  rcases hy with rfl | rfl
  · exact k 1 (.inl rfl) b' h
  · exact k (-1) (.inr rfl) b' h
theorem q_duo (hb : b < 10 ^ 8) (k : ∀ (q1 q2 : Pt) (b' : Int), b' ≤ b + 2000 → q1.In 8 9 9 → q2.In 8 9 9 → Q (.lst [q1.d, q2.d]) b') : W_duo [.pen] b Q E := by
  unfold W_duo
  refine ⟨rfl, ?_⟩
  refine q_names (by decide) (by decide) (by show b < _; omega) fun zs b1 hb1 hz hn nd => ?_
  have hb1 : b1 ≤ b + 1000 := hb1
  obtain ⟨z1, z2, rfl⟩ : ∃ z1 z2, zs = [z1, z2] := by
    rcases zs with _ | ⟨z1, _ | ⟨z2, _ | ⟨z3, r⟩⟩⟩
    · simp at hz
    · simp at hz
    · exact ⟨z1, z2, rfl⟩
    · simp at hz; omega
  refine ⟨by simp, rfl, by decide, by decide, ?_⟩
  refine q_draw (by decide) (by decide) (by show b1 < _; omega) fun r1 b2 hb2 r10 r11 => ?_
  refine q_draw (by decide) (by decide) (by show b2 < _; have : b2 ≤ b1 + 13 := hb2; omega) fun r2 b3 hb3 r20 r21 => ?_
  have hb2 : b2 ≤ b1 + 13 := hb2
  have hb3 : b3 ≤ b2 + 13 := hb3
  refine ⟨by simp, ?_⟩
  refine q_pick rfl (by simp) (by simp) (by show b3 < _; omega) fun y hy b4 hb4 => ?_
  have hb4 : b4 ≤ b3 + 13 := hb4
  obtain ⟨c1, rfl, c10, c11⟩ : ∃ c : Int, y = .int c ∧ 0 ≤ c ∧ c ≤ 8 := by
    simp only [List.mem_cons, List.mem_nil_iff, or_false] at hy
    rcases hy with rfl | rfl
    · exact ⟨r1, rfl, r10, by omega⟩
    · exact ⟨r2, rfl, r20, by omega⟩
  refine ⟨by simp, ?_⟩
  refine sgn_pick (by show b4 < _; omega) fun g1 hg1 b5 hb5 => ?_
  have hb5 : b5 ≤ b4 + 13 := hb5
  refine ⟨⟨(show -Big < 1 + c1 by unfold Big; omega), (show 1 + c1 < Big by unfold Big; omega), (show -Big < g1 by unfold Big; omega), (show g1 < Big by unfold Big; omega)⟩, ?_⟩
  refine ⟨rfl, rfl, ?_⟩
  refine q_draw (by decide) (by decide) (by show b5 < _; omega) fun d1 b6 hb6 d10 d11 => ?_
  have hb6 : b6 ≤ b5 + 13 := hb6
  refine q_around (by decide) (by decide) (by show b6 < _; omega) fun p1 b7 hb7 p10 p11 => ?_
  have hb7 : b7 ≤ b6 + 13 := hb7
  refine ⟨by simp, by simp, ?_⟩
  refine q_draw (by decide) (by decide) (by show b7 < _; omega) fun r3 b8 hb8 r30 r31 => ?_
  have hb8 : b8 ≤ b7 + 13 := hb8
  refine q_draw (by decide) (by decide) (by show b8 < _; omega) fun r4 b9 hb9 r40 r41 => ?_
  have hb9 : b9 ≤ b8 + 13 := hb9
  refine ⟨by simp, ?_⟩
  refine q_pick rfl (by simp) (by simp) (by show b9 < _; omega) fun y hy b10 hb10 => ?_
  have hb10 : b10 ≤ b9 + 13 := hb10
  obtain ⟨c2, rfl, c20, c21⟩ : ∃ c : Int, y = .int c ∧ 0 ≤ c ∧ c ≤ 8 := by
    simp only [List.mem_cons, List.mem_nil_iff, or_false] at hy
    rcases hy with rfl | rfl
    · exact ⟨r3, rfl, r30, by omega⟩
    · exact ⟨r4, rfl, r40, by omega⟩
  refine ⟨by simp, ?_⟩
  refine sgn_pick (by show b10 < _; omega) fun g2 hg2 b11 hb11 => ?_
  have hb11 : b11 ≤ b10 + 13 := hb11
  refine ⟨⟨(show -Big < 1 + c2 by unfold Big; omega), (show 1 + c2 < Big by unfold Big; omega), (show -Big < g2 by unfold Big; omega), (show g2 < Big by unfold Big; omega)⟩, ?_⟩
  refine ⟨rfl, rfl, ?_⟩
  refine q_draw (by decide) (by decide) (by show b11 < _; omega) fun d2 b12 hb12 d20 d21 => ?_
  have hb12 : b12 ≤ b11 + 13 := hb12
  refine q_around (by decide) (by decide) (by show b12 < _; omega) fun p2 b13 hb13 p20 p21 => ?_
  have hb13 : b13 ≤ b12 + 13 := hb13
  refine ⟨by simp, by simp, ?_⟩
  have i1 : (⟨z1, d1, p1, (1 + c1) * g1⟩ : Pt).In 8 9 9 := by
    refine ⟨hn z1 (by simp), d10, (show d1 ≤ 8 by omega), p10, p11, ?_, ?_, ?_⟩ <;> (rcases hg1 with rfl | rfl <;> dsimp only <;> omega)
  have i2 : (⟨z2, d2, p2, (1 + c2) * g2⟩ : Pt).In 8 9 9 := by
    refine ⟨hn z2 (by simp), d20, (show d2 ≤ 8 by omega), p20, p21, ?_, ?_, ?_⟩ <;> (rcases hg2 with rfl | rfl <;> dsimp only <;> omega)
  refine ⟨fun en => ∃ (q1 q2 : Pt) (x3 x4 : Option B) (b' : Int), en = ⟨[some .pen, some (.d (.lst [.str z1, .str z2])), some (.own [q1.d, q2.d]), x3, x4], b'⟩ ∧ b' ≤ b + 2000 ∧ q1.In 8 9 9 ∧ q2.In 8 9 9, ?_, ?_⟩
  · refine q_draw (by decide) (by decide) (by show b13 < _; omega) fun r5 b14 hb14 r50 r51 => ?_
    have hb14 : b14 ≤ b13 + 13 := hb14
    show (if decide (r5 = 0) = true then _ else _)
    refine ite2 (fun _ => ?_) (fun _ => ?_)
    · refine ⟨rfl, rfl, rfl, by simp, ?_⟩
      refine q_pick rfl (by simp) (by simp) (by show b14 < _; omega) fun y hy b15 hb15 => ?_
      have hb15 : b15 ≤ b14 + 13 := hb15
      obtain ⟨d, rfl, d0, d1'⟩ : ∃ c : Int, y = .int c ∧ 0 ≤ c ∧ c ≤ 8 := by
        simp only [List.mem_cons, List.mem_nil_iff, or_false] at hy
        rcases hy with rfl | rfl
        · exact ⟨d1, rfl, d10, by omega⟩
        · exact ⟨d2, rfl, d20, by omega⟩
      refine ⟨by simp, rfl, (show 2 + 2 ≤ 100000 by decide), rfl, ?_⟩
      exact ⟨⟨z1, d1, p1, (1 + c1) * g1⟩, ⟨z2, d, p1, (1 + c1) * g1⟩, _, _, b15, rfl, by omega, i1, ⟨i2.nm, d0, d1', i1.p0, i1.p1, i1.s0, i1.s1, i1.sn⟩⟩
    · exact ⟨⟨z1, d1, p1, (1 + c1) * g1⟩, ⟨z2, d2, p2, (1 + c2) * g2⟩, _, _, b14, rfl, by omega, i1, i2⟩
  · rintro en ⟨q1, q2, x3, x4, b', rfl, hb', h1, h2⟩
    exact k q1 q2 b' hb' h1 h2
theorem pick2 {b : Int} {Q : D → Int → Prop} {E : XC → Int → Prop} {x y : Int} (hb : b < 10 ^ 11) (k : ∀ g : Int, (g = x ∨ g = y) → ∀ b', b' ≤ b + 13 → Q (.int g) b') : W_pick [.pen, .d (.lst [.int x, .int y])] b Q E := by
  refine q_pick rfl (by simp) (by simp) hb fun z hz b' h => ?_
  simp only [List.mem_cons, List.mem_nil_iff, or_false] at hz
  rcases hz with rfl | rfl
  · exact k x (.inl rfl) b' h
  · exact k y (.inr rfl) b' h
theorem q_great_duo (hb : b < 10 ^ 8) (k : ∀ (q1 q2 : Pt) (hub b' : Int), b' ≤ b + 4000 → q1.In (2 * 10 ^ 29) (10 ^ 29) (10 ^ 17) → q2.In (2 * 10 ^ 29) (10 ^ 29) (10 ^ 17) → Q (.tup [q1.d, q2.d, .int hub]) b') : W_great_duo [.pen] b Q E := by
  unfold W_great_duo
  refine ⟨rfl, ?_⟩
  refine q_names (by decide) (by decide) (by show b < _; omega) fun zs b1 hb1 hz hn nd => ?_
  have hb1 : b1 ≤ b + 1000 := hb1
  obtain ⟨z1, z2, rfl⟩ : ∃ z1 z2, zs = [z1, z2] := by
    rcases zs with _ | ⟨z1, _ | ⟨z2, _ | ⟨z3, r⟩⟩⟩
    · simp at hz
    · simp at hz
    · exact ⟨z1, z2, rfl⟩
    · simp at hz; omega
  refine q_great (by decide) (by decide) (by show b1 < _; omega) fun h0 b2 hb2 h00 h01 => ?_
  have hb2 : b2 ≤ b1 + 100 := hb2
  have h01 : h0 < 10 ^ 28 := h01
  refine ⟨by simp, ?_⟩
  refine sgn_pick (by show b2 < _; omega) fun g0 hg0 b3 hb3 => ?_
  have hb3 : b3 ≤ b2 + 13 := hb3
  refine ⟨⟨(show -Big < h0 by unfold Big; omega), (show h0 < Big by unfold Big; omega), (show -Big < g0 by unfold Big; omega), (show g0 < Big by unfold Big; omega)⟩, by simp, rfl, ?_⟩
  have hub0 : -(10 ^ 28) ≤ h0 * g0 ∧ h0 * g0 ≤ 10 ^ 28 := by rcases hg0 with rfl | rfl <;> omega
  generalize h0 * g0 = hub at hub0
  refine q_draw (by decide) (by decide) (by show b3 < _; omega) fun l1 b4 hb4 l10 l11 => ?_
  have hb4 : b4 ≤ b3 + 13 := hb4
  refine q_great (by decide) (by decide) (by show b4 < _; omega) fun l2 b5 hb5 l20 l21 => ?_
  have hb5 : b5 ≤ b4 + 100 := hb5
  have l21 : l2 < 10 ^ 9 := l21
  refine ⟨by simp, ?_⟩
  refine pick2 (by show b5 < _; omega) fun lo hlo b6 hb6 => ?_
  have hb6 : b6 ≤ b5 + 13 := hb6
  have lot0 : 1 ≤ 1 + lo ∧ 1 + lo ≤ 10 ^ 9 := by rcases hlo with rfl | rfl <;> omega
  refine q_great (by decide) (by decide) (by show b6 < _; omega) fun ba b7 hb7 ba0 ba1 => ?_
  have hb7 : b7 ≤ b6 + 100 := hb7
  have ba1 : ba < 10 ^ 29 := ba1
  refine ⟨rfl, by decide, by decide, ?_⟩
  show forGo _ _ _ [D.int (0 + ((0 : Nat) : Int)), D.int (0 + ((1 : Nat) : Int))] ⟨[some .pen, some (.d (.lst [.str z1, .str z2])), some (.d (.int hub)), some (.own []), some (.d (.int (1 + lo))), some (.d (.int (1000000000000 + ba))), none, none, none, none], b7⟩
  obtain ⟨lot00, lot1⟩ := lot0
  generalize 1 + lo = lot at lot00 lot1
  refine q_draw (by decide) (by decide) (by show b7 < _; omega) fun u1a b8 hb8 u1a0 u1a1 => ?_
  have hb8 : b8 ≤ b7 + 13 := hb8
  refine q_great (by decide) (by decide) (by show b8 < _; omega) fun u1b b9 hb9 u1b0 u1b1 => ?_
  have hb9 : b9 ≤ b8 + 100 := hb9
  have u1b1 : u1b < 10 ^ 8 := u1b1
  refine ⟨by simp, ?_⟩
  refine pick2 (by show b9 < _; omega) fun m1 hm1 b10 hb10 => ?_
  have hb10 : b10 ≤ b9 + 13 := hb10
  have m10 : 0 ≤ m1 ∧ m1 < 10 ^ 8 := by rcases hm1 with rfl | rfl <;> omega
  have l1m : lot * (1 + m1) ≤ 10 ^ 9 * 10 ^ 8 := by
    have h1 := Int.mul_le_mul_of_nonneg_left (show 1 + m1 ≤ 10 ^ 8 by omega) (show 0 ≤ lot by omega)
    have h2 := Int.mul_le_mul_of_nonneg_right lot1 (show (0 : Int) ≤ 10 ^ 8 by decide)
    omega
  have l1p : 1 ≤ lot * (1 + m1) := by
    have h1 := Int.mul_le_mul_of_nonneg_left (show 1 ≤ 1 + m1 by omega) (show 0 ≤ lot by omega)
    omega
  refine ⟨⟨(show -Big < lot by unfold Big; omega), (show lot < Big by unfold Big; omega), (show -Big < 1 + m1 by unfold Big; omega), (show 1 + m1 < Big by unfold Big; omega)⟩, ?_⟩
  refine ⟨by simp, ?_⟩
  refine sgn_pick (by show b10 < _; omega) fun g1 hg1 b11 hb11 => ?_
  have hb11 : b11 ≤ b10 + 13 := hb11
  refine ⟨⟨(show -Big < lot * (1 + m1) by unfold Big; omega), (show lot * (1 + m1) < Big by unfold Big; omega), (show -Big < g1 by unfold Big; omega), (show g1 < Big by unfold Big; omega)⟩, ?_⟩
  have s1b : -(10 ^ 17) ≤ lot * (1 + m1) * g1 ∧ lot * (1 + m1) * g1 ≤ 10 ^ 17 ∧ lot * (1 + m1) * g1 ≠ 0 := by rcases hg1 with rfl | rfl <;> omega
  generalize lot * (1 + m1) * g1 = s1 at s1b
  refine q_draw (by decide) (by decide) (by show b11 < _; omega) fun v1a b12 hb12 v1a0 v1a1 => ?_
  have hb12 : b12 ≤ b11 + 13 := hb12
  refine q_great (by decide) (by decide) (by show b12 < _; omega) fun v1b b13 hb13 v1b0 v1b1 => ?_
  have hb13 : b13 ≤ b12 + 100 := hb13
  have v1b1 : v1b < 10 ^ 11 := v1b1
  refine ⟨by simp, ?_⟩
  refine pick2 (by show b13 < _; omega) fun w1 hw1 b14 hb14 => ?_
  have hb14 : b14 ≤ b13 + 13 := hb14
  have w10 : 0 ≤ w1 ∧ w1 < 10 ^ 11 := by rcases hw1 with rfl | rfl <;> omega
  refine q_draw (by decide) (by decide) (by show b14 < _; omega) fun x1a b15 hb15 x1a0 x1a1 => ?_
  have hb15 : b15 ≤ b14 + 13 := hb15
  refine q_great (by decide) (by decide) (by show b15 < _; omega) fun x1b b16 hb16 x1b0 x1b1 => ?_
  have hb16 : b16 ≤ b15 + 100 := hb16
  have x1b1 : x1b < 10 ^ 20 := x1b1
  refine ⟨by simp, ?_⟩
  refine q_pick rfl (by simp) (by simp) (by show b16 < _; omega) fun y hy b17 hb17 => ?_
  have hb17 : b17 ≤ b16 + 13 := hb17
  obtain ⟨y1, rfl, y10, y11⟩ : ∃ c : Int, y = .int c ∧ 0 ≤ c ∧ c < 10 ^ 20 := by
    simp only [List.mem_cons, List.mem_nil_iff, or_false] at hy
    rcases hy with rfl | rfl | rfl
    · exact ⟨0, rfl, by decide, by decide⟩
    · exact ⟨x1a, rfl, x1a0, by omega⟩
    · exact ⟨x1b, rfl, x1b0, by omega⟩
  refine ⟨rfl, rfl, ⟨(show -Big < w1 by unfold Big; omega), (show w1 < Big by unfold Big; omega), (show -Big < s1 by unfold Big; omega), (show s1 < Big by unfold Big; omega)⟩, by simp, by simp, ?_⟩
  have ws1 : -(10 ^ 28) ≤ w1 * s1 ∧ w1 * s1 ≤ 10 ^ 28 := by
    have h1 := Int.mul_le_mul_of_nonneg_left s1b.2.1 w10.1
    have h2 := Int.mul_le_mul_of_nonneg_left s1b.1 w10.1
    have h3 := Int.mul_le_mul_of_nonneg_right (show w1 ≤ 10 ^ 11 by omega) (show (0 : Int) ≤ 10 ^ 17 by decide)
    rw [Int.mul_neg] at h2
    omega
  refine q_draw (by decide) (by decide) (by show b17 < _; omega) fun u2a b18 hb18 u2a0 u2a1 => ?_
  have hb18 : b18 ≤ b17 + 13 := hb18
  refine q_great (by decide) (by decide) (by show b18 < _; omega) fun u2b b19 hb19 u2b0 u2b1 => ?_
  have hb19 : b19 ≤ b18 + 100 := hb19
  have u2b1 : u2b < 10 ^ 8 := u2b1
  refine ⟨by simp, ?_⟩
  refine pick2 (by show b19 < _; omega) fun m2 hm2 b20 hb20 => ?_
  have hb20 : b20 ≤ b19 + 13 := hb20
  have m20 : 0 ≤ m2 ∧ m2 < 10 ^ 8 := by rcases hm2 with rfl | rfl <;> omega
  have l2m : lot * (1 + m2) ≤ 10 ^ 9 * 10 ^ 8 := by
    have h1 := Int.mul_le_mul_of_nonneg_left (show 1 + m2 ≤ 10 ^ 8 by omega) (show 0 ≤ lot by omega)
    have h2 := Int.mul_le_mul_of_nonneg_right lot1 (show (0 : Int) ≤ 10 ^ 8 by decide)
    omega
  have l2p : 1 ≤ lot * (1 + m2) := by
    have h1 := Int.mul_le_mul_of_nonneg_left (show 1 ≤ 1 + m2 by omega) (show 0 ≤ lot by omega)
    omega
  refine ⟨⟨(show -Big < lot by unfold Big; omega), (show lot < Big by unfold Big; omega), (show -Big < 1 + m2 by unfold Big; omega), (show 1 + m2 < Big by unfold Big; omega)⟩, ?_⟩
  refine ⟨by simp, ?_⟩
  refine sgn_pick (by show b20 < _; omega) fun g2 hg2 b21 hb21 => ?_
  have hb21 : b21 ≤ b20 + 13 := hb21
  refine ⟨⟨(show -Big < lot * (1 + m2) by unfold Big; omega), (show lot * (1 + m2) < Big by unfold Big; omega), (show -Big < g2 by unfold Big; omega), (show g2 < Big by unfold Big; omega)⟩, ?_⟩
  have s2b : -(10 ^ 17) ≤ lot * (1 + m2) * g2 ∧ lot * (1 + m2) * g2 ≤ 10 ^ 17 ∧ lot * (1 + m2) * g2 ≠ 0 := by rcases hg2 with rfl | rfl <;> omega
  generalize lot * (1 + m2) * g2 = s2 at s2b
  refine q_draw (by decide) (by decide) (by show b21 < _; omega) fun v2a b22 hb22 v2a0 v2a1 => ?_
  have hb22 : b22 ≤ b21 + 13 := hb22
  refine q_great (by decide) (by decide) (by show b22 < _; omega) fun v2b b23 hb23 v2b0 v2b1 => ?_
  have hb23 : b23 ≤ b22 + 100 := hb23
  have v2b1 : v2b < 10 ^ 11 := v2b1
  refine ⟨by simp, ?_⟩
  refine pick2 (by show b23 < _; omega) fun w2 hw2 b24 hb24 => ?_
  have hb24 : b24 ≤ b23 + 13 := hb24
  have w20 : 0 ≤ w2 ∧ w2 < 10 ^ 11 := by rcases hw2 with rfl | rfl <;> omega
  refine q_draw (by decide) (by decide) (by show b24 < _; omega) fun x2a b25 hb25 x2a0 x2a1 => ?_
  have hb25 : b25 ≤ b24 + 13 := hb25
  refine q_great (by decide) (by decide) (by show b25 < _; omega) fun x2b b26 hb26 x2b0 x2b1 => ?_
  have hb26 : b26 ≤ b25 + 100 := hb26
  have x2b1 : x2b < 10 ^ 20 := x2b1
  refine ⟨by simp, ?_⟩
  refine q_pick rfl (by simp) (by simp) (by show b26 < _; omega) fun y hy b27 hb27 => ?_
  have hb27 : b27 ≤ b26 + 13 := hb27
  obtain ⟨y2, rfl, y20, y21⟩ : ∃ c : Int, y = .int c ∧ 0 ≤ c ∧ c < 10 ^ 20 := by
    simp only [List.mem_cons, List.mem_nil_iff, or_false] at hy
    rcases hy with rfl | rfl | rfl
    · exact ⟨0, rfl, by decide, by decide⟩
    · exact ⟨x2a, rfl, x2a0, by omega⟩
    · exact ⟨x2b, rfl, x2b0, by omega⟩
  refine ⟨rfl, rfl, ⟨(show -Big < w2 by unfold Big; omega), (show w2 < Big by unfold Big; omega), (show -Big < s2 by unfold Big; omega), (show s2 < Big by unfold Big; omega)⟩, by simp, by simp, ?_⟩
  have ws2 : -(10 ^ 28) ≤ w2 * s2 ∧ w2 * s2 ≤ 10 ^ 28 := by
    have h1 := Int.mul_le_mul_of_nonneg_left s2b.2.1 w20.1
    have h2 := Int.mul_le_mul_of_nonneg_left s2b.1 w20.1
    have h3 := Int.mul_le_mul_of_nonneg_right (show w2 ≤ 10 ^ 11 by omega) (show (0 : Int) ≤ 10 ^ 17 by decide)
    rw [Int.mul_neg] at h2
    omega
  have i1 : (⟨z1, 1000000000000 + ba + y1 - w1, hub - w1 * s1, s1⟩ : Pt).In (2 * 10 ^ 29) (10 ^ 28 + 10 ^ 28) (10 ^ 17) := ⟨hn z1 (by simp), by dsimp only; omega, by dsimp only; omega, by dsimp only; omega, by dsimp only; omega, s1b.1, s1b.2.1, s1b.2.2⟩
  have i2 : (⟨z2, 1000000000000 + ba + y2 - w2, hub - w2 * s2, s2⟩ : Pt).In (2 * 10 ^ 29) (10 ^ 28 + 10 ^ 28) (10 ^ 17) := ⟨hn z2 (by simp), by dsimp only; omega, by dsimp only; omega, by dsimp only; omega, by dsimp only; omega, s2b.1, s2b.2.1, s2b.2.2⟩
  refine ⟨fun en => ∃ (q1 q2 : Pt) (x4 x5 x6 x7 x8 x9 : Option B) (b' : Int), en = ⟨[some .pen, some (.d (.lst [.str z1, .str z2])), some (.d (.int hub)), some (.own [q1.d, q2.d]), x4, x5, x6, x7, x8, x9], b'⟩ ∧ b' ≤ b + 4000 ∧ q1.In (2 * 10 ^ 29) (10 ^ 29) (10 ^ 17) ∧ q2.In (2 * 10 ^ 29) (10 ^ 29) (10 ^ 17), ?_, ?_⟩
  · refine q_draw (by decide) (by decide) (by show b27 < _; omega) fun r5 c1 hc1 r50 r51 => ?_
    have hc1 : c1 ≤ b27 + 13 := hc1
    show (if decide (r5 = 0) = true then _ else _)
    refine ite2 (fun _ => ?_) (fun _ => ?_)
    · refine ⟨rfl, rfl, ?_⟩
      refine q_draw (by decide) (by decide) (by show c1 < _; omega) fun r6 c2 hc2 r60 r61 => ?_
      have hc2 : c2 ≤ c1 + 13 := hc2
      refine ⟨by simp, (show 2 + 1 ≤ 100000 by decide), rfl, (show 3 + 1 ≤ 100000 by decide), rfl, ?_⟩
      refine ⟨⟨z1, 1000000000000 + ba + y1 - w1, hub - w1 * s1, s1⟩, ⟨z2, 1000000000000 + ba + y2 - w2, hub - w2 * s2 + 1 + r6, s2⟩, _, _, _, _, _, _, c2, rfl, by omega, i1.mono (by decide) (by decide) (by decide), ⟨i2.nm, i2.d0, i2.d1, ?_, ?_, i2.s0, i2.s1, i2.sn⟩⟩
      · have := i2.p0; dsimp only at this ⊢; omega
      · have := i2.p1; dsimp only at this ⊢; omega
    · exact ⟨⟨z1, 1000000000000 + ba + y1 - w1, hub - w1 * s1, s1⟩, ⟨z2, 1000000000000 + ba + y2 - w2, hub - w2 * s2, s2⟩, _, _, _, _, _, _, c1, rfl, by omega, i1.mono (by decide) (by decide) (by decide), i2.mono (by decide) (by decide) (by decide)⟩
  · rintro en ⟨q1, q2, x4, x5, x6, x7, x8, x9, b', rfl, hb', h1, h2⟩
    exact ⟨rfl, rfl, by simp, k q1 q2 hub b' hb' h1 h2⟩
end
end KD

set_option pp.maxSteps 150
namespace KD
open PySem PySem.Spec PyProof.Rows L2 KP
theorem eVar_d {i : Nat} {en : En} {x : D} {Q : D → En → Prop} {E : EK} (h : en.sl[i]? = some (some (.d x))) (k : Q x en) : eVar i en Q E := by
  unfold eVar
  rw [h]
  exact k
theorem neG_same {x : D} {d : PyData} {Q : D → Prop} (e : x.pd = some d) (h : SeqAt.shaped d = true) (k : Q (.bl false)) : oEqG true x x Q := by
  unfold oEqG
  rw [e]
  refine ⟨h, h, ?_⟩
  rw [if_pos rfl, SeqAt.eqv_refl d (SeqAt.canLay_of_shaped h)]
  exact k
theorem neT_same {xs : List D} {d : PyData} {Q : D → Prop} (e : (D.tup xs).pd = some d) (h : SeqAt.shaped d = true) (k : Q (.bl false)) : oNe (.tup xs) (.tup xs) Q := neG_same e h k
theorem eqG_same {x : D} {d : PyData} {Q : D → Prop} (e : x.pd = some d) (h : SeqAt.shaped d = true) (k : Q (.bl true)) : oEqG false x x Q := by
  unfold oEqG
  rw [e]
  refine ⟨h, h, ?_⟩
  rw [if_neg (by decide), SeqAt.eqv_refl d (SeqAt.canLay_of_shaped h)]
  exact k
theorem ne_cp {r : Option (Int × Option Int × Int)} {Q : D → Prop} (k : Q (.bl false)) : oNe (cpN r) (cpN r) Q := by
  match r with
  | none => exact neG_same (x := .non) rfl rfl k
  | some (f, none, d) => exact neG_same (x := .tup [.int f, .non, .int d]) rfl rfl k
  | some (f, some l, d) => exact neG_same (x := .tup [.int f, .int l, .int d]) rfl rfl k
theorem eq_cp {r : Option (Int × Option Int × Int)} {Q : D → Prop} (k : Q (.bl true)) : oEq (cpN r) (cpN r) Q := by
  match r with
  | none => exact eqG_same (x := .non) rfl rfl k
  | some (f, none, d) => exact eqG_same (x := .tup [.int f, .non, .int d]) rfl rfl k
  | some (f, some l, d) => exact eqG_same (x := .tup [.int f, .int l, .int d]) rfl rfl k
section
variable {b : Int} {Q : D → Int → Prop} {E : XC → Int → Prop} {q1 q2 : Pt}
theorem q_turned {r : Option (Int × Option Int × Int)} {c g : Int} (rb : CpB r) (hg : -1 ≤ g ∧ g ≤ 1) (k : Q (cpN (trn c g r)) b) : W_turned [.d (cpN r), .d (.int c), .d (.int g)] b Q E := by
  unfold W_turned
  refine ⟨rfl, ?_⟩
  match r, rb, k with
  | none, _, k => exact k
  | some (f, l, d), rb, k =>
    have h := rb f l d rfl
    refine ⟨rfl, ⟨(show -Big < g by unfold Big; omega), (show g < Big by unfold Big; omega), (show -Big < f by unfold Big; omega), (show f < Big by unfold Big; omega)⟩, ?_⟩
    refine ⟨fun x en => x = optN (l.map fun x => c + g * x) ∧ en = ⟨[some (.d (cpN (some (f, l, d)))), some (.d (.int c)), some (.d (.int g))], b⟩, ?_, ?_⟩
    · cases l with
      | none => exact ⟨rfl, rfl, rfl⟩
      | some x =>
        have := h.2.1 x rfl
        exact ⟨rfl, rfl, ⟨(show -Big < g by unfold Big; omega), (show g < Big by unfold Big; omega), (show -Big < x by unfold Big; omega), (show x < Big by unfold Big; omega)⟩, rfl, rfl⟩
    · rintro x en ⟨rfl, rfl⟩
      exact ⟨rfl, by simp, k⟩
def Pt.mv (q : Pt) (c : Int) : Pt := ⟨q.nm, q.dy, q.po + c, q.sr⟩
def Pt.ng (q : Pt) : Pt := ⟨q.nm, q.dy, -q.po, -q.sr⟩
theorem q_add {c : Int} (h : (q1.mv c).Ok) (k : Q (q1.mv c).o b) : W_Painter_add [.d q1.o, .d (.int c)] b Q E := by
  unfold W_Painter_add
  refine ⟨rfl, rfl, q_Painter_name ⟨rfl, q_Painter_day ⟨rfl, q_Painter_post ⟨rfl, q_Painter_stride ?_⟩⟩⟩⟩
  exact q_Painter_init (q := q1.mv c) h k
theorem q_neg (h : q1.ng.Ok) (k : Q q1.ng.o b) : W_Painter_neg [.d q1.o] b Q E := by
  unfold W_Painter_neg
  refine ⟨rfl, rfl, q_Painter_name ⟨rfl, q_Painter_day ⟨rfl, q_Painter_post ⟨rfl, q_Painter_stride ?_⟩⟩⟩⟩
  exact q_Painter_init (q := q1.ng) h k
theorem ok_mv {q : Pt} {c : Int} (h : q.In (2 * 10 ^ 29) (10 ^ 29) (10 ^ 17)) (h0 : -(10 ^ 29) ≤ c) (h1 : c ≤ 10 ^ 29) : (q.mv c).Ok :=
  ⟨h.nm, h.d0, by have := h.d1; show q.dy ≤ _; omega, by have := h.p0; show _ ≤ q.po + c; omega, by have := h.p1; show q.po + c ≤ _; omega, by have := h.s0; show _ ≤ q.sr; omega, by have := h.s1; show q.sr ≤ _; omega, h.sn⟩
theorem ok_ng {q : Pt} (h : q.In (2 * 10 ^ 29) (10 ^ 29) (10 ^ 17)) : q.ng.Ok :=
  ⟨h.nm, h.d0, by have := h.d1; show q.dy ≤ _; omega, by have := h.p1; show _ ≤ -q.po; omega, by have := h.p0; show -q.po ≤ _; omega, by have := h.s1; show _ ≤ -q.sr; omega, by have := h.s0; show -q.sr ≤ _; omega, by have := h.sn; show -q.sr ≠ 0; omega⟩
theorem q_posts_right {c : Int} (h1 : q1.In (2 * 10 ^ 29) (10 ^ 29) (10 ^ 17)) (h2 : q2.In (2 * 10 ^ 29) (10 ^ 29) (10 ^ 17)) (c0 : -(10 ^ 29) ≤ c) (c1 : c ≤ 10 ^ 29) (k : Q (.bl true) b) : W_posts_right [.d q1.o, .d q2.o, .d (.int c)] b Q E := by
  unfold W_posts_right
  have o1 : q1.Ok := h1.mono (by decide) (by decide) (by decide)
  have o2 : q2.Ok := h2.mono (by decide) (by decide) (by decide)
  refine ⟨rfl, ?_⟩
  refine q_common_posts o1 o2 fun r hr rb => ?_
  refine q_common_posts o2 o1 fun r' hr' rb' => ?_
  obtain rfl := CP.inj hr' hr.swap
  refine ⟨rfl, ?_⟩
  have rest : forall en : En, en = ⟨[some (.d q1.o), some (.d q2.o), some (.d (.int c)), some (.d (cpN r)), some (.d (cpN (swp r)))], b⟩ → (sSeq (sIf (tOf (eOp oNe (eCall W_common_posts (aCons (eOwn2 "Painter" (okT "int") W_Painter_add (eVar 0) (eVar 2)) (aCons (eOwn2 "Painter" (okT "int") W_Painter_add (eVar 1) (eVar 2)) aNil))) (eCall W_turned (aCons (eVar 3) (aCons (eVar 2) (aCons (eK (.int 1)) aNil)))))) (sRet (eK (.bl false))) sNil)
    (sRet (eOp oEq (eCall W_common_posts (aCons (eOwn1 "Painter" W_Painter_neg (eVar 0)) (aCons (eOwn1 "Painter" W_Painter_neg (eVar 1)) aNil))) (eCall W_turned (aCons (eVar 3) (aCons (eK (.int 0)) (aCons (eUn oNeg (eK (.int 1))) aNil))))))) ⟨fun en => Q .non en.b, fun x en => Q x en.b, fun _ => False, fun _ => False, fun x en => E x en.b⟩ en := by
    rintro en rfl
    refine ⟨rfl, rfl, ?_⟩
    refine q_add (ok_mv h1 c0 c1) ⟨rfl, rfl, ?_⟩
    refine q_add (ok_mv h2 c0 c1) ?_
    refine q_common_posts (ok_mv h1 c0 c1) (ok_mv h2 c0 c1) fun r2 hr2 _ => ?_
    obtain rfl := CP.inj hr2 hr.shift
    refine q_turned rb (by decide) ?_
    refine ne_cp ?_
    refine iteF ?_
    refine ⟨rfl, ?_⟩
    refine q_neg (ok_ng h1) ⟨rfl, ?_⟩
    refine q_neg (ok_ng h2) ?_
    refine q_common_posts (ok_ng h1) (ok_ng h2) fun r3 hr3 _ => ?_
    obtain rfl := CP.inj hr3 hr.mirror
    refine q_turned rb (by decide) ?_
    exact eq_cp k
  match r, rest with
  | none, rest =>
    refine ⟨fun en => en = ⟨[some (.d q1.o), some (.d q2.o), some (.d (.int c)), some (.d (cpN none)), some (.d (cpN (swp none)))], b⟩, rfl, fun en he => ?_⟩
    subst he
    exact ⟨fun en => en = ⟨[some (.d q1.o), some (.d q2.o), some (.d (.int c)), some (.d (cpN none)), some (.d (cpN (swp none)))], b⟩, rfl, rest⟩
  | some (f, none, d), rest =>
    refine ⟨fun en => en = ⟨[some (.d q1.o), some (.d q2.o), some (.d (.int c)), some (.d (cpN (some (f, none, d)))), some (.d (cpN (swp (some (f, none, d)))))], b⟩, ⟨rfl, ?_⟩, fun en he => ?_⟩
    · show oNe (.tup [.int f, .non, .int d]) (.tup [.int f, .non, .int d]) (fun z => match z with | .bl cc => (if cc = true then _ else _) | _ => False)
      refine neT_same (xs := [.int f, .non, .int d]) rfl rfl ?_
      rfl
    subst he
    exact ⟨fun en => en = ⟨[some (.d q1.o), some (.d q2.o), some (.d (.int c)), some (.d (cpN (some (f, none, d)))), some (.d (cpN (swp (some (f, none, d)))))], b⟩, ⟨rfl, rfl⟩, rest⟩
  | some (f, some l, d), rest =>
    refine ⟨fun en => en = ⟨[some (.d q1.o), some (.d q2.o), some (.d (.int c)), some (.d (cpN (some (f, some l, d)))), some (.d (cpN (swp (some (f, some l, d)))))], b⟩, ⟨rfl, rfl⟩, fun en he => ?_⟩
    subst he
    exact ⟨fun en => en = ⟨[some (.d q1.o), some (.d q2.o), some (.d (.int c)), some (.d (cpN (some (f, some l, d)))), some (.d (cpN (swp (some (f, some l, d)))))], b⟩, by
      refine ⟨rfl, rfl, rfl, rfl, by simp, ?_⟩
      refine eVar_d (x := .tup [.int l, .int f, .int d]) rfl ?_
      refine neT_same (xs := [.int l, .int f, .int d]) rfl rfl ?_
      rfl, rest⟩
theorem q_is_later {x y : Option Int} (k : (∀ j, y = some j → ∃ i, x = some i ∧ i ≤ j) → Q (.bl false) b) (h : ∀ j, y = some j → ∃ i, x = some i ∧ i ≤ j) : W_is_later [.d (optN x), .d (optN y)] b Q E := by
  unfold W_is_later
  refine ⟨rfl, ?_⟩
  have k2 := k h
  clear k
  cases y with
  | none => exact k2
  | some j =>
    obtain ⟨i, rfl, hi⟩ := h j rfl
    show Q (.bl (decide (i > j))) b
    rw [decide_eq_false (by omega)]
    exact k2
theorem ne_opt {x : Option Int} {Q : D → Prop} (k : Q (.bl false)) : oNe (optN x) (optN x) Q := by
  cases x with
  | none => exact neG_same (x := .non) rfl rfl k
  | some i => show Q (.bl (!decide (i = i))); rw [decide_eq_true rfl]; exact k
def Pt.dl (q : Pt) (c : Int) : Pt := ⟨q.nm, q.dy + c, q.po, q.sr⟩
theorem ok_dl {q : Pt} {c : Int} (h : q.In (2 * 10 ^ 29) (10 ^ 29) (10 ^ 17)) (h0 : 0 ≤ c) (h1 : c ≤ 10 ^ 29) : (q.dl c).Ok :=
  ⟨h.nm, by have := h.d0; show 0 ≤ q.dy + c; omega, by have := h.d1; show q.dy + c ≤ _; omega, by have := h.p0; show _ ≤ q.po; omega, by have := h.p1; show q.po ≤ _; omega, by have := h.s0; show _ ≤ q.sr; omega, by have := h.s1; show q.sr ≤ _; omega, h.sn⟩
theorem q_blocks_right {c : Int} (h1 : q1.In (2 * 10 ^ 29) (10 ^ 29) (10 ^ 17)) (h2 : q2.In (2 * 10 ^ 29) (10 ^ 29) (10 ^ 17)) (c0 : 0 ≤ c) (c1 : c ≤ 10 ^ 29) (hb : b < 10 ^ 9) (k : ∀ b', b' ≤ b + 200 → Q (.bl true) b') : W_blocks_right [.pen, .d q1.o, .d q2.o, .d (.int c)] b Q E := by
  unfold W_blocks_right
  have o1 : q1.Ok := h1.mono (by decide) (by decide) (by decide)
  have o2 : q2.Ok := h2.mono (by decide) (by decide) (by decide)
  refine ⟨rfl, ?_⟩
  refine q_first_block (lim := none) (ear := false) o1 o2 (fun l e => nomatch e) fun told ht tb => ?_
  refine ⟨rfl, rfl, ?_⟩
  refine q_first_block (lim := none) (ear := true) o1 o2 (fun l e => nomatch e) fun early he eb => ?_
  refine ⟨rfl, ?_⟩
  refine q_draw (by decide) (by decide) (by show b < _; omega) fun r1 b1 hb1 r10 r11 => ?_
  have hb1 : b1 ≤ b + 13 := hb1
  refine q_great (by decide) (by decide) (by show b1 < _; omega) fun r2 b2 hb2 r20 r21 => ?_
  have hb2 : b2 ≤ b1 + 100 := hb2
  have r21 : r2 < 10 ^ 12 := r21
  refine ⟨by simp, ?_⟩
  refine q_pick rfl (by simp) (by simp) (by show b2 < _; omega) fun y hy b3 hb3 => ?_
  have hb3 : b3 ≤ b2 + 13 := hb3
  obtain ⟨L, rfl, L0, L1⟩ : ∃ c : Int, y = .int c ∧ 0 ≤ c ∧ c < 10 ^ 12 := by
    simp only [List.mem_cons, List.mem_nil_iff, or_false] at hy
    rcases hy with rfl | rfl | rfl
    · exact ⟨0, rfl, by decide, by decide⟩
    · exact ⟨r1, rfl, r10, by omega⟩
    · exact ⟨r2, rfl, r20, by omega⟩
  refine ⟨rfl, rfl, ?_⟩
  refine q_first_block (lim := some L) (ear := false) o1 o2 (fun l e => by injection e with e; omega) fun less hls lsb => ?_
  refine q_draw (by decide) (by decide) (by show b3 < _; omega) fun r3 b4 hb4 r30 r31 => ?_
  have hb4 : b4 ≤ b3 + 13 := hb4
  refine ⟨rfl, rfl, ?_⟩
  refine q_first_block (lim := some (L + 1 + r3)) (ear := false) o1 o2 (fun l e => by injection e with e; omega) fun more hmr mrb => ?_
  refine ⟨rfl, ?_⟩
  refine ⟨fun en => en = ⟨[some .pen, some (.d q1.o), some (.d q2.o), some (.d (.int c)), some (.d (optN told)), some (.d (optN early)), some (.d (.int L)), some (.d (optN less)), some (.d (optN more)), none, none], b4⟩, ?_, ?_⟩
  · refine q_is_later (fun _ => ?_) (FB.le ht he (fun l e => nomatch e) fun _ => rfl)
    refine iteF ?_
    refine q_is_later (fun _ => ?_) (FB.le hls hmr (fun l e => ⟨L, rfl, by injection e with e; omega⟩) fun z => z)
    refine iteF ?_
    refine q_is_later (fun _ => ?_) (FB.le hmr ht (fun l e => nomatch e) fun z => z)
    exact iteF rfl
  rintro en rfl
  refine ⟨rfl, q_Painter_name ⟨rfl, q_Painter_day ⟨rfl, q_Painter_post ⟨rfl, q_Painter_stride ?_⟩⟩⟩⟩
  refine q_Painter_init (q := q1.dl c) (ok_dl h1 c0 c1) ?_
  refine ⟨rfl, q_Painter_name ⟨rfl, q_Painter_day ⟨rfl, q_Painter_post ⟨rfl, q_Painter_stride ?_⟩⟩⟩⟩
  refine q_Painter_init (q := q2.dl c) (ok_dl h2 c0 c1) ?_
  refine q_first_block (q1 := q1.dl c) (q2 := q2.dl c) (lim := none) (ear := false) (ok_dl h1 c0 c1) (ok_dl h2 c0 c1) (fun l e => nomatch e) fun t2 ht2 _ => ?_
  obtain rfl := (FB.inj ht2 ht.days).symm
  refine eVar_d (x := optN told) rfl ?_
  refine ne_opt ?_
  refine iteF ?_
  cases told with
  | none =>
    refine ⟨rfl, rfl, ?_⟩
    refine q_first_block (lim := some 0) (ear := true) o1 o2 (fun l e => by injection e with e; omega) fun z hz _ => ?_
    cases z with
    | none => exact k b4 (by omega)
    | some z =>
      obtain ⟨_, j, j0, _, hl, _⟩ := hz.1
      have := hl 0 rfl
      omega
  | some kk =>
    have kb := tb kk rfl
    obtain ⟨k0, j, j0, ej, _, hd⟩ := ht.1
    have sb := h1.s0
    have sb1 := h1.s1
    have pb := h1.p0
    have pb1 := h1.p1
    have pk : -(10 ^ 80) ≤ q1.po + kk * q1.sr ∧ q1.po + kk * q1.sr ≤ 10 ^ 80 := by
      have a := Int.mul_le_mul_of_nonneg_left sb1 k0
      have a2 := Int.mul_le_mul_of_nonneg_left sb k0
      have a3 := Int.mul_le_mul_of_nonneg_right kb.2 (show (0 : Int) ≤ 10 ^ 17 by decide)
      rw [Int.mul_neg] at a2
      omega
    refine ⟨rfl, rfl, rfl, rfl, ?_⟩
    refine q_post_after o1 k0 (by omega) ?_
    refine q_count_at o2 pk.1 pk.2 ?_
    have cn : cntO q2 (q1.po + kk * q1.sr) = some j := by rw [ej]; exact cnt_some o2.sn j0
    rw [cn]
    have jb := cnt_b o2 pk.1 pk.2 cn
    have hd2 : q2.dy + j < q1.dy + kk := by
      rcases hd with hd | ⟨_, hd⟩
      · omega
      · cases hd
    refine ⟨fun en => en = ⟨[some .pen, some (.d q1.o), some (.d q2.o), some (.d (.int c)), some (.d (.int kk)), some (.d (optN early)), some (.d (.int L)), some (.d (optN less)), some (.d (optN more)), some (.d (q1.dl c).o), some (.d (.int j))], b4⟩, ?_, ?_⟩
    · refine ⟨rfl, q_Painter_day ⟨rfl, q_Painter_day ?_⟩⟩
      show (if decide (q2.dy + j ≥ q1.dy + kk) = true then _ else _)
      rw [decide_eq_false (by omega)]
      exact iteF rfl
    rintro en rfl
    have dd1 := h1.d1
    have dd2 := h2.d0
    refine ⟨rfl, rfl, ?_⟩
    refine q_first_block (lim := some (j + 1)) (ear := false) o1 o2 (fun l e => by injection e with e; omega) fun x1 hx1 _ => ?_
    have e1 : x1 = some kk := FB.inj hx1 ⟨⟨k0, j, j0, ej, fun l e => by injection e with e; omega, hd⟩, fun k' hk' => ht.2 k' (hk'.lim (fun l e => nomatch e) fun z => z)⟩
    subst e1
    refine eVar_d (x := .int kk) rfl ?_
    show (match D.bl (decide (kk = kk)) with | .bl true => _ | .bl false => _ | _ => False)
    rw [decide_eq_true rfl]
    refine ⟨rfl, rfl, ?_⟩
    refine q_first_block (lim := some j) (ear := false) o1 o2 (fun l e => by injection e with e; omega) fun x2 hx2 _ => ?_
    refine eVar_d (x := .int kk) rfl ?_
    cases x2 with
    | none => exact ⟨rfl, rfl, k b4 (by omega)⟩
    | some i =>
      have ne : i ≠ kk := fun z => by
        subst z
        obtain ⟨_, j', j0', ej', hl', _⟩ := hx2.1
        have := hl' j rfl
        have : j' = j := Int.eq_of_mul_eq_mul_right o2.sn (by omega)
        omega
      show Q (.bl (!decide (i = kk))) b4
      rw [decide_eq_false ne]
      exact k b4 (by omega)
end
end KD

namespace KD
open PySem PySem.Spec PyProof.Rows L2 KP
abbrev lawX (n : Nat) (x2 x3 x4 x5 x6 x7 x8 : Option B) (b : Int) : En := ⟨[some (.scr n), some .pen, x2, x3, x4, x5, x6, x7, x8], b⟩
theorem law_w (n : Nat) (hn : n ≤ 63) : w_law lawN (lawE 9 n) := by
  have mb : 0 ≤ 3 + (if (n : Int) < 5 then (n : Int) else 5) ∧ 3 + (if (n : Int) < 5 then (n : Int) else 5) ≤ 8 := by split <;> omega
  refine ⟨by show -(2 ^ 62) ≤ 3 + (if (n : Int) < 5 then (n : Int) else 5); omega, by show 3 + (if (n : Int) < 5 then (n : Int) else 5) < 2 ^ 62; omega, ?_⟩
  generalize 3 + (if (n : Int) < 5 then (n : Int) else 5) = mm at mb
  refine forGo_ind (intsD 0 mm.toNat) (fun i en => ∃ x2 x3 x4 x5 x6 x7 x8 b, en = lawX n x2 x3 x4 x5 x6 x7 x8 b ∧ b ≤ 10000 * (i : Int)) ⟨_, _, _, _, _, _, _, _, rfl, by show (0 : Int) ≤ _; simp⟩ (fun i x en J hx ⟨x2, x3, x4, x5, x6, x7, x8, b, he, hb⟩ hJ => ?_) fun en ⟨x2, x3, x4, x5, x6, x7, x8, b, he, hb⟩ => ?_
  · subst he
    obtain ⟨hi, rfl⟩ := intsD_get hx
    have hi8 : i < 8 := by omega
    refine q_duo (by show b < _; omega) fun a1 a2 b1 hb1 ha1 ha2 => ?_
    have hb1 : b1 ≤ b + 2000 := hb1
    refine q_great_duo (by show b1 < _; omega) fun g1 g2 hub b2 hb2 hg1 hg2 => ?_
    have hb2 : b2 ≤ b1 + 4000 := hb2
    refine ⟨rfl, rfl, rfl, by simp, rfl, rfl, by simp, by simp, ?_⟩
    refine forGo_ind [D.tup [a1.d, a2.d], D.tup [g1.d, g2.d]] (fun j en => ∃ x5 x6 x7 x8 b3, en = lawX n (some (.d (.int (0 + (i : Int))))) (some (.d (.lst [a1.d, a2.d]))) (some (.d (.tup [g1.d, g2.d, .int hub]))) x5 x6 x7 x8 b3 ∧ b3 ≤ b2 + 1000 * (j : Int)) ⟨_, _, _, _, _, rfl, by show b2 ≤ _; simp⟩ (fun j x en J2 hx2 ⟨x5, x6, x7, x8, b3, he, hb3⟩ hJ2 => ?_) fun en ⟨x5, x6, x7, x8, b3, he, hb3⟩ => hJ en ⟨_, _, _, _, _, _, _, _, he, ?_⟩
    · subst he
      have pr : ∃ q1 q2 : Pt, x = .tup [q1.d, q2.d] ∧ q1.In (2 * 10 ^ 29) (10 ^ 29) (10 ^ 17) ∧ q2.In (2 * 10 ^ 29) (10 ^ 29) (10 ^ 17) := by
        match j, hx2 with
        | 0, hx2 => cases hx2; exact ⟨a1, a2, rfl, ha1.mono (by decide) (by decide) (by decide), ha2.mono (by decide) (by decide) (by decide)⟩
        | 1, hx2 => cases hx2; exact ⟨g1, g2, rfl, hg1, hg2⟩
        | j + 2, hx2 => simp at hx2
      obtain ⟨q1, q2, rfl, h1, h2⟩ := pr
      have hj : j < 2 := (List.getElem?_eq_some_iff.mp hx2).1
      have o1 : q1.Ok := h1.mono (by decide) (by decide) (by decide)
      have o2 : q2.Ok := h2.mono (by decide) (by decide) (by decide)
      refine ⟨rfl, ?_⟩
      refine q_made o1 ?_
      refine q_made o2 ⟨rfl, ?_⟩
      refine q_around (by decide) (by decide) (by show b3 < _; omega) fun c b4 hb4 c0 c1 => ?_
      have hb4 : b4 ≤ b3 + 13 := hb4
      refine q_posts_right h1 h2 (by omega) (by omega) ?_
      refine iteF ?_
      refine q_great (by decide) (by decide) (by show b4 < _; omega) fun r b5 hb5 r0 r1 => ?_
      have hb5 : b5 ≤ b4 + 100 := hb5
      have r1 : r < 10 ^ 29 := r1
      refine q_blocks_right h1 h2 r0 (by omega) (by show b5 < _; omega) fun b6 hb6 => ?_
      have hb6 : b6 ≤ b5 + 200 := hb6
      refine iteF ?_
      refine q_draw (by decide) (by decide) (by show b6 < _; omega) fun r2 b7 hb7 r20 r21 => ?_
      have hb7 : b7 ≤ b6 + 13 := hb7
      refine q_blocks_right h2 h1 r20 (by omega) (by show b7 < _; omega) fun b8 hb8 => ?_
      have hb8 : b8 ≤ b7 + 200 := hb8
      refine iteF ?_
      refine hJ2 _ ⟨_, _, _, _, _, rfl, ?_⟩
      show b8 ≤ b2 + 1000 * ((j + 1 : Nat) : Int)
      have : ((j + 1 : Nat) : Int) = (j : Int) + 1 := by omega
      rw [this]
      omega
    · have hb3 : b3 ≤ b2 + 1000 * ((2 : Nat) : Int) := hb3
      have : ((i + 1 : Nat) : Int) = (i : Int) + 1 := by omega
      rw [this]
      omega
  · subst he
    rfl
end KD

open PySem PySem.W PySem.Calls PyProof.Rows
set_option maxHeartbeats 0 in
theorem PySem.Challenge.cw_paintposts_k12_whole_common_posts_seen_f_holds : PySem.Challenge.rw_paintposts_k12_whole_common_posts_seen_f.Holds := by
  w_on; o_law
  refine HandSHeadRun.head_any (r := OpenLaw.row PySem.Challenge.rw_paintposts_k12_whole_common_posts_seen_f) (q := KP.qq) (H := KP.hk) (ob := KP.obh) (M := 20000) (loose := KP.loo) (d := HandSHeadRun.topDef (OpenLaw.row PySem.Challenge.rw_paintposts_k12_whole_common_posts_seen_f).prog 47) (kwd := []) KP.obh_eq (by kernel_rfl) (fun s => by kernel_rfl) KP.runh
    (by kernel_rfl) (by kernel_rfl) (by kernel_rfl) (by rfl) (by first | assumption | decide +kernel) (by decide +kernel) ⟨rfl, rfl, rfl, rfl, rfl, by decide +kernel⟩ ?hw ?hc
  case hw => w_witness2
  case hc =>
    refine KP.law_end (l := PySem.Challenge.rw_paintposts_k12_whole_common_posts_seen_f) (k := 17) (x := "_law_script") rfl (by kernel_rfl) ⟨rfl, by decide, by decide⟩ ?_
    intro w mg fa h Y G hmg0
    obtain ⟨K, KX, c⟩ := Y
    obtain ⟨T⟩ := KP.tx_of KX G c
    have hmg : mg ("law" : PySem.Str) = some (.ref fa) := by
      have e : (HandSHeadRun.topDef (OpenLaw.row PySem.Challenge.rw_paintposts_k12_whole_common_posts_seen_f).prog 47).name = ("law" : PySem.Str) := by kernel_rfl
      rw [← e]
      exact hmg0
    have e := hmg.symm.trans T.g_law
    cases e
    have bb := L2.FunD.bindsA (ps := ["_law_script"]) T.fn_law fun _ _ _ _ _ _ us hl => match us, hl with | [_], _ => rfl
    exact ⟨K, T.fd_law, KD.spLaw K, KX, fun s v => bb s [v] rfl, fun H a ns hl _ hS => ⟨a, ns, rfl, hS, hl, fun _ => rfl⟩, fun base _ _ => KD.k_law T KD.law_w⟩
