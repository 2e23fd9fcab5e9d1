import PyProof.Rows.All
import Wide.All
import OpenK.AllK
import Wide.FinOn
import KE.KStateDown
import KE.DatumIndex
import Lean
import HandS.ForMost
import HandS.Wide
import HandS.Evl
import HandS.NoneIn
import HandS.Style
import HandS.MakeKwOnly
import HandS.WideBits
import HandS.Property
import HandS.IsInst
import HandS.Defaults
import HandS.Star
import HandS.FStr
import HandS.RaiseMore
import HandS.EndBits
import HandS.HeadEnd
import HandS.Head0
import HandS.Head1
import HandS.Head2
import HandS.HeadHook1
import HandS.HeadHook2
import HandS.HeadHook3
import HandS.HeadNt
import PySem.Challenge.RW_paintposts_k11_first_block_of_great_numb
set_option Elab.async false
set_option linter.all false
set_option maxRecDepth 100000
set_option maxHeartbeats 4000000
namespace KP
open PySem PySem.Spec PyProof.Rows L2
section
variable {X : Cx}
/-! ### numbers within a plain bound -/
abbrev Big : Int := 10 ^ 200
def CB2 (i j : Int) : Prop := -Big < i ∧ i < Big ∧ -Big < j ∧ j < Big
def CBd (_ j : Int) : Prop := 0 < j ∧ j < Big
def CBs (_ j : Int) : Prop := j ≠ 0 ∧ -Big < j ∧ j < Big
theorem big_lt {i : Int} (a : -Big < i) (b : i < Big) : i.natAbs < 2 ^ 700 := by
  have h : (10 : Int) ^ 200 < 2 ^ 700 := by decide +kernel
  have e : (2 : Nat) ^ 700 = ((2 : Int) ^ 700).toNat := by decide +kernel
  unfold Big at a b
  omega
theorem op_mulB : OpR X (binaryOp .Mult) (rI CB2 fun i j => .int (i * j)) := fun pins s σ H x y v u Q I rx ry h => by
  obtain ⟨i, j, ex, ey, ⟨c1, c2, c3, c4⟩, q⟩ := h
  exact op_mulW pins s σ H x y v u Q I rx ry ⟨i, j, ex, ey, wide_mul (big_lt c1 c2) (big_lt c3 c4) (by decide) (by decide) (by decide), q⟩
theorem op_fdivB : OpR X (binaryOp .FloorDiv) (rI CBd fun i j => .int (i / j)) := fun pins s σ H x y v u Q I rx ry h => by
  obtain ⟨i, j, ex, ey, ⟨c1, c2⟩, q⟩ := h
  exact op_fdivW pins s σ H x y v u Q I rx ry ⟨i, j, ex, ey, wide_div c1 (big_lt (by unfold Big; omega) c2) (by decide) (by decide), q⟩
theorem op_fdivS : OpR X (binaryOp .FloorDiv) (rI CBs fun i j => .int (i.fdiv j)) := opI fun i j _ _ _ _ _ hc q =>
  floordiv_int hc.1 q (.inl (PyProof.noPylong_of_log2 (Nat.lt_of_lt_of_le (PySem.Flt.log2_lt_of (by decide) (big_lt hc.2.1 hc.2.2)) (by decide))))
theorem call_divmodS : CallR X (.builtin "divmod") (fun xs H Q => ∃ i j, xs = [.int i, .int j] ∧ CBs i j ∧ ∀ p, H p = none → Q (.ref p) (upd H p (.tup [.int (i.fdiv j), .int (i.fmod j)]))) := by
  intro pins s σ H xs us Q I r h
  obtain ⟨i, j, rfl, hc, q⟩ := h
  obtain ⟨u, z, rfl, ⟨t, rfl⟩, ⟨t2, rfl⟩⟩ := vals2 r
  refine divmod_int hc.1 ?_ (.inl (PyProof.noPylong_of_log2 (Nat.lt_of_lt_of_le (PySem.Flt.log2_lt_of (by decide) (big_lt hc.2.1 hc.2.2)) (by decide))))
  refine ⟨.ref s.heap.objs.size, _, ?_, rfl, q _ (I.hok.fresh (Nat.le_refl _))⟩
  refine I.laid (fun b o e => Heap.get?_push_of_some _ e) (Nat.le_refl _) ⟨by show 2 ≤ sizeLine; rw [sizeLine_eq]; decide, [.int (i.fdiv j) s.toks, .int (i.fmod j) (s.toks + 1)], .cons ⟨_, rfl⟩ (.cons ⟨_, rfl⟩ .nil), ?_⟩
  exact ⟨_, Heap.get?_push_size s.heap rfl, rfl, 0, rfl⟩
/-- a power of two written numbers -/
theorem ppow {a b c : Int} {j1 j2 : Nat} {p1 p2 pos : Pos} (h0 : (0 ≤ b ∧ b ≤ 1000000 ∧ a.natAbs < 2 ^ 64)) (h : a ^ b.toNat = c) : PE X (.BinOp (.Constant (.int a) j1 p1) .Pow (.Constant (.int b) j2 p2) pos) (tC (.int c)) := by
  subst h
  have z : PE X (.BinOp (.Constant (.int a) j1 p1) .Pow (.Constant (.int b) j2 p2) pos) (tOp (rI CPow fun i j => .int (i ^ j.toNat)) (tC (.int a)) (tC (.int b))) := pe_op op_pow pe_int pe_int
  exact ⟨fun pins s σ H Q I q => z.run pins s σ H Q I ⟨a, b, rfl, rfl, h0, q⟩⟩
/-! ### globals -/
theorem pglobI {x : Str} {i : Int} {pos : Pos} (hg : Gl X x) (h : ∃ t, X.mg x = some (.int i t)) (hd : (x == ("__debug__" : Str)) = false := by decide) : PE X (.Name x pos) (tC (.int i)) := by
  obtain ⟨t, e⟩ := h
  exact pe_glob hg e ⟨t, rfl⟩ hd
theorem pglobS {x z : Str} {pos : Pos} (hg : Gl X x) (h : ∃ t, X.mg x = some (.str z t)) (hd : (x == ("__debug__" : Str)) = false := by decide) : PE X (.Name x pos) (tC (.str z)) := by
  obtain ⟨t, e⟩ := h
  exact pe_glob hg e ⟨t, rfl⟩ hd
/-! ### a value told by what holds of it: what follows is shown once -/
def tCutE (t : TE) : TE := fun σ H Q => ∃ M : V → Hp → Prop, t σ H M ∧ ∀ v H', M v H' → Q v H'
theorem pcutE {e : Expr} {t : TE} (h : PE X e t) : PE X e (tCutE t) := ⟨fun pins s σ H Q I ⟨M, h1, h2⟩ => thn (h.run pins s σ H M I h1) fun u s2 ⟨v, H2, I2, r, m⟩ => ⟨v, H2, I2, r, h2 v H2 m⟩⟩
def tCutT (t : TT) : TT := fun σ H Q => ∃ M : Bool → Hp → Prop, t σ H M ∧ ∀ b H', M b H' → Q b H'
theorem pcutT {e : Expr} {t : TT} (h : PT X e t) : PT X e (tCutT t) := ⟨fun pins s σ H Q I ⟨M, h1, h2⟩ => thn (h.run pins s σ H M I h1) fun u s2 ⟨H2, I2, m⟩ => ⟨H2, I2, h2 _ H2 m⟩⟩
/-! ### repr and str of data -/
def rReprD (K : PySem.W.Frag) : List V → Hp → VK → Prop := fun xs H Q => ∃ (x : V) (d : PyData), xs = [x] ∧ Dp K H x d ∧ d.showable = true ∧ d.hasDict = false ∧ d.depth < 50 ∧ d.shown.length ≤ 1000000 ∧ Q (.str d.shown) H
theorem call_reprD (hg : X.A.guards = some []) (hu : X.A.units + 64 < cLine) : CallR X (.builtin "repr") (rReprD X.K) := by
  intro pins s σ H xs us Q I r h
  obtain ⟨x, d, rfl, hd, sh, nd, dp, sz, q⟩ := h
  obtain ⟨u, rfl, rx⟩ := vals1 r
  have szL : d.shown.length ≤ sizeLine := Nat.le_trans sz (by rw [sizeLine_eq]; decide)
  have fin : ∀ (h' : Heap) (tk : Nat), (∀ b o, s.heap.get? b = some o → h'.get? b = some o) → ∀ t, EP X pins σ Q (.str d.shown t) { s with heap := h', toks := tk } := fun h' tk hk t =>
    ⟨.str d.shown, H, I.kept hk, ⟨t, rfl⟩, q⟩
  obtain ⟨as, rd⟩ := Dp.reads I d x u hd rx
  have noD : d.hasDict = true → sysModules ∉ as := fun e => by
    rw [nd] at e
    cases e
  cases rd with
  | none => exact PySem.P.repr_of_none (fin _ _ (fun _ _ e => e) _)
  | bool b => exact PySem.P.repr_of_bool (fin _ _ (fun _ _ e => e) _)
  | int i t => exact PySem.P.repr_of_int (of_decide_eq_true (show decide (i.natAbs.log2 < 1920) = true from sh)) (fin _ _ (fun _ _ e => e) _)
  | str z t => exact PySem.P.repr_of_str (fin _ _ (fun _ _ e => e) _) szL
  | list a1 a2 a3 a4 => exact repr_of_reads' (.list a1 a2 a3 a4) sh noD hg (by omega) (fun _ _ e => e) (fun h' t tk hk => fin h' tk hk t) szL
  | tuple a1 a2 a3 a4 => exact repr_of_reads' (.tuple a1 a2 a3 a4) sh noD hg (by omega) (fun _ _ e => e) (fun h' t tk hk => fin h' tk hk t) szL
  | dict _ _ _ _ _ => cases nd
end
/-! ### loops and comprehensions over anything that goes n turns -/
section
variable {J : It} {n : Nat} {g : TG} {tt : TT} {te : TE} {tb : TS} {vs : List Nat} {σ : L2.St} {H H1 : Hp} {Dl : Addr} {Qd : Hp → Prop} {D : Ends}
theorem lc_by (Pv : Nat → Hp → Prop) (h0 : Pv 0 (upd H1 Dl (.lst []))) (hgo : ∀ i H, i < n → Pv i H → J.go i H) (hst : ∀ H, Pv n H → J.stop n H)
    (hs : ∀ i H x H', i < n → Pv i H → J.yld i H x H' → g x (wipe σ vs) H' fun σ2 H2 => wipe σ2 vs = wipe σ vs ∧ tt σ2 H2 fun b H3 => if b = true then te σ2 H3 fun y H4 => ∃ acc, H4 Dl = some (.lst acc) ∧ acc.length < sizeLine ∧ Pv (i + 1) (upd H4 Dl (.lst (acc ++ [y]))) else Pv (i + 1) H3)
    (hd : ∀ H, Pv n H → Qd H) : ∃ W : Nat → Nat → Hp → Prop, (∃ m, W 0 m (upd H1 Dl (.lst []))) ∧ ∀ i m H, W i m H → (J.stop i H ∧ Qd H) ∨ (J.go i H ∧ ∃ Nx : Hp → Prop, (∀ H', Nx H' → ∃ m', m' < m ∧ W (i + 1) m' H') ∧
      ∀ x H', J.yld i H x H' → g x (wipe σ vs) H' fun σ2 H2 => wipe σ2 vs = wipe σ vs ∧ tt σ2 H2 fun b H3 => if b = true then te σ2 H3 fun y H4 => ∃ acc, H4 Dl = some (.lst acc) ∧ acc.length < sizeLine ∧ Nx (upd H4 Dl (.lst (acc ++ [y]))) else Nx H3) := by
  refine ⟨fun i m H => m = n - i ∧ i ≤ n ∧ Pv i H, ⟨n, by omega, Nat.zero_le _, h0⟩, fun i m H ⟨hm, hi, pv⟩ => ?_⟩
  by_cases lt : i < n
  · exact .inr ⟨hgo i H lt pv, Pv (i + 1), fun H' z => ⟨n - (i + 1), by omega, rfl, lt, z⟩, fun x H' y => hs i H x H' lt pv y⟩
  · have e : i = n := by omega
    subst e
    exact .inl ⟨hst H pv, hd H pv⟩
theorem for_by (Pv : Nat → L2.St → Hp → Prop) (h0 : Pv 0 σ H) (hgo : ∀ i σ H, i < n → Pv i σ H → J.go i H) (hst : ∀ σ H, Pv n σ H → J.stop n H)
    (hs : ∀ i σ H x H', i < n → Pv i σ H → J.yld i H x H' → g x σ H' fun σ2 H2 => tb { D with nx := Pv (i + 1), ct := Pv (i + 1), bk := D.nx } σ2 H2) (hd : ∀ σ H, Pv n σ H → D.nx σ H) :
    ∃ W : Nat → Nat → L2.St → Hp → Prop, (∃ m, W 0 m σ H) ∧ ∀ i m σ H, W i m σ H → (J.stop i H ∧ D.nx σ H) ∨ (J.go i H ∧ ∃ N : L2.St → Hp → Prop, (∀ σ' H', N σ' H' → ∃ m', m' < m ∧ W (i + 1) m' σ' H') ∧
      ∀ x H', J.yld i H x H' → g x σ H' fun σ2 H2 => tb { D with nx := N, ct := N, bk := D.nx } σ2 H2) := by
  refine ⟨fun i m σ H => m = n - i ∧ i ≤ n ∧ Pv i σ H, ⟨n, by omega, Nat.zero_le _, h0⟩, fun i m σ H ⟨hm, hi, pv⟩ => ?_⟩
  by_cases lt : i < n
  · exact .inr ⟨hgo i σ H lt pv, Pv (i + 1), fun σ' H' z => ⟨n - (i + 1), by omega, rfl, lt, z⟩, fun x H' y => hs i σ H x H' lt pv y⟩
  · have e : i = n := by omega
    subst e
    exact .inl ⟨hst σ H pv, hd σ H pv⟩
end
/-! ### promises kept where no repr is under way -/
structure FnG (P : Program) (w : World) (K : PySem.W.Frag) (mg : Str → Option Value) (base : Heap) (k : Nat) (f : Addr) (fd : FuncData) (ps : List Str) (sp : Sp) : Prop where
  lenG : ∀ vs H Q E, sp vs H Q E → vs.length = ps.length
  runG : ∀ (A : Around) (out : List Env) (s : Shared) (H : Hp) (ar : Args) (us : List Value) (vs : List V) (Q : VK) (E : XK), A.guards = some [] → Room k A → Env0 P w K mg base A out s H →
    BindsTo s fd ar (ps.zip us) → Vals vs us → sp vs H Q E → codeAny (model P w) A (.call (.ref f) ar) (CR CX0 out P w H s Q E) s
section
variable {P : Program} {w : World} {K : PySem.W.Frag} {mg : Str → Option Value} {base : Heap} {k : Nat} {f : Addr} {fd : FuncData} {ps : List Str} {sp : Sp}
theorem FnG.of (F : FnOk P w K mg base CX0 k f fd ps sp) : FnG P w K mg base k f fd ps sp := ⟨F.len, fun A o s H ar us vs Q E _ => F.run A o s H ar us vs Q E⟩
theorem FnG.mk' {x qual : Str} {pm : Arguments} {bd : List Stmt} {sc : Scope} {dvs : List V} {kws : List (Str × V)} {N : List Str} (F : FunD K x qual pm bd sc dvs kws f fd) (S : FnScope N ps sc) (ln : ∀ vs H Q E, sp vs H Q E → vs.length = ps.length)
    (hbody : ∀ (cdv : Value) (A : Around) (out : List Env) (s : Shared) (H : Hp) (vs : List V) (Q : VK) (E : XK), A.guards = some [] → Room k (A.deeper (envOfC qual sc s.heap.objs.size f cdv)) → sp vs H Q E →
      ∃ t, PSs (cxOf CX0 P w K mg base N qual sc f cdv A out s H E) bd t ∧ t { nx := fun _ H' => Q .non H', rt := Q } (start N vs) H) : FnG P w K mg base (k + 1) f fd ps sp := by
  obtain ⟨oc, od, dV, kV, doc, pmv, an, cdv, ct, osl, rfl, lk, hcd, _, _⟩ := F.ex
  refine ⟨ln, fun A out s H ar us vs Q E gd rm en bn rel hsp => ?_⟩
  have len1 := ln _ _ _ _ hsp
  have Kin : K.In s.heap := en.mod.kin.keeps fun b o z => (en.bs b o z).1
  have lim1 : s.heap.NoLimit := en.mod.nolimit.keeps fun b o z => (en.bs b o z).1
  refine codeAny_call_function rm.depth (Kin _ _ lk) rfl S.co S.gen rfl (PySem.W.codeRec_of Kin hcd) (bn _ _ _ _ ?_)
  refine wpAny_newFunctionEnv_cells S.kind (fun ⟨n, v⟩ hy => ?_) fun env he s1 x => ?_
  · rcases S.par n (List.of_mem_zip hy).1 with z | z
    · exact .inl z
    · exact .inr ⟨z, PySem.W.cellsFrom_some _ _ _ (.inl z)⟩
  subst he
  refine ⟨lim1.keeps x.toInCall.keep, codeAny_func ?_⟩
  obtain ⟨t, ht, hq⟩ := hbody cdv A out s H vs Q E gd (rm.deeper _) hsp
  have J0 := inv_start (CX := CX0) (E := E) S rm.hd en len1 rel x
  refine wpAny_mono (ht.run [] s1 (start N vs) H _ J0 hq) (fun fl s2 hs => ?_) fun e s2 hs => hs
  cases fl with
  | ret u =>
    obtain ⟨v, _, H2, J, rv, z⟩ := hs
    exact ⟨v, H2, J.os, J.bare, J.base, J.hok, rv, z⟩
  | next =>
    obtain ⟨_, H2, J, z⟩ := hs
    exact ⟨.non, H2, J.os, J.bare, J.base, J.hok, rfl, z⟩
  | brk =>
    obtain ⟨_, _, _, z⟩ := hs
    exact z.elim
  | cont =>
    obtain ⟨_, _, _, z⟩ := hs
    exact z.elim
/-- the law's def at its one caller -/
theorem law_end {l : PySem.W.OpenLaw} {k : Nat} {q : Program} {loose : List Str} {XP : (Str → Option Value) → Heap → Prop} {YP : World → Heap → Prop} {d : DefRec} {x : Str} (hn : l.most = some 63) (hdf : d.params.defaults = []) (hr : Room k callerA)
    (F : ∀ (w : World) (mg : Str → Option Value) (fa : Addr) (h : Heap), YP w h → h.Ns mainGlobals mg → mg d.name = some (.ref fa) →
      ∃ (K : PySem.W.Frag) (fd : FuncData) (sp : Sp), K.In h ∧ (∀ (s : Shared) (u : Value), BindsTo s fd ⟨[u], []⟩ [(x, u)]) ∧
        (∀ (H : Hp) (a : Addr) (ns : List Int), ns.length ≤ 63 → (∀ z ∈ ns, Builtin.Int.intBits z ≤ 1048576) → SqL K H a (ns.map V.int) → sp [.ref a] H (fun v _ => v = .bl true) fun _ _ _ => False) ∧
        ∀ base : Heap, K.In base → base.Ns mainGlobals mg → FnG l.prog w K mg base k fa fd [x] sp) : PySem.W.WalkO q loose XP YP l.row.toRowW d [] (fun f vs => PySem.call f vs) := by
  refine Att.attach_callB hn hdf fun w s₀ s₁ mg mb fa o pm cd doc a vs ns G Y ho hd hcd hmg hobj hints hlen hbits hg => ?_
  obtain ⟨K, fd, sp, KX, hbind, hsp, hF⟩ := F w mg fa _ Y G.T.g hmg
  have rv := vals_ints hints
  have lenV := hints.length
  have lenS : ns.length ≤ sizeLine := Nat.le_trans hlen (by rw [sizeLine_eq]; decide)
  have main : ∀ H : Hp, Only H → SqL K H a (ns.map V.int) → HOk l.prog w H s₁.heap → (∀ b, H b ≠ none → b = a) → (H a ≠ none → K.lookup a = none) →
      codeAny (model l.prog w) callerA (.call (.ref fa) ⟨[.ref a], []⟩) (fun r s' => r = .ok (.ret (.bool true)) ∧ OldK s₁.heap s'.heap ∧ s'.os = s₁.os ∧ AllBare s'.gens) s₁ := by
    intro H onl sq hok only look
    have free : ∀ b, b ≠ a → H b = none := fun b nb => by
      cases z : H b with
      | none => rfl
      | some u => exact absurd (only b (by rw [z]; exact fun y => nomatch y)) nb
    have ns1 : ∀ {b : Addr} {m : Str → Option Value}, s₁.heap.Ns b m → (hidT s₁.heap H).Ns b m := fun {b m} ⟨ob, es, ep, e, dd, r⟩ =>
      ⟨ob, es, ep, hidT_get e (free b fun z => by
        subst z
        rw [hobj] at e
        cases e
        cases dd), dd, r⟩
    have Kb : K.In (hidT s₁.heap H) := fun b ob e => hidT_get (KX b ob e) (by
      cases z : H b with
      | none => rfl
      | some u =>
        have eb := only b (by rw [z]; exact fun y => nomatch y)
        subst eb
        have e3 := (look (by rw [z]; exact fun y => nomatch y)).symm.trans e
        cases e3)
    have md : Mod K mg (hidT s₁.heap H) := ⟨Kb, ns1 G.T.g, ⟨mb, ns1 G.T.b, G.T.builtins⟩, let ⟨mc, l1, l2⟩ := G.T.nolimit; ⟨mc, ns1 l1, l2⟩⟩
    have en : Env0 l.prog w K mg (hidT s₁.heap H) callerA [] s₁ H := ⟨rfl, md, fun b o e => of_hidT e, Nat.le_of_eq (hidT_size _ _), trivial, fun b hb => (List.not_mem_nil hb).elim, hok, .of_eq hg⟩
    refine codeAny_mono ((hF _ Kb (ns1 G.T.g)).runG callerA [] s₁ H ⟨[.ref a], []⟩ [.ref a] [.ref a] _ _ rfl hr en (hbind s₁ (.ref a)) (.cons rfl .nil) (hsp H a ns hlen hbits sq)) fun r s2 z => ?_
    cases r with
    | error e => exact z.elim
    | ok fl =>
      cases fl with
      | ret u =>
        obtain ⟨v, H2, os2, bare2, un2, hok2, r2, q2⟩ := z
        obtain rfl : v = .bl true := q2
        obtain rfl : u = Value.bool true := r2
        refine ⟨rfl, OldK.of_keep fun b o e => ?_, os2, bare2⟩
        cases hb : H b with
        | none => exact un2.keep b o e hb (fun y => (List.not_mem_nil y).elim) (fun y => (List.not_mem_nil y).elim)
        | some u =>
          rcases onl b with y | ⟨ob, xs, y⟩
          · rw [hb] at y
            cases y
          · obtain ⟨e1, _⟩ := hok b _ y
            obtain ⟨e2, _⟩ := hok2 b _ (un2.frzs b ob _ y)
            rw [e] at e1
            cases e1
            exact e2
      | next => exact z.elim
      | brk => exact z.elim
      | cont => exact z.elim
  cases hk : K.lookup a with
  | some ob =>
    have e := KX a ob hk
    rw [hobj] at e
    cases e
    exact main (fun _ => none) (fun _ => .inl rfl) (.inr ⟨_, vs.toArray, _, hk, rfl, rfl, rfl, by rw [List.size_toArray, lenV]; exact lenS, by simpa using rv⟩) (fun b u z => nomatch z) (fun b z => (z rfl).elim) fun z => (z rfl).elim
  | none =>
    refine main (fun b => if b = a then some (.frz { cls := .type "list", data := .seq vs.toArray } (.lst (ns.map V.int))) else none) (fun b => ?_) (.inl (.inr ⟨_, if_pos rfl⟩)) (fun b u z => ?_) (fun b z => Classical.byContradiction fun nb => z (if_neg nb)) fun _ => hk
    · by_cases hb : b = a
      · exact .inr ⟨_, _, if_pos hb⟩
      · exact .inl (if_neg hb)
    · by_cases hb : b = a
      · subst hb
        have y := (if_pos rfl).symm.trans z
        cases y
        exact ⟨hobj, by rw [List.length_map]; exact lenS, vs, _, rv, hobj⟩
      · exact nomatch (if_neg hb).symm.trans z
end
end KP

namespace KP
open PySem PySem.Spec PyProof.Rows L2
/-! ### the head's facts: any look that answers true or false, and defs at any address -/
abbrev Fct := PySem.W.Frag → Bool
def obsM (ex : List Fct) (fn : List He5.DefA) (K : PySem.W.Frag) : He.AlD := (ex.all (fun f => f K) && fn.all (fun d => d.ok K), fn.map fun d => He5.fnA K (d.at_ K))
def valM (fn : List He5.DefA) : He.AlD := (true, fn.map He5.DefA.val)
def SaysM (ex : List Fct) (fn : List He5.DefA) (K : PySem.W.Frag) : Prop := obsM ex fn K = valM fn
def obsMG (n : Nat) (ex : List Fct) (fn : List He5.DefA) (g : Addr → Option Obj) : He.AlD := obsM ex fn (He.frG g (He.asD g n))
def hookM (n : Nat) (ex : List Fct) (fn : List He5.DefA) : PySem.W.Hook where
  α := He.AlD
  obs := fun s => obsMG n ex fn s.heap.get?
  val := fun _ => valM fn
  says := fun _ h => ∃ K : PySem.W.Frag, K.In h ∧ SaysM ex fn K
  of := fun _ _ e => ⟨_, He.frG_in, e⟩
  keeps := fun _ _ _ ⟨K, hK, c⟩ k => ⟨K, PySem.W.Frag.In.keeps hK k, c⟩
theorem obsMG_eq {n : Nat} {ex : List Fct} {fn : List He5.DefA} {g : Addr → Option Obj} {s : Shared} (h : ∀ a, g a = s.heap.get? a) : obsMG n ex fn g = (hookM n ex fn).obs s := by
  rw [show g = s.heap.get? from funext h] <;> rfl
section
variable {ex : List Fct} {fn : List He5.DefA} {K : PySem.W.Frag}
theorem SaysM.fact (c : SaysM ex fn K) (i : Nat) {f : Fct} (h : ex[i]? = some f := by rfl) : f K = true :=
  List.all_eq_true.mp (He.ba (congrArg (fun z : He.AlD => z.1) c)).1 f (List.mem_of_getElem? h)
theorem SaysM.fn_ (c : SaysM ex fn K) (i : Nat) {d : He5.DefA} (h : fn[i]? = some d := by rfl) : ∃ fd, FunD K d.name d.qual d.params d.body d.scope (d.dvs K) (d.kws K) (d.at_ K) fd := by
  have e1 : fn.map (fun d => He5.fnA K (d.at_ K)) = fn.map He5.DefA.val := congrArg (fun z : He.AlD => z.2) c
  have e2 := congrArg (fun l => l[i]?) e1
  simp only [List.getElem?_map, h, Option.map_some, Option.some.injEq] at e2
  exact He5.DefA.funD e2 (List.all_eq_true.mp (He.ba (congrArg (fun z : He.AlD => z.1) c)).2 d (List.mem_of_getElem? h))
end
/-! ### a property's getter -/
def pgA (K : PySem.W.Frag) (C : Addr) (f : Str) : Addr := match PySem.W.recIn K (He.ma K C f) "property" with
  | some (.ref g :: _) => g
  | _ => 0
def propB (C f : Str) : Fct := fun K => He.eqO (PySem.W.findIn K (.ref (He.ga K C)) f) (some (some (.ref (He.ma K (He.ga K C) f)))) &&
  (He.eqO (PySem.W.specialIn K (.ref (He.ma K (He.ga K C) f)) "__get__") (some (some (.builtin "property.__get__"))) && (decide (PySem.W.takesIn K (.ref (He.ma K (He.ga K C) f)) = some true) &&
    (match PySem.W.recIn K (He.ma K (He.ga K C) f) "property" with
      | some (.ref _ :: _) => true
      | _ => false)))
theorem propB_ok {K : PySem.W.Frag} {C f : Str} (h : propB C f K = true) : PropOf K (He.ga K C) f (He.ma K (He.ga K C) f) (pgA K (He.ga K C) f) := by
  obtain ⟨h1, h⟩ := He.ba h
  obtain ⟨h2, h⟩ := He.ba h
  obtain ⟨h3, h4⟩ := He.ba h
  refine ⟨He.eqO_ok h1, He.eqO_ok h2, of_decide_eq_true h3, ?_⟩
  unfold pgA
  cases e : PySem.W.recIn K (He.ma K (He.ga K C) f) "property" with
  | none =>
    rw [e] at h4
    cases h4
  | some l =>
    rw [e] at h4
    cases l with
    | nil => cases h4
    | cons v r =>
      cases v with
      | ref g => exact ⟨r, rfl⟩
      | _ => cases h4
/-- a def, as its callers want it -/
structure Cal (P : Program) (w : World) (K : PySem.W.Frag) (mg : Str → Option Value) (base : Heap) (k : Nat) (f : Addr) (fd : FuncData) (ps : List Str) (sp : Sp) : Prop where
  F : FnOk P w K mg base CX0 k f fd ps sp
  kp : PySem.W.keepIn K (.ref f) = true
  b : Binds K fd ps []
/-- the same for a call that leaves out defaults -/
structure CalD (P : Program) (w : World) (K : PySem.W.Frag) (mg : Str → Option Value) (base : Heap) (k : Nat) (f : Addr) (fd : FuncData) (ps : List Str) (sp : Sp) (dvs : List V) (ds : List Value) : Prop where
  F : FnOk P w K mg base CX0 k f fd ps sp
  kp : PySem.W.keepIn K (.ref f) = true
  bd : Binds K fd ps ds
  vd : Vals dvs ds
/-- the class constant's fact -/
theorem con_of {K : PySem.W.Frag} {C f : Str} {i : Int} (h : He.conB K C f (.int i) = true) (hc : PySem.W.copiedNames.contains f = false := by decide) : ∃ u, Con K (He.ga K C) f (.int i) u := He.conB_ok h hc
/-- an empty tuple of the written part -/
def tup0B (a : PySem.W.Frag → Addr) : Fct := fun K => match K.lookup (a K) with
  | some ⟨.type c, _, .seq its _, _⟩ => decide (c = "tuple") && its.isEmpty
  | _ => false
theorem tup0B_ok {K : PySem.W.Frag} {a : PySem.W.Frag → Addr} (h : tup0B a K = true) (H : Hp) : SqT K H (a K) [] := by
  unfold tup0B at h
  cases q : K.lookup (a K) with
  | none =>
    rw [q] at h
    cases h
  | some o =>
    obtain ⟨oc, od, dt, osl⟩ := o
    rw [q] at h
    cases oc with
    | type c =>
      cases dt with
      | seq its n =>
        obtain ⟨h1, h2⟩ := He.ba h
        have e := Array.isEmpty_iff.mp h2
        subst e
        exact .inr ⟨_, #[], n, q, congrArg Value.type (of_decide_eq_true h1), rfl, Nat.zero_le _, .nil⟩
      | _ => cases h
    | _ => cases dt <;> cases h
/-! ### heaps: all but the pen is kept -/
structure Ext (p : Addr) (H H' : Hp) : Prop where
  was : ∃ kvs, H p = some (.dK kvs)
  is_ : ∃ kvs, H' p = some (.dK kvs)
  keep : ∀ a o, a ≠ p → H a = some o → H' a = some o
section
variable {p q a : Addr} {H H1 H2 H' : Hp} {K : PySem.W.Frag} {xs : List V} {o : HO}
theorem Ext.trans (a : Ext p H H1) (b : Ext p H1 H2) : Ext p H H2 := ⟨a.was, b.is_, fun x o n h => b.keep x o n (a.keep x o n h)⟩
theorem Ext.refl (h : ∃ kvs, H p = some (.dK kvs)) : Ext p H H := ⟨h, h, fun _ _ _ h => h⟩
theorem Ext.at (e : Ext p H H') (h : H a = some o) (n : ∀ kvs, o ≠ .dK kvs) : H' a = some o := by
  obtain ⟨kvs, hp⟩ := e.was
  exact e.keep a o (ne_of h hp (n kvs)) h
theorem Ext.l (e : Ext p H H') (h : SqL K H a xs) : SqL K H' a xs := by
  rcases h with (h | ⟨o, h⟩) | h
  · exact .inl (.inl (e.at h fun _ z => nomatch z))
  · exact .inl (.inr ⟨o, e.at h fun _ z => nomatch z⟩)
  · exact .inr h
theorem Ext.t (e : Ext p H H') (h : SqT K H a xs) : SqT K H' a xs := by
  rcases h with (h | ⟨o, h⟩) | h
  · exact .inl (.inl (e.at h fun _ z => nomatch z))
  · exact .inl (.inr ⟨o, e.at h fun _ z => nomatch z⟩)
  · exact .inr h
theorem Ext.ins {C dx : Addr} {fs : List (Str × V)} (e : Ext p H H') (h : H a = some (.ins C dx fs)) : H' a = some (.ins C dx fs) := e.at h fun _ z => nomatch z
theorem Ext.new (w : ∃ kvs, H p = some (.dK kvs)) (h : H q = none) : Ext p H (upd H q o) := by
  obtain ⟨kvs, hp⟩ := w
  have n : p ≠ q := ne_of_none hp h
  exact ⟨⟨kvs, hp⟩, ⟨kvs, by rw [upd_ne n]; exact hp⟩, fun b u _ hb => by rw [upd_ne (ne_of_none hb h)]; exact hb⟩
theorem Ext.put {kvs kvs' : List (Key × V)} (h : H p = some (.dK kvs)) : Ext p H (upd H p (.dK kvs')) := ⟨⟨_, h⟩, ⟨_, upd_same⟩, fun b u n hb => by rw [upd_ne n]; exact hb⟩
theorem Ext.back (e : Ext p H H') (h : H' q = none) : H q = none := by
  cases z : H q with
  | none => rfl
  | some u =>
    by_cases n : q = p
    · obtain ⟨kvs, hp⟩ := e.is_
      rw [n, hp] at h
      cases h
    · rw [e.keep q u n z] at h
      cases h
/-- an object that H does not know may change -/
theorem Ext.mut (e : Ext p H H') (h : H q = none) : Ext p H (upd H' q o) := by
  obtain ⟨kvs, hp⟩ := e.was
  obtain ⟨kvs', hp'⟩ := e.is_
  have n : p ≠ q := ne_of_none hp h
  exact ⟨⟨kvs, hp⟩, ⟨kvs', by rw [upd_ne n]; exact hp'⟩, fun b u nb hb => by rw [upd_ne (ne_of_none hb h)]; exact e.keep b u nb hb⟩
theorem Ext.same (w : ∃ kvs, H p = some (.dK kvs)) (s : Same H H') : Ext p H H' := by
  obtain ⟨kvs, hp⟩ := w
  exact ⟨⟨kvs, hp⟩, ⟨kvs, s _ _ hp⟩, fun b u _ hb => s b u hb⟩
theorem Same.new (h : H q = none) : Same H (upd H q o) := fun b u hb => by
  rw [upd_ne (ne_of_none hb h)]
  exact hb
theorem Same.mut (e : Same H H') (h : H q = none) : Same H (upd H' q o) := fun b u hb => by
  rw [upd_ne (ne_of_none hb h)]
  exact e b u hb
theorem Same.tup (e : Same H H') (h : SqT K H a xs) : SqT K H' a xs := by
  rcases h with (h | ⟨o, h⟩) | h
  · exact .inl (.inl (e _ _ h))
  · exact .inl (.inr ⟨o, e _ _ h⟩)
  · exact .inr h
end
/-! ### the pen -/
def penO (c : Addr) (b r : Int) : HO := .dK [(.inr "cells", .ref c), (.inr "begun", .int b), (.inr "rest", .int r)]
/-- a pen: where it stands, where its cells stand, what they are -/
structure Pid where
  a : Addr
  c : Addr
  cs : List Int
def Pen (K : PySem.W.Frag) (H : Hp) (p : Pid) (b : Int) : Prop := ∃ r : Int, H p.a = some (penO p.c b r) ∧ SqL K H p.c (p.cs.map V.int) ∧ p.cs.length ≤ 63 ∧ 0 ≤ b ∧ 0 ≤ r
section
variable {K : PySem.W.Frag} {H H' H1 : Hp} {p c : Addr} {b b1 r : Int} {π : Pid}
theorem Pen.is_ (h : Pen K H π b) : ∃ kvs, H π.a = some (.dK kvs) := let ⟨_, e, _⟩ := h; ⟨_, e⟩
theorem Pen.nn (h : Pen K H π b) : 0 ≤ b := let ⟨_, _, _, _, e, _⟩ := h; e
/-- what keeps all tracked things keeps the pen -/
theorem Pen.same (h : Pen K H π b) (s : Same H H') : Pen K H' π b := by
  obtain ⟨r, e, l, x⟩ := h
  exact ⟨r, s _ _ e, s.seq l, x⟩
theorem Pen.new {q : Addr} {o : HO} (h : Pen K H π b) (n : H q = none) : Pen K (upd H q o) π b := h.same (Same.new n)
/-- a thing that came behind an older state of the pen may change -/
theorem Pen.mut {q : Addr} {o : HO} (h : Pen K H π b) (h1 : Pen K H1 π b1) (n : H1 q = none) : Pen K (upd H q o) π b := by
  obtain ⟨r, e, l, x⟩ := h
  obtain ⟨r1, e1, l1, x1⟩ := h1
  refine ⟨r, by rw [upd_ne (ne_of_none e1 n)]; exact e, ?_, x⟩
  rcases l1 with (l1 | ⟨o1, l1⟩) | l1
  · have nq := ne_of_none l1 n
    rcases l with (l | ⟨o2, l⟩) | l
    · exact .inl (.inl (by rw [upd_ne nq]; exact l))
    · exact .inl (.inr ⟨o2, by rw [upd_ne nq]; exact l⟩)
    · exact .inr l
  · have nq := ne_of_none l1 n
    rcases l with (l | ⟨o2, l⟩) | l
    · exact .inl (.inl (by rw [upd_ne nq]; exact l))
    · exact .inl (.inr ⟨o2, by rw [upd_ne nq]; exact l⟩)
    · exact .inr l
  · exact .inr l1
theorem pen_cells (h : H p = some (penO c b r)) : DGet H p (.str "cells") (some (.ref c)) := DGet.k (k := Sum.inr "cells") h
theorem pen_begun (h : H p = some (penO c b r)) : DGet H p (.str "begun") (some (.int b)) := DGet.k (k := Sum.inr "begun") h
theorem pen_rest (h : H p = some (penO c b r)) : DGet H p (.str "rest") (some (.int r)) := DGet.k (k := Sum.inr "rest") h
theorem put_begun (h : H p = some (penO c b r)) (x : Int) : DPut H p (.str "begun") (.int x) (upd H p (penO c x r)) := DPut.k (k := Sum.inr "begun") h (show 3 < sizeLine by rw [sizeLine_eq]; decide)
theorem put_rest (h : H p = some (penO c b r)) (x : Int) : DPut H p (.str "rest") (.int x) (upd H p (penO c b x)) := DPut.k (k := Sum.inr "rest") h (show 3 < sizeLine by rw [sizeLine_eq]; decide)
end
end KP

namespace KP
open PySem PySem.Spec PyProof.Rows L2
/-! ### texts of data are not long -/
theorem slen_tl (x : Str) : x.length = x.cps.toList.length := by
  show x.cps.size = _
  rw [Array.length_toList]
theorem slen_add (x y : Str) : (x ++ y).length = x.length + y.length := by
  have e : (x ++ y).cps.toList = x.cps.toList ++ y.cps.toList := TL.tl_append x y
  rw [slen_tl, e, List.length_append, ← slen_tl, ← slen_tl]
theorem join_le (y : Str) : ∀ ts : List Str, (Str.join y ts).length ≤ (ts.map (·.length)).sum + y.length * ts.length
  | [] => Nat.zero_le _
  | [x] => by
    show x.length ≤ x.length + 0 + y.length * 1
    omega
  | x :: z :: r => by
    show (x ++ y ++ Str.join y (z :: r)).length ≤ _
    have ih := join_le y (z :: r)
    rw [slen_add, slen_add, List.map_cons, List.sum_cons, List.length_cons, Nat.mul_add, Nat.mul_one]
    omega
theorem tupleText_le (ts : List Str) : (tupleText ts).length ≤ (ts.map (·.length)).sum + 2 * ts.length + 3 := by
  unfold tupleText
  rw [slen_add, slen_add]
  have h := join_le ", " ts
  have h1 : (", " : Str).length = 2 := rfl
  have h2 : ("(" : Str).length = 1 := rfl
  rw [h1] at h
  have h3 : (Str.ofString (if ts.length == 1 then ",)" else ")")).length ≤ 2 := by
    split <;> decide
  omega
theorem textFrom_le : ∀ (ts : List Str) (k : Nat) (acc : Str), (textFrom k acc ts).length ≤ acc.length + (ts.map (·.length)).sum + 2 * ts.length
  | [], k, acc => by
    show acc.length ≤ _
    simp
  | t :: r, k, acc => by
    have ih := textFrom_le r (k + 1) ((acc ++ (if k > 0 then ", " else "" : String)) ++ t)
    have e : textFrom k acc (t :: r) = textFrom (k + 1) ((acc ++ (if k > 0 then ", " else "" : String)) ++ t) r := rfl
    rw [e]
    have h3 : (Str.ofString (if k > 0 then ", " else "")).length ≤ 2 := by
      split <;> decide
    rw [slen_add, slen_add] at ih
    rw [List.map_cons, List.sum_cons, List.length_cons]
    omega
theorem listText_le (ts : List Str) : (listText ts).length ≤ (ts.map (·.length)).sum + 2 * ts.length + 2 := by
  unfold listText
  rw [slen_add]
  have h := textFrom_le ts 0 "["
  have h1 : ("[" : Str).length = 1 := rfl
  have h2 : ("]" : Str).length = 1 := rfl
  omega
/-- data whose repr is at most n signs long -/
structure Shw (n d : Nat) (x : PyData) : Prop where
  s : x.showable = true
  h : x.hasDict = false
  d : x.depth ≤ d
  l : x.shown.length ≤ n
structure ShwA (n d : Nat) (xs : List PyData) : Prop where
  s : PyData.showableAll xs = true
  h : PyData.hasDictAll xs = false
  d : PyData.depthAll xs ≤ d
  l : ((PyData.shownAll xs).map (·.length)).sum + 2 * xs.length ≤ n
theorem shw_none : Shw 10 0 .none := ⟨rfl, rfl, Nat.le_refl _, by decide⟩
theorem shw_bool (b : Bool) : Shw 10 0 (.bool b) := ⟨rfl, rfl, Nat.le_refl _, by cases b <;> decide⟩
theorem shw_int {i : Int} (a : -Big < i) (b : i < Big) : Shw 1000 0 (.int i) := by
  have h := big_lt a b
  have h2 : i.natAbs.log2 < 700 := PySem.Flt.log2_lt_of (by decide) h
  refine ⟨decide_eq_true (by omega), rfl, Nat.le_refl _, ?_⟩
  have := PySem.int_text_length_le (a := i) (k := 700) (by decide) h2
  show (Str.ofString (toString i)).length ≤ 1000
  rw [PySem.ofString_length]
  omega
theorem ShwA.nil : ShwA 0 0 [] := ⟨rfl, rfl, Nat.le_refl _, Nat.le_refl _⟩
theorem ShwA.cons {n m c d : Nat} {x : PyData} {xs : List PyData} (h : Shw n c x) (r : ShwA m d xs) : ShwA (n + 2 + m) (max c d) (x :: xs) := by
  refine ⟨?_, ?_, ?_, ?_⟩
  · show (x.showable && PyData.showableAll xs) = true
    rw [h.s, r.s]
    rfl
  · show (x.hasDict || PyData.hasDictAll xs) = false
    rw [h.h, r.h]
    rfl
  · show max x.depth (PyData.depthAll xs) ≤ max c d
    have := h.d
    have := r.d
    omega
  · show ((x.shown :: PyData.shownAll xs).map (·.length)).sum + 2 * (xs.length + 1) ≤ _
    rw [List.map_cons, List.sum_cons]
    have := h.l
    have := r.l
    omega
theorem shownAll_len : ∀ xs : List PyData, (PyData.shownAll xs).length = xs.length
  | [] => rfl
  | x :: r => by
    show (PyData.shownAll r).length + 1 = r.length + 1
    rw [shownAll_len r]
theorem shw_tup {n d : Nat} {xs : List PyData} (r : ShwA n d xs) : Shw (n + 3) (d + 1) (.tuple xs) := by
  refine ⟨r.s, r.h, Nat.succ_le_succ r.d, ?_⟩
  have h := tupleText_le (PyData.shownAll xs)
  rw [shownAll_len] at h
  have := r.l
  show (tupleText (PyData.shownAll xs)).length ≤ _
  omega
theorem shw_lst {n d : Nat} {xs : List PyData} (r : ShwA n d xs) : Shw (n + 3) (d + 1) (.list xs) := by
  refine ⟨r.s, r.h, Nat.succ_le_succ r.d, ?_⟩
  have h := listText_le (PyData.shownAll xs)
  rw [shownAll_len] at h
  have := r.l
  show (listText (PyData.shownAll xs)).length ≤ _
  omega
theorem Shw.up {n m c d : Nat} {x : PyData} (h : Shw n c x) (hn : n ≤ m) (hd : c ≤ d) : Shw m d x := ⟨h.s, h.h, Nat.le_trans h.d hd, Nat.le_trans h.l hn⟩
end KP

namespace KP
/-! ### common posts of two ways: plain mathematics -/
/-- the post with number k of the one way is a post of the other way -/
def Com (p1 s p2 t k : Int) : Prop := 0 ≤ k ∧ ∃ j, 0 ≤ j ∧ p1 + k * s = p2 + j * t
structure Cross (p1 s p2 t : Int) (emp : Bool) (step ostep start ostart : Int) : Prop where
  stp : step = (t.natAbs : Int) / (Int.gcd s t : Int)
  pos : 0 < step
  st0 : 0 ≤ start
  st1 : start < step
  non : emp = true → ∀ k j, p1 + k * s ≠ p2 + j * t
  on : emp = false → p1 + start * s = p2 + ostart * t
  two : step * s = ostep * t
  all : emp = false → ∀ k j, p1 + k * s = p2 + j * t → ∃ m, k = start + m * step
theorem abs_cases (t : Int) : (0 ≤ t ∧ (t.natAbs : Int) = t) ∨ (t < 0 ∧ (t.natAbs : Int) = -t) := by omega
theorem cross_mk {p1 s p2 t g inv step ostep start ostart gap rest : Int} (hs : s ≠ 0) (ht : t ≠ 0) (hg : g = (Int.gcd s t : Int)) (hgap : gap = (p2 - p1).fdiv g) (hrest : rest = (p2 - p1).fmod g) (hstep : step = (t.natAbs : Int) / g)
    (hostep : ostep = if 0 < t then s / g else -(s / g)) (hinv : ((s / g) * inv) % step = 1 % step) (hstart : start = gap * inv % step) (host : ostart = (p1 + start * s - p2).fdiv t) : Cross p1 s p2 t (decide (rest ≠ 0)) step ostep start ostart := by
  have g0 : 0 < g := by
    rw [hg]
    have := Int.gcd_pos_of_ne_zero_left t hs
    omega
  have ds : g ∣ s := by
    rw [hg]
    exact Int.gcd_dvd_left s t
  have dt : g ∣ (t.natAbs : Int) := by
    rw [hg, Int.dvd_natAbs]
    exact Int.gcd_dvd_right s t
  have dt2 : g ∣ t := by
    rw [hg]
    exact Int.gcd_dvd_right s t
  obtain ⟨a, ha⟩ := ds
  obtain ⟨c, hc⟩ := dt
  have ea : s / g = a := by
    rw [ha]
    exact Int.mul_ediv_cancel_left a (by omega)
  have ec : step = c := by
    rw [hstep, hc]
    exact Int.mul_ediv_cancel_left c (by omega)
  rw [ea] at hinv hostep
  subst ec
  have spos : 0 < step := by
    have : 0 < (t.natAbs : Int) := by omega
    rw [hc] at this
    exact Int.pos_of_mul_pos_right this (by omega)
  obtain ⟨u, hu⟩ : ∃ u, a * inv = 1 + step * u := by
    have : (a * inv - 1) % step = 0 := by
      rw [Int.sub_emod, hinv, Int.sub_self, Int.zero_emod]
    obtain ⟨u, hu⟩ := Int.dvd_of_emod_eq_zero this
    exact ⟨u, by omega⟩
  have st0 : 0 ≤ start := by
    rw [hstart]
    exact Int.emod_nonneg _ (by omega)
  have st1 : start < step := by
    rw [hstart]
    exact Int.emod_lt_of_pos _ spos
  have two : step * s = ostep * t := by
    rcases abs_cases t with ⟨h1, h2⟩ | ⟨h1, h2⟩
    · rw [hostep, if_pos (by omega), ha]
      rw [h2] at hc
      grind
    · rw [hostep, if_neg (by omega), ha]
      rw [h2] at hc
      grind
  have hdiv : p2 - p1 = g * gap + rest := by
    rw [hgap, hrest]
    have := Int.fmod_add_mul_fdiv (p2 - p1) g
    omega
  have on : rest = 0 → p1 + start * s = p2 + ostart * t := by
    intro hr
    rw [hr] at hdiv
    obtain ⟨v, hv⟩ : ∃ v, start = gap * inv - step * v := ⟨gap * inv / step, by
      have := Int.emod_add_mul_ediv (gap * inv) step
      rw [hstart]
      omega⟩
    have e1 : p1 + start * s - p2 = (t.natAbs : Int) * (gap * u - v * a) := by
      rw [hc, ha, hv]
      grind
    obtain ⟨x, hx⟩ : ∃ x, p1 + start * s - p2 = t * x := by
      rcases abs_cases t with ⟨h1, h2⟩ | ⟨h1, h2⟩
      · exact ⟨_, by rw [e1, h2]⟩
      · exact ⟨-(gap * u - v * a), by rw [e1, h2]; grind⟩
    have e2 : ostart = x := by
      rw [host, hx]
      exact Int.mul_fdiv_cancel_left x ht
    rw [e2]
    grind
  refine ⟨by rw [← hg, hc]; exact (Int.mul_ediv_cancel_left step (by omega)).symm, spos, st0, st1, fun he k j e => ?_, fun he => ?_, two, fun he k j e => ?_⟩
  · have hr := of_decide_eq_true he
    apply hr
    obtain ⟨y, hy⟩ := dt2
    have : p2 - p1 = g * (k * a - j * y) := by
      rw [ha, hy] at e
      grind
    rw [hrest, this]
    exact Int.mul_fmod_right g _
  · have hr := of_decide_eq_false he
    exact on (by omega)
  · have hr := of_decide_eq_false he
    have h0 := on (by omega)
    have e1 : (k - start) * s = (j - ostart) * t := by grind
    obtain ⟨x, hx⟩ : ∃ x, (k - start) * a = step * x := by
      rcases abs_cases t with ⟨h1, h2⟩ | ⟨h1, h2⟩
      · refine ⟨j - ostart, ?_⟩
        rw [h2] at hc
        rw [ha, hc] at e1
        exact Int.eq_of_mul_eq_mul_left (show g ≠ 0 by omega) (by grind)
      · refine ⟨-(j - ostart), ?_⟩
        rw [h2] at hc
        have ht2 : t = -(g * step) := by omega
        rw [ha, ht2] at e1
        exact Int.eq_of_mul_eq_mul_left (show g ≠ 0 by omega) (by grind)
    refine ⟨x * inv - (k - start) * u, ?_⟩
    have : (k - start) * (a * inv) = step * (x * inv) := by grind
    rw [hu] at this
    grind
namespace Cross
variable {p1 s p2 t : Int} {emp : Bool} {step ostep start ostart : Int}
theorem sgn (C : Cross p1 s p2 t emp step ostep start ostart) (hs : s ≠ 0) (ht : t ≠ 0) : (0 < s * t ∧ 0 < ostep) ∨ (s * t < 0 ∧ ostep < 0) := by
  have h := C.two
  have hp := C.pos
  have e : step * (s * t) = ostep * (t * t) := by grind
  have tt : 0 < t * t := by
    rcases Int.lt_or_gt_of_ne ht with h1 | h1
    · exact Int.mul_pos_of_neg_of_neg h1 h1
    · exact Int.mul_pos h1 h1
  have st : s * t ≠ 0 := Int.mul_ne_zero hs ht
  rcases Int.lt_or_gt_of_ne st with h1 | h1
  · right
    refine ⟨h1, ?_⟩
    have : step * (s * t) < 0 := Int.mul_neg_of_pos_of_neg hp h1
    rw [e] at this
    exact Int.neg_of_mul_neg_right (a := t * t) (by rw [Int.mul_comm]; exact this) (by omega)
  · left
    refine ⟨h1, ?_⟩
    have : 0 < step * (s * t) := Int.mul_pos hp h1
    rw [e] at this
    exact Int.pos_of_mul_pos_left this (by omega)
theorem com_iff (C : Cross p1 s p2 t emp step ostep start ostart) (ht : t ≠ 0) (he : emp = false) (k : Int) : Com p1 s p2 t k ↔ ∃ m, k = start + m * step ∧ 0 ≤ m ∧ 0 ≤ ostart + m * ostep := by
  have on := C.on he
  have two := C.two
  have p := C.pos
  have s0 := C.st0
  have s1 := C.st1
  constructor
  · rintro ⟨k0, j, j0, e⟩
    obtain ⟨m, rfl⟩ := C.all he k j e
    have ej : j = ostart + m * ostep := by
      apply Int.eq_of_mul_eq_mul_right ht
      grind
    refine ⟨m, rfl, ?_, by omega⟩
    apply Classical.byContradiction
    intro hm
    have : m * step ≤ (-1) * step := Int.mul_le_mul_of_nonneg_right (by omega) (by omega)
    omega
  · rintro ⟨m, rfl, m0, h⟩
    have : 0 ≤ m * step := Int.mul_nonneg m0 (by omega)
    exact ⟨by omega, ostart + m * ostep, h, by grind⟩
end Cross
/-- the numbers m that fit -/
def Fit (ps : List (Int × Int)) (low : Int) (high : Option Int) : Prop := ∀ m : Int, (0 ≤ m ∧ ∀ x ∈ ps, 0 ≤ x.1 + m * x.2) ↔ (low ≤ m ∧ ∀ h, high = some h → m ≤ h)
theorem fit_pos {b g m : Int} (hg : 0 < g) : 0 ≤ b + m * g ↔ -(b / g) ≤ m := by
  have h1 := Int.emod_add_mul_ediv b g
  have h2 := Int.emod_nonneg b (show g ≠ 0 by omega)
  have h3 := Int.emod_lt_of_pos b hg
  constructor
  · intro h
    apply Classical.byContradiction
    intro hn
    have : (m + b / g) * g ≤ (-1) * g := Int.mul_le_mul_of_nonneg_right (by omega) (by omega)
    grind
  · intro h
    have : 0 ≤ (m + b / g) * g := Int.mul_nonneg (by omega) (by omega)
    grind
theorem fit_neg {b g m : Int} (hg : g < 0) : 0 ≤ b + m * g ↔ m ≤ b / -g := by
  have h1 := Int.emod_add_mul_ediv b (-g)
  have h2 := Int.emod_nonneg b (show -g ≠ 0 by omega)
  have h3 := Int.emod_lt_of_pos b (show 0 < -g by omega)
  constructor
  · intro h
    apply Classical.byContradiction
    intro hn
    have : 1 * (-g) ≤ (m - b / -g) * (-g) := Int.mul_le_mul_of_nonneg_right (by omega) (by omega)
    grind
  · intro h
    have : 0 ≤ (b / -g - m) * (-g) := Int.mul_nonneg (by omega) (by omega)
    grind
/-- what common_posts is to return -/
def CP (p1 s p2 t : Int) : Option (Int × Option Int × Int) → Prop
  | none => ∀ k, ¬ Com p1 s p2 t k
  | some (f, l, d) => (∃ k, Com p1 s p2 t k ∧ (∀ k', Com p1 s p2 t k' → k ≤ k') ∧ f = p1 + k * s) ∧
      (match l with
        | none => 0 < s * t
        | some x => s * t < 0 ∧ ∃ k, Com p1 s p2 t k ∧ (∀ k', Com p1 s p2 t k' → k' ≤ k) ∧ x = p1 + k * s) ∧ d = (s.natAbs : Int) * ((t.natAbs : Int) / (Int.gcd s t : Int))
theorem CP.inj {p1 s p2 t : Int} {x y : Option (Int × Option Int × Int)} (hx : CP p1 s p2 t x) (hy : CP p1 s p2 t y) : x = y := by
  match x, y, hx, hy with
  | none, none, _, _ => rfl
  | none, some (f, l, d), hx, ⟨⟨k, h, _⟩, _⟩ => exact absurd h (hx k)
  | some (f, l, d), none, ⟨⟨k, h, _⟩, _⟩, hy => exact absurd h (hy k)
  | some (f, l, d), some (f2, l2, d2), ⟨⟨k, h, m, e⟩, hl, hd⟩, ⟨⟨k2, h2, m2, e2⟩, hl2, hd2⟩ =>
    have ek : k = k2 := by
      have a1 := m _ h2
      have a2 := m2 _ h
      omega
    have ef : f = f2 := by rw [e, e2, ek]
    have ed : d = d2 := by rw [hd, hd2]
    have el : l = l2 := by
      match l, l2, hl, hl2 with
      | none, none, _, _ => rfl
      | none, some z, h1, h2 => exact absurd h1 (by have := h2.1; omega)
      | some z, none, h1, h2 => exact absurd h2 (by have := h1.1; omega)
      | some z, some z2, ⟨_, k3, c3, m3, e3⟩, ⟨_, k4, c4, m4, e4⟩ =>
        have a1 := m3 _ c4
        have a2 := m4 _ c3
        have : k3 = k4 := by omega
        rw [e3, e4, this]
    rw [ef, ed, el]
theorem cp_none {p1 s p2 t : Int} {emp : Bool} {step ostep start ostart : Int} (C : Cross p1 s p2 t emp step ostep start ostart) (ht : t ≠ 0) (h : emp = true ∨ ∀ m, ¬ (0 ≤ m ∧ 0 ≤ ostart + m * ostep)) : CP p1 s p2 t none := by
  intro k hk
  cases emp with
  | true =>
    obtain ⟨_, j, _, e⟩ := hk
    exact C.non rfl k j e
  | false =>
    rcases h with h | h
    · cases h
    · obtain ⟨m, _, h1, h2⟩ := (C.com_iff ht rfl k).mp hk
      exact h m ⟨h1, h2⟩
theorem cp_some {p1 s p2 t : Int} {step ostep start ostart low : Int} {high : Option Int} (C : Cross p1 s p2 t false step ostep start ostart) (hs : s ≠ 0) (ht : t ≠ 0) (F : Fit [(ostart, ostep)] low high) (hh : high = none ↔ 0 < ostep)
    (hl : ∀ h, high = some h → low ≤ h) : CP p1 s p2 t (some (p1 + (start + low * step) * s, high.map fun h => p1 + (start + h * step) * s, (s.natAbs : Int) * step)) := by
  have p := C.pos
  have ci := C.com_iff ht rfl
  have fm : ∀ m, (0 ≤ m ∧ 0 ≤ ostart + m * ostep) ↔ (low ≤ m ∧ ∀ h, high = some h → m ≤ h) := fun m => by
    have z := F m
    constructor
    · rintro ⟨h1, h2⟩
      exact z.mp ⟨h1, fun x hx => by rw [List.mem_singleton.mp hx]; exact h2⟩
    · intro h
      have y := z.mpr h
      exact ⟨y.1, y.2 (ostart, ostep) (List.mem_singleton.mpr rfl)⟩
  refine ⟨⟨_, (ci _).mpr ⟨low, rfl, (fm low).mpr ⟨Int.le_refl _, hl⟩⟩, fun k' hk => ?_, rfl⟩, ?_, by rw [C.stp]⟩
  · obtain ⟨m, rfl, h1, h2⟩ := (ci k').mp hk
    have := ((fm m).mp ⟨h1, h2⟩).1
    have := Int.mul_le_mul_of_nonneg_right this (show 0 ≤ step by omega)
    omega
  · cases high with
    | none =>
      show 0 < s * t
      rcases C.sgn hs ht with ⟨h1, _⟩ | ⟨_, h2⟩
      · exact h1
      · exact absurd (hh.mp rfl) (by omega)
    | some h =>
      show s * t < 0 ∧ _
      refine ⟨?_, _, (ci _).mpr ⟨h, rfl, (fm h).mpr ⟨hl h rfl, fun z e => by injection e with e; omega⟩⟩, fun k' hk => ?_, rfl⟩
      · rcases C.sgn hs ht with ⟨_, h2⟩ | ⟨h1, _⟩
        · exact absurd (hh.mpr h2) (by simp)
        · exact h1
      · obtain ⟨m, rfl, h1, h2⟩ := (ci k').mp hk
        have := ((fm m).mp ⟨h1, h2⟩).2 h rfl
        have := Int.mul_le_mul_of_nonneg_right this (show 0 ≤ step by omega)
        omega
end KP

namespace KP
/-! ### common posts by going, of ways with small numbers -/
def hasS (p2 t x : Int) : Bool := decide ((x - p2).fmod t = 0) && decide (0 ≤ (x - p2).fdiv t)
theorem hasS_iff {p2 t x : Int} (ht : t ≠ 0) : hasS p2 t x = true ↔ ∃ j, 0 ≤ j ∧ x = p2 + j * t := by
  unfold hasS
  rw [Bool.and_eq_true, decide_eq_true_iff, decide_eq_true_iff]
  have h := Int.fmod_add_mul_fdiv (x - p2) t
  constructor
  · rintro ⟨h1, h2⟩
    exact ⟨_, h2, by rw [h1] at h; grind⟩
  · rintro ⟨j, j0, rfl⟩
    have e : p2 + j * t - p2 = t * j := by grind
    rw [e]
    exact ⟨Int.mul_fmod_right t j, by rw [Int.mul_fdiv_cancel_left j ht]; exact j0⟩
def dueKs (p1 s p2 t : Int) : List Nat := (List.range 200).filter fun k => hasS p2 t (p1 + (k : Int) * s)
def dueL (p1 s p2 t : Int) : List Int := ((List.range 200).map fun k : Nat => p1 + (k : Int) * s).filter (hasS p2 t)
theorem dueL_eq (p1 s p2 t : Int) : dueL p1 s p2 t = (dueKs p1 s p2 t).map fun k : Nat => p1 + (k : Int) * s := by
  unfold dueL dueKs
  rw [List.filter_map]
  rfl
theorem dueKs_mem {p1 s p2 t : Int} (ht : t ≠ 0) (k : Nat) : k ∈ dueKs p1 s p2 t ↔ k < 200 ∧ Com p1 s p2 t k := by
  unfold dueKs
  rw [List.mem_filter, List.mem_range, hasS_iff ht]
  constructor
  · rintro ⟨h, j, j0, e⟩
    exact ⟨h, by omega, j, j0, e⟩
  · rintro ⟨h, _, j, j0, e⟩
    exact ⟨h, j, j0, e⟩
theorem dueKs_sorted (p1 s p2 t : Int) : (dueKs p1 s p2 t).Pairwise (· < ·) := List.pairwise_lt_range.filter _
structure SmP (p1 s p2 t : Int) : Prop where
  a1 : -9 ≤ p1
  a2 : p1 ≤ 9
  b1 : -9 ≤ p2
  b2 : p2 ≤ 9
  s1 : -9 ≤ s
  s2 : s ≤ 9
  t1 : -9 ≤ t
  t2 : t ≤ 9
  sn : s ≠ 0
  tn : t ≠ 0
theorem com_less {p1 s p2 t : Int} (h : SmP p1 s p2 t) {k : Int} (hk : 200 ≤ k) (hc : Com p1 s p2 t k) : 0 < s * t ∧ Com p1 s p2 t (k - t.natAbs) := by
  obtain ⟨k0, j, j0, e⟩ := hc
  obtain ⟨a1, a2, b1, b2, s1, s2, t1, t2, sn, tn⟩ := h
  rcases Int.lt_or_gt_of_ne sn with s3 | s3
  · rcases Int.lt_or_gt_of_ne tn with t3 | t3
    · refine ⟨Int.mul_pos_of_neg_of_neg s3 t3, by omega, j + s, ?_, ?_⟩
      · have h1 : k * s ≤ k * (-1) := Int.mul_le_mul_of_nonneg_left (by omega) k0
        have h2 : j * (-9) ≤ j * t := Int.mul_le_mul_of_nonneg_left (by omega) j0
        omega
      · have : (t.natAbs : Int) = -t := by omega
        rw [this]
        grind
    · have h1 : k * s ≤ k * (-1) := Int.mul_le_mul_of_nonneg_left (by omega) k0
      have h2 : 0 ≤ j * t := Int.mul_nonneg j0 (by omega)
      omega
  · rcases Int.lt_or_gt_of_ne tn with t3 | t3
    · have h1 : k * 1 ≤ k * s := Int.mul_le_mul_of_nonneg_left (by omega) k0
      have h2 : j * t ≤ 0 := Int.mul_nonpos_of_nonneg_of_nonpos j0 (by omega)
      omega
    · refine ⟨Int.mul_pos s3 t3, by omega, j - s, ?_, ?_⟩
      · have h1 : k * 1 ≤ k * s := Int.mul_le_mul_of_nonneg_left (by omega) k0
        have h2 : j * t ≤ j * 9 := Int.mul_le_mul_of_nonneg_left (by omega) j0
        omega
      · have : (t.natAbs : Int) = t := by omega
        rw [this]
        grind
theorem com_small {p1 s p2 t : Int} (h : SmP p1 s p2 t) : ∀ (n : Nat) (k : Int), k.toNat ≤ n → Com p1 s p2 t k → ∃ k', k' < 200 ∧ Com p1 s p2 t k'
  | 0, k, hn, hc => ⟨k, by omega, hc⟩
  | n + 1, k, hn, hc => by
    by_cases hk : k < 200
    · exact ⟨k, hk, hc⟩
    · have tn := h.tn
      exact com_small h n (k - t.natAbs) (by omega) (com_less h (by omega) hc).2
theorem due_nil {p1 s p2 t : Int} (h : SmP p1 s p2 t) (e : dueL p1 s p2 t = []) : CP p1 s p2 t none := by
  intro k hk
  obtain ⟨k', h1, h2⟩ := com_small h _ k (Nat.le_refl _) hk
  have k0 := h2.1
  have : k'.toNat ∈ dueKs p1 s p2 t := (dueKs_mem h.tn _).mpr ⟨by omega, by rw [Int.toNat_of_nonneg k0]; exact h2⟩
  rw [dueL_eq] at e
  rw [List.map_eq_nil_iff.mp e] at this
  cases this
theorem due_some {p1 s p2 t : Int} (h : SmP p1 s p2 t) {x z : Int} {r i : List Int} (e : dueL p1 s p2 t = x :: r) (el : dueL p1 s p2 t = i ++ [z]) :
    CP p1 s p2 t (some (x, if 0 < s * t then none else some z, (s.natAbs : Int) * ((t.natAbs : Int) / (Int.gcd s t : Int)))) := by
  rw [dueL_eq] at e el
  have sor := dueKs_sorted p1 s p2 t
  have mem := dueKs_mem (p1 := p1) (s := s) (p2 := p2) h.tn
  refine ⟨?_, ?_, rfl⟩
  · obtain ⟨k0, rest, hks, hx, hr⟩ := List.map_eq_cons_iff.mp e
    rw [hks] at sor mem
    have h0 := (mem k0).mp (List.mem_cons_self ..)
    refine ⟨k0, h0.2, fun k' hk => ?_, hx.symm⟩
    by_cases lt : k' < 200
    · have k1 := hk.1
      have : k'.toNat ∈ k0 :: rest := (mem _).mpr ⟨by omega, by rw [Int.toNat_of_nonneg k1]; exact hk⟩
      rcases List.mem_cons.mp this with q | q
      · omega
      · have := (List.pairwise_cons.mp sor).1 _ q
        omega
    · omega
  · by_cases pos : 0 < s * t
    · rw [if_pos pos]
      exact pos
    · rw [if_neg pos]
      show s * t < 0 ∧ _
      have ne : s * t ≠ 0 := Int.mul_ne_zero h.sn h.tn
      refine ⟨by omega, ?_⟩
      obtain ⟨i2, z2, hks, hi, hz⟩ := List.map_eq_append_iff.mp el
      obtain ⟨k1, rest, hz2, hz3, hz4⟩ := List.map_eq_cons_iff.mp hz
      have hrest : rest = [] := List.map_eq_nil_iff.mp hz4
      subst hrest
      subst hz2
      rw [hks] at sor mem
      have h0 := (mem k1).mp (List.mem_append_right _ (List.mem_singleton.mpr rfl))
      refine ⟨k1, h0.2, fun k' hk => ?_, hz3.symm⟩
      by_cases lt : k' < 200
      · have k2 := hk.1
        have : k'.toNat ∈ i2 ++ [k1] := (mem _).mpr ⟨by omega, by rw [Int.toNat_of_nonneg k2]; exact hk⟩
        rcases List.mem_append.mp this with q | q
        · have := (List.pairwise_append.mp sor).2.2 _ q k1 (List.mem_singleton.mpr rfl)
          omega
        · have := List.mem_singleton.mp q
          omega
      · have := (com_less h (by omega) hk).1
        omega
end KP

namespace KP
/-! ### the first block: plain mathematics -/
/-- at its post with number k the one finds that the other was there before -/
def Blk (d1 p1 s d2 p2 t : Int) (lim : Option Int) (ear : Bool) (k : Int) : Prop := 0 ≤ k ∧ ∃ j, 0 ≤ j ∧ p1 + k * s = p2 + j * t ∧ (∀ l, lim = some l → j < l) ∧ (0 < d1 + k - d2 - j ∨ (d1 + k - d2 - j = 0 ∧ ear = true))
def FB (d1 p1 s d2 p2 t : Int) (lim : Option Int) (ear : Bool) : Option Int → Prop
  | none => ∀ k, ¬ Blk d1 p1 s d2 p2 t lim ear k
  | some k => Blk d1 p1 s d2 p2 t lim ear k ∧ ∀ k', Blk d1 p1 s d2 p2 t lim ear k' → k ≤ k'
theorem FB.inj {d1 p1 s d2 p2 t : Int} {lim : Option Int} {ear : Bool} {x y : Option Int} (hx : FB d1 p1 s d2 p2 t lim ear x) (hy : FB d1 p1 s d2 p2 t lim ear y) : x = y := by
  match x, y, hx, hy with
  | none, none, _, _ => rfl
  | none, some k, h, ⟨b, _⟩ => exact absurd b (h k)
  | some k, none, ⟨b, _⟩, h => exact absurd b (h k)
  | some k, some k', ⟨b, m⟩, ⟨b', m'⟩ =>
    have h1 := m k' b'
    have h2 := m' k b
    have : k = k' := by omega
    rw [this]
def notE (ear : Bool) : Int := if ear = true then 0 else 1
/-- the conditions upon m -/
def blkPs (d1 d2 step ostep start ostart : Int) (lim : Option Int) (ear : Bool) : List (Int × Int) := (ostart, ostep) :: (d1 + start - d2 - ostart - notE ear, step - ostep) :: (match lim with
  | none => []
  | some c => [(c - 1 - ostart, -ostep)])
theorem blk_iff {d1 p1 s d2 p2 t step ostep start ostart : Int} {lim : Option Int} {ear : Bool} (C : Cross p1 s p2 t false step ostep start ostart) (ht : t ≠ 0) (k : Int) :
    Blk d1 p1 s d2 p2 t lim ear k ↔ ∃ m, k = start + m * step ∧ 0 ≤ m ∧ ∀ x ∈ blkPs d1 d2 step ostep start ostart lim ear, 0 ≤ x.1 + m * x.2 := by
  have on := C.on rfl
  have two := C.two
  have p := C.pos
  have s0 := C.st0
  have s1 := C.st1
  constructor
  · rintro ⟨k0, j, j0, e, hl, hd⟩
    obtain ⟨m, rfl⟩ := C.all rfl k j e
    have ej : j = ostart + m * ostep := by
      apply Int.eq_of_mul_eq_mul_right ht
      grind
    refine ⟨m, rfl, ?_, fun x hx => ?_⟩
    · apply Classical.byContradiction
      intro hm
      have : m * step ≤ (-1) * step := Int.mul_le_mul_of_nonneg_right (by omega) (by omega)
      omega
    · unfold blkPs at hx
      rcases List.mem_cons.mp hx with rfl | hx
      · show 0 ≤ ostart + m * ostep
        omega
      rcases List.mem_cons.mp hx with rfl | hx
      · show 0 ≤ d1 + start - d2 - ostart - notE ear + m * (step - ostep)
        rw [Int.mul_sub]
        unfold notE
        split
        · omega
        · rename_i h
          rcases hd with hd | ⟨_, hd⟩
          · omega
          · exact absurd hd h
      · cases lim with
        | none => cases hx
        | some c =>
          have hx2 := List.mem_singleton.mp hx
          subst hx2
          show 0 ≤ c - 1 - ostart + m * (-ostep)
          rw [Int.mul_neg]
          have := hl c rfl
          omega
  · rintro ⟨m, rfl, m0, h⟩
    have ms : 0 ≤ m * step := Int.mul_nonneg m0 (by omega)
    have h1 := h _ (List.mem_cons_self ..)
    have h2 := h _ (List.mem_cons_of_mem _ (List.mem_cons_self ..))
    dsimp only at h1 h2
    rw [Int.mul_sub] at h2
    refine ⟨by omega, ostart + m * ostep, h1, by grind, fun l e => ?_, ?_⟩
    · subst e
      have h3 := h (l - 1 - ostart, -ostep) (List.mem_cons_of_mem _ (List.mem_cons_of_mem _ (List.mem_singleton.mpr rfl)))
      dsimp only at h3
      rw [Int.mul_neg] at h3
      omega
    · unfold notE at h2
      split at h2
      · rename_i he
        by_cases z : d1 + (start + m * step) - d2 - (ostart + m * ostep) = 0
        · exact .inr ⟨z, he⟩
        · left
          omega
      · left
        omega
theorem fb_of {d1 p1 s d2 p2 t step ostep start ostart low : Int} {high : Option Int} {lim : Option Int} {ear : Bool} (C : Cross p1 s p2 t false step ostep start ostart) (ht : t ≠ 0) (F : Fit (blkPs d1 d2 step ostep start ostart lim ear) low high)
    (hl : ∀ h, high = some h → low ≤ h) : FB d1 p1 s d2 p2 t lim ear (some (start + low * step)) := by
  have p := C.pos
  refine ⟨(blk_iff C ht _).mpr ⟨low, rfl, (F low).mpr ⟨Int.le_refl _, hl⟩⟩, fun k' hk => ?_⟩
  obtain ⟨m, rfl, h1, h2⟩ := (blk_iff C ht k').mp hk
  have := ((F m).mp ⟨h1, h2⟩).1
  have := Int.mul_le_mul_of_nonneg_right this (show 0 ≤ step by omega)
  omega
theorem fb_none {d1 p1 s d2 p2 t step ostep start ostart : Int} {lim : Option Int} {ear emp : Bool} (C : Cross p1 s p2 t emp step ostep start ostart) (ht : t ≠ 0) (h : emp = true ∨ ∀ m, ¬ (0 ≤ m ∧ ∀ x ∈ blkPs d1 d2 step ostep start ostart lim ear, 0 ≤ x.1 + m * x.2)) :
    FB d1 p1 s d2 p2 t lim ear none := by
  intro k hk
  cases emp with
  | true =>
    obtain ⟨_, j, _, e, _⟩ := hk
    exact C.non rfl k j e
  | false =>
    rcases h with h | h
    · cases h
    · obtain ⟨m, _, h1, h2⟩ := (blk_iff C ht k).mp hk
      exact h m ⟨h1, h2⟩
theorem blk_no {d1 p1 s d2 p2 t : Int} {lim : Option Int} {ear : Bool} {k : Int} (ht : t ≠ 0) (h : ¬ hasS p2 t (p1 + k * s) = true) : ¬ Blk d1 p1 s d2 p2 t lim ear k := fun ⟨_, j, j0, e, _⟩ => h ((hasS_iff ht).mpr ⟨j, j0, e⟩)
theorem blk_at {d1 p1 s d2 p2 t : Int} {lim : Option Int} {ear : Bool} {k : Int} (ht : t ≠ 0) (k0 : 0 ≤ k) (h : hasS p2 t (p1 + k * s) = true) :
    Blk d1 p1 s d2 p2 t lim ear k ↔ (∀ l, lim = some l → (p1 + k * s - p2).fdiv t < l) ∧ (0 < d1 + k - d2 - (p1 + k * s - p2).fdiv t ∨ (d1 + k - d2 - (p1 + k * s - p2).fdiv t = 0 ∧ ear = true)) := by
  obtain ⟨j, j0, e⟩ := (hasS_iff ht).mp h
  have ej : (p1 + k * s - p2).fdiv t = j := by
    rw [e, show p2 + j * t - p2 = t * j by grind]
    exact Int.mul_fdiv_cancel_left j ht
  rw [ej]
  constructor
  · rintro ⟨_, j2, j20, e2, hl, hd⟩
    have : j2 = j := Int.eq_of_mul_eq_mul_right ht (by omega)
    subst this
    exact ⟨hl, hd⟩
  · rintro ⟨hl, hd⟩
    exact ⟨k0, j, j0, e, hl, hd⟩
/-! ### by going, of small numbers -/
theorem blk_less {d1 p1 s d2 p2 t : Int} {lim : Option Int} {ear : Bool} (h : SmP p1 s p2 t) (a0 : 0 ≤ d1) (a1 : d1 ≤ 7) (b0 : 0 ≤ d2) (b1 : d2 ≤ 7) {k : Int} (hk : 420 ≤ k) (hc : Blk d1 p1 s d2 p2 t lim ear k) : Blk d1 p1 s d2 p2 t lim ear (k - t.natAbs) := by
  obtain ⟨k0, j, j0, e, hl, hd⟩ := hc
  have pos := (com_less h (show 200 ≤ k by omega) ⟨k0, j, j0, e⟩).1
  obtain ⟨a1', a2, b1', b2, s1, s2, t1, t2, sn, tn⟩ := h
  have jd : ∀ (k j s t : Int), 0 ≤ j → 420 ≤ k → 1 ≤ s → s ≤ 9 → 1 ≤ t → t ≤ 9 → -18 ≤ k * s - j * t → k * s - j * t ≤ 18 → 9 ≤ j ∧ (s < t → 30 ≤ k - j) := by
    intro k j s t j0 hk s1 s2 t1 t2 h1 h2
    have x1 : k * 1 ≤ k * s := Int.mul_le_mul_of_nonneg_left s1 (by omega)
    have x2 : j * t ≤ j * 9 := Int.mul_le_mul_of_nonneg_left t2 j0
    refine ⟨by omega, fun lt => ?_⟩
    apply Classical.byContradiction
    intro z
    have y1 : (k - 30) * t ≤ j * t := Int.mul_le_mul_of_nonneg_right (by omega) (by omega)
    have y2 : k * (s + 1) ≤ k * t := Int.mul_le_mul_of_nonneg_left (by omega) (by omega)
    have y3 : (k - 30) * t = k * t - 30 * t := by grind
    have y4 : k * (s + 1) = k * s + k := by grind
    omega
  rcases Int.lt_or_gt_of_ne sn with s3 | s3
  · rcases Int.lt_or_gt_of_ne tn with t3 | t3
    · have q := jd k j (-s) (-t) j0 hk (by omega) (by omega) (by omega) (by omega) (by grind) (by grind)
      have na : (t.natAbs : Int) = -t := by omega
      rw [na]
      refine ⟨by omega, j + s, by omega, by grind, fun l e => by have := hl l e; omega, ?_⟩
      by_cases lt : -s < -t
      · have := q.2 lt
        left
        omega
      · rcases hd with hd | ⟨hd, he⟩
        · left
          omega
        · by_cases eq : s = t
          · right
            exact ⟨by omega, he⟩
          · left
            omega
    · exact absurd pos (by have := Int.mul_neg_of_neg_of_pos s3 t3; omega)
  · rcases Int.lt_or_gt_of_ne tn with t3 | t3
    · exact absurd pos (by have := Int.mul_neg_of_pos_of_neg s3 t3; omega)
    · have q := jd k j s t j0 hk (by omega) (by omega) (by omega) (by omega) (by omega) (by omega)
      have na : (t.natAbs : Int) = t := by omega
      rw [na]
      refine ⟨by omega, j - s, by omega, by grind, fun l e => by have := hl l e; omega, ?_⟩
      by_cases lt : s < t
      · have := q.2 lt
        left
        omega
      · rcases hd with hd | ⟨hd, he⟩
        · left
          omega
        · by_cases eq : s = t
          · right
            exact ⟨by omega, he⟩
          · left
            omega
theorem blk_small {d1 p1 s d2 p2 t : Int} {lim : Option Int} {ear : Bool} (h : SmP p1 s p2 t) (a0 : 0 ≤ d1) (a1 : d1 ≤ 7) (b0 : 0 ≤ d2) (b1 : d2 ≤ 7) : ∀ (n : Nat) (k : Int), k.toNat ≤ n → Blk d1 p1 s d2 p2 t lim ear k → ∃ k', k' < 420 ∧ Blk d1 p1 s d2 p2 t lim ear k'
  | 0, k, hn, hc => ⟨k, by omega, hc⟩
  | n + 1, k, hn, hc => by
    by_cases hk : k < 420
    · exact ⟨k, hk, hc⟩
    · have tn := h.tn
      exact blk_small h a0 a1 b0 b1 n (k - t.natAbs) (by omega) (blk_less h a0 a1 b0 b1 (by omega) hc)
theorem fb_going_none {d1 p1 s d2 p2 t : Int} {lim : Option Int} {ear : Bool} (h : SmP p1 s p2 t) (a0 : 0 ≤ d1) (a1 : d1 ≤ 7) (b0 : 0 ≤ d2) (b1 : d2 ≤ 7) (no : ∀ k : Nat, k < 420 → ¬ Blk d1 p1 s d2 p2 t lim ear k) : FB d1 p1 s d2 p2 t lim ear none := by
  intro k hk
  obtain ⟨k', h1, h2⟩ := blk_small h a0 a1 b0 b1 _ k (Nat.le_refl _) hk
  have k0 := h2.1
  exact no k'.toNat (by omega) (by rw [Int.toNat_of_nonneg k0]; exact h2)
theorem fb_going_some {d1 p1 s d2 p2 t : Int} {lim : Option Int} {ear : Bool} {k : Nat} (b : Blk d1 p1 s d2 p2 t lim ear k) (no : ∀ i : Nat, i < k → ¬ Blk d1 p1 s d2 p2 t lim ear i) : FB d1 p1 s d2 p2 t lim ear (some k) := by
  refine ⟨b, fun k' hk => ?_⟩
  have k0 := hk.1
  apply Classical.byContradiction
  intro z
  exact no k'.toNat (by omega) (by rw [Int.toNat_of_nonneg k0]; exact hk)
end KP

namespace KP
/-! ### common posts of great numbers: plain mathematics -/
structure GrP (p1 s p2 t : Int) : Prop where
  a1 : -(10 ^ 30) ≤ p1
  a2 : p1 ≤ 10 ^ 30
  b1 : -(10 ^ 30) ≤ p2
  b2 : p2 ≤ 10 ^ 30
  s1 : -(10 ^ 18) ≤ s
  s2 : s ≤ 10 ^ 18
  t1 : -(10 ^ 18) ≤ t
  t2 : t ≤ 10 ^ 18
  sn : s ≠ 0
  tn : t ≠ 0
theorem com_lessG {p1 s p2 t : Int} (h : GrP p1 s p2 t) {k : Int} (hk : 10 ^ 31 ≤ k) (hc : Com p1 s p2 t k) : 0 < s * t ∧ Com p1 s p2 t (k - t.natAbs) := by
  obtain ⟨k0, j, j0, e⟩ := hc
  obtain ⟨a1, a2, b1, b2, s1, s2, t1, t2, sn, tn⟩ := h
  rcases Int.lt_or_gt_of_ne sn with s3 | s3
  · rcases Int.lt_or_gt_of_ne tn with t3 | t3
    · refine ⟨Int.mul_pos_of_neg_of_neg s3 t3, by omega, j + s, ?_, ?_⟩
      · apply Classical.byContradiction
        intro z
        have h1 : (3 * 10 ^ 30 - t) * (-s) ≤ k * (-s) := Int.mul_le_mul_of_nonneg_right (by omega) (by omega)
        have h2 : j * (-t) ≤ (-s) * (-t) := Int.mul_le_mul_of_nonneg_right (by omega) (by omega)
        have h3 : (3 * 10 ^ 30) * 1 ≤ (3 * 10 ^ 30) * (-s) := Int.mul_le_mul_of_nonneg_left (by omega) (by omega)
        have h4 : (3 * 10 ^ 30 - t) * (-s) = (3 * 10 ^ 30) * (-s) + (-s) * (-t) := by grind
        have h5 : k * (-s) = -(k * s) := by grind
        have h6 : j * (-t) = -(j * t) := by grind
        generalize (-s) * (-t) = st at h2 h4
        omega
      · have : (t.natAbs : Int) = -t := by omega
        rw [this]
        grind
    · have h1 : k * s ≤ k * (-1) := Int.mul_le_mul_of_nonneg_left (by omega) k0
      have h2 : 0 ≤ j * t := Int.mul_nonneg j0 (by omega)
      omega
  · rcases Int.lt_or_gt_of_ne tn with t3 | t3
    · have h1 : k * 1 ≤ k * s := Int.mul_le_mul_of_nonneg_left (by omega) k0
      have h2 : j * t ≤ 0 := Int.mul_nonpos_of_nonneg_of_nonpos j0 (by omega)
      omega
    · refine ⟨Int.mul_pos s3 t3, by omega, j - s, ?_, ?_⟩
      · apply Classical.byContradiction
        intro z
        have h1 : (3 * 10 ^ 30 + t) * s ≤ k * s := Int.mul_le_mul_of_nonneg_right (by omega) (by omega)
        have h2 : j * t ≤ s * t := Int.mul_le_mul_of_nonneg_right (by omega) (by omega)
        have h3 : (3 * 10 ^ 30) * 1 ≤ (3 * 10 ^ 30) * s := Int.mul_le_mul_of_nonneg_left (by omega) (by omega)
        have h4 : (3 * 10 ^ 30 + t) * s = (3 * 10 ^ 30) * s + s * t := by grind
        generalize s * t = st at h2 h4
        omega
      · have : (t.natAbs : Int) = t := by omega
        rw [this]
        grind
theorem com_min {p1 s p2 t : Int} (h : GrP p1 s p2 t) {k : Int} (hc : Com p1 s p2 t k) (m : ∀ k', Com p1 s p2 t k' → k ≤ k') : k < 10 ^ 31 := by
  apply Classical.byContradiction
  intro z
  have := m _ (com_lessG h (by omega) hc).2
  have := h.tn
  omega
theorem com_max {p1 s p2 t : Int} (h : GrP p1 s p2 t) {k : Int} (hc : Com p1 s p2 t k) (m : s * t < 0) : k < 10 ^ 31 := by
  apply Classical.byContradiction
  intro z
  have := (com_lessG h (by omega) hc).1
  omega
theorem com_at {p1 s p2 t : Int} (h : GrP p1 s p2 t) {k : Int} (k0 : 0 ≤ k) (k1 : k < 10 ^ 31) : -(10 ^ 60) ≤ p1 + k * s ∧ p1 + k * s ≤ 10 ^ 60 := by
  have a1 : k * s ≤ k * 10 ^ 18 := Int.mul_le_mul_of_nonneg_left h.s2 k0
  have a2 : k * (-(10 ^ 18)) ≤ k * s := Int.mul_le_mul_of_nonneg_left h.s1 k0
  have := h.a1
  have := h.a2
  omega
theorem cp_bound {p1 s p2 t f d : Int} {l : Option Int} (h : GrP p1 s p2 t) (c : CP p1 s p2 t (some (f, l, d))) : (-(10 ^ 60) ≤ f ∧ f ≤ 10 ^ 60) ∧ (∀ x, l = some x → -(10 ^ 60) ≤ x ∧ x ≤ 10 ^ 60) ∧ 0 < d ∧ d ≤ 10 ^ 60 := by
  obtain ⟨⟨k, hk, hm, hf⟩, hl, hd⟩ := c
  refine ⟨?_, fun x ex => ?_, ?_⟩
  · rw [hf]
    exact com_at h hk.1 (com_min h hk hm)
  · subst ex
    obtain ⟨neg, k2, c2, m2, e2⟩ := hl
    rw [e2]
    exact com_at h c2.1 (com_max h c2 neg)
  · have tn := h.tn
    have sn := h.sn
    have t1 := h.t1
    have t2 := h.t2
    have s1 := h.s1
    have s2 := h.s2
    have g0 : 0 < (Int.gcd s t : Int) := by
      have := Int.gcd_pos_of_ne_zero_left t sn
      omega
    have h1 : 0 < (t.natAbs : Int) / (Int.gcd s t : Int) := Int.ediv_pos_of_pos_of_dvd (by omega) (by omega) (Int.dvd_natAbs.mpr (Int.gcd_dvd_right s t))
    have h2 := Int.ediv_le_self (Int.gcd s t : Int) (show 0 ≤ (t.natAbs : Int) by omega)
    have m1 : (s.natAbs : Int) * ((t.natAbs : Int) / (Int.gcd s t : Int)) ≤ (s.natAbs : Int) * 10 ^ 18 := Int.mul_le_mul_of_nonneg_left (by omega) (by omega)
    have m0 : 0 < (s.natAbs : Int) * ((t.natAbs : Int) / (Int.gcd s t : Int)) := Int.mul_pos (by omega) h1
    rw [← hd] at m0 m1
    omega
/-- a planted post lies a multiple of the distance behind the first one -/
theorem cp_gap {p1 s p2 t f d x k j : Int} {l : Option Int} (sn : s ≠ 0) (tn : t ≠ 0) (c : CP p1 s p2 t (some (f, l, d))) (k0 : 0 ≤ k) (hx : x = p1 + k * s) (j0 : 0 ≤ j) (hy : x = p2 + j * t) : (x - f) % d = 0 ∧ 0 ≤ (x - f) * s := by
  obtain ⟨⟨k1, ⟨k10, j1, j10, e1⟩, hm, hf⟩, _, hd⟩ := c
  have le := hm k ⟨k0, j, j0, by omega⟩
  have ex : x - f = (k - k1) * s := by rw [hx, hf]; grind
  have g0 : 0 < (Int.gcd s t : Int) := by
    have := Int.gcd_pos_of_ne_zero_left t sn
    omega
  refine ⟨Int.emod_eq_zero_of_dvd ?_, ?_⟩
  · obtain ⟨a, ha⟩ := Int.gcd_dvd_left s t
    obtain ⟨b, hb⟩ := Int.gcd_dvd_right s t
    have eb : t / (Int.gcd s t : Int) = b := by
      conv => lhs; lhs; rw [hb]
      exact Int.mul_ediv_cancel_left b (by omega)
    have ea : s / (Int.gcd s t : Int) = a := by
      conv => lhs; lhs; rw [ha]
      exact Int.mul_ediv_cancel_left a (by omega)
    have co : Int.gcd b a = 1 := by
      rw [Int.gcd_comm, ← ea, ← eb]
      exact Int.gcd_ediv_gcd_ediv_gcd (by have := Int.gcd_pos_of_ne_zero_left t sn; omega)
    have eq : (k - k1) * s = (j - j1) * t := by grind
    have eq2 : (k - k1) * a = (j - j1) * b := by
      have : (Int.gcd s t : Int) * ((k - k1) * a) = (Int.gcd s t : Int) * ((j - j1) * b) := by
        generalize (Int.gcd s t : Int) = g at ha hb ⊢
        grind
      exact Int.eq_of_mul_eq_mul_left (by omega) this
    have dv : b ∣ (k - k1) := by
      have h1 : b.natAbs ∣ (k - k1).natAbs * a.natAbs := by
        rw [← Int.natAbs_mul]
        exact Int.natAbs_dvd_natAbs.mpr ⟨j - j1, by rw [eq2, Int.mul_comm]⟩
      exact Int.natAbs_dvd_natAbs.mp (Nat.Coprime.dvd_of_dvd_mul_right (show Nat.Coprime b.natAbs a.natAbs from co) h1)
    have en : (t.natAbs : Int) / (Int.gcd s t : Int) = b.natAbs := by
      have h1 : (t.natAbs : Int) = (Int.gcd s t : Int) * (b.natAbs : Int) := by
        conv => lhs; rw [hb]
        rw [Int.natAbs_mul]
        simp
      rw [h1]
      exact Int.mul_ediv_cancel_left _ (by omega)
    rw [hd, ex, en, Int.mul_comm (k - k1) s]
    exact Int.mul_dvd_mul (Int.natAbs_dvd.mpr (Int.dvd_refl s)) (Int.natAbs_dvd.mpr dv)
  · rw [ex, Int.mul_assoc]
    have : 0 ≤ s * s := by
      rcases Int.lt_or_gt_of_ne sn with h | h
      · exact Int.le_of_lt (Int.mul_pos_of_neg_of_neg h h)
      · exact Int.le_of_lt (Int.mul_pos h h)
    exact Int.mul_nonneg (by omega) this
end KP

namespace KP
open PySem PySem.Spec PyProof.Rows L2
/-! ### the text -/
def topS (i : Nat) : Stmt := PySem.Challenge.pw_paintposts_k11_first_block_of_great_numb.main.body.getD i (.Pass ⟨0, 0, 0, 0⟩)

abbrev s_is_integer : Stmt := topS 9
abbrev N_is_integer : List Str := ["value"]
abbrev P_is_integer : List Str := ["value"]
theorem sc_is_integer : FnScope N_is_integer P_is_integer (defScope s_is_integer) := ⟨rfl, rfl, rfl, by decide +kernel, rfl, by decide +kernel, by decide +kernel⟩
abbrev s_is_between : Stmt := topS 10
abbrev N_is_between : List Str := ["value", "low", "high"]
abbrev P_is_between : List Str := ["value", "low", "high"]
theorem sc_is_between : FnScope N_is_between P_is_between (defScope s_is_between) := ⟨rfl, rfl, rfl, by decide +kernel, rfl, by decide +kernel, by decide +kernel⟩
abbrev s_inverse : Stmt := topS 13
abbrev N_inverse : List Str := ["number", "modulus", "one", "other", "first", "second", "turns"]
abbrev P_inverse : List Str := ["number", "modulus"]
theorem sc_inverse : FnScope N_inverse P_inverse (defScope s_inverse) := ⟨rfl, rfl, rfl, by decide +kernel, rfl, by decide +kernel, by decide +kernel⟩
abbrev s_greatest_divisor : Stmt := topS 14
abbrev N_greatest_divisor : List Str := ["one", "other"]
abbrev P_greatest_divisor : List Str := ["one", "other"]
theorem sc_greatest_divisor : FnScope N_greatest_divisor P_greatest_divisor (defScope s_greatest_divisor) := ⟨rfl, rfl, rfl, by decide +kernel, rfl, by decide +kernel, by decide +kernel⟩
abbrev s_least_fit : Stmt := topS 15
abbrev N_least_fit : List Str := ["conditions", "low", "high", "base", "growth", "bound"]
abbrev P_least_fit : List Str := ["conditions"]
theorem sc_least_fit : FnScope N_least_fit P_least_fit (defScope s_least_fit) := ⟨rfl, rfl, rfl, by decide +kernel, rfl, by decide +kernel, by decide +kernel⟩
abbrev s_Crossing_init : Stmt := inClass (topS 16) 0
abbrev N_Crossing_init : List Str := ["self", "one", "other", "stride", "other_stride", "divisor", "gap", "rest"]
abbrev P_Crossing_init : List Str := ["self", "one", "other"]
theorem sc_Crossing_init : FnScope N_Crossing_init P_Crossing_init (defScope s_Crossing_init) := ⟨rfl, rfl, rfl, by decide +kernel, rfl, by decide +kernel, by decide +kernel⟩
abbrev s_Crossing_number : Stmt := inClass (topS 16) 1
abbrev N_Crossing_number : List Str := ["self", "m"]
abbrev P_Crossing_number : List Str := ["self", "m"]
theorem sc_Crossing_number : FnScope N_Crossing_number P_Crossing_number (defScope s_Crossing_number) := ⟨rfl, rfl, rfl, by decide +kernel, rfl, by decide +kernel, by decide +kernel⟩
abbrev s_Crossing_bounds : Stmt := inClass (topS 16) 4
abbrev N_Crossing_bounds : List Str := ["self", "more"]
abbrev P_Crossing_bounds : List Str := ["self", "more"]
theorem sc_Crossing_bounds : FnScope N_Crossing_bounds P_Crossing_bounds (defScope s_Crossing_bounds) := ⟨rfl, rfl, rfl, by decide +kernel, rfl, by decide +kernel, by decide +kernel⟩
abbrev s_need_count : Stmt := topS 11
abbrev N_need_count : List Str := ["value", "limit"]
abbrev P_need_count : List Str := ["value", "limit"]
theorem sc_need_count : FnScope N_need_count P_need_count (defScope s_need_count) := ⟨rfl, rfl, rfl, by decide +kernel, rfl, by decide +kernel, by decide +kernel⟩
abbrev s_Crossing_first_block : Stmt := inClass (topS 16) 5
abbrev N_Crossing_first_block : List Str := ["self", "count", "is_earlier", "late", "more", "low", "high"]
abbrev P_Crossing_first_block : List Str := ["self", "count", "is_earlier"]
theorem sc_Crossing_first_block : FnScope N_Crossing_first_block P_Crossing_first_block (defScope s_Crossing_first_block) := ⟨rfl, rfl, rfl, by decide +kernel, rfl, by decide +kernel, by decide +kernel⟩
abbrev s_first_block : Stmt := topS 17
abbrev N_first_block : List Str := ["one", "other", "count", "is_earlier"]
abbrev P_first_block : List Str := ["one", "other", "count", "is_earlier"]
theorem sc_first_block : FnScope N_first_block P_first_block (defScope s_first_block) := ⟨rfl, rfl, rfl, by decide +kernel, rfl, by decide +kernel, by decide +kernel⟩
abbrev s_is_name : Stmt := topS 20
abbrev N_is_name : List Str := ["value", "letter"]
abbrev P_is_name : List Str := ["value"]
theorem sc_is_name : FnScope N_is_name P_is_name (defScope s_is_name) := ⟨rfl, rfl, rfl, by decide +kernel, rfl, by decide +kernel, by decide +kernel⟩
abbrev s_Painter_init : Stmt := inClass (topS 28) 3
abbrev N_Painter_init : List Str := ["self", "name", "day", "post", "stride"]
abbrev P_Painter_init : List Str := ["self", "name", "day", "post", "stride"]
theorem sc_Painter_init : FnScope N_Painter_init P_Painter_init (defScope s_Painter_init) := ⟨rfl, rfl, rfl, by decide +kernel, rfl, by decide +kernel, by decide +kernel⟩
abbrev s_Painter_way : Stmt := inClass (topS 28) 10
abbrev N_Painter_way : List Str := ["self"]
abbrev P_Painter_way : List Str := ["self"]
theorem sc_Painter_way : FnScope N_Painter_way P_Painter_way (defScope s_Painter_way) := ⟨rfl, rfl, rfl, by decide +kernel, rfl, by decide +kernel, by decide +kernel⟩
abbrev s_pen : Stmt := topS 30
abbrev N_pen : List Str := ["_law_script"]
abbrev P_pen : List Str := ["_law_script"]
theorem sc_pen : FnScope N_pen P_pen (defScope s_pen) := ⟨rfl, rfl, rfl, by decide +kernel, rfl, by decide +kernel, by decide +kernel⟩
abbrev s_draw : Stmt := topS 31
abbrev N_draw : List Str := ["_law_pen_here", "_law_many", "_law_digit", "_law_site", "_law_cell", "_law_mixed"]
abbrev P_draw : List Str := ["_law_pen_here", "_law_many"]
theorem sc_draw : FnScope N_draw P_draw (defScope s_draw) := ⟨rfl, rfl, rfl, by decide +kernel, rfl, by decide +kernel, by decide +kernel⟩
abbrev s_pick : Stmt := topS 32
abbrev N_pick : List Str := ["_law_pen_here", "_law_options"]
abbrev P_pick : List Str := ["_law_pen_here", "_law_options"]
theorem sc_pick : FnScope N_pick P_pick (defScope s_pick) := ⟨rfl, rfl, rfl, by decide +kernel, rfl, by decide +kernel, by decide +kernel⟩
abbrev s_power : Stmt := topS 33
abbrev N_power : List Str := ["_law_figures", "_law_found", "_law_k"]
abbrev P_power : List Str := ["_law_figures"]
theorem sc_power : FnScope N_power P_power (defScope s_power) := ⟨rfl, rfl, rfl, by decide +kernel, rfl, by decide +kernel, by decide +kernel⟩
abbrev s_great : Stmt := topS 34
abbrev N_great : List Str := ["_law_pen_here", "_law_figures", "_law_most", "_law_some"]
abbrev P_great : List Str := ["_law_pen_here", "_law_figures"]
theorem sc_great : FnScope N_great P_great (defScope s_great) := ⟨rfl, rfl, rfl, by decide +kernel, rfl, by decide +kernel, by decide +kernel⟩
abbrev s_names : Stmt := topS 35
abbrev N_names : List Str := ["_law_pen_here", "_law_many", "_law_letters", "_law_stem", "_law_front", "_law_found", "_law_step", "_law_k", "_law_own", "_law_tail"]
abbrev P_names : List Str := ["_law_pen_here", "_law_many"]
theorem sc_names : FnScope N_names P_names (defScope s_names) := ⟨rfl, rfl, rfl, by decide +kernel, rfl, by decide +kernel, by decide +kernel⟩
abbrev s_linverse : Stmt := topS 36
abbrev N_linverse : List Str := ["_law_thing", "_law_size", "_law_this", "_law_that", "_law_front", "_law_second", "_law_times"]
abbrev P_linverse : List Str := ["_law_thing", "_law_size"]
theorem sc_linverse : FnScope N_linverse P_linverse (defScope s_linverse) := ⟨rfl, rfl, rfl, by decide +kernel, rfl, by decide +kernel, by decide +kernel⟩
abbrev s_lgcd : Stmt := topS 37
abbrev N_lgcd : List Str := ["_law_this", "_law_that"]
abbrev P_lgcd : List Str := ["_law_this", "_law_that"]
theorem sc_lgcd : FnScope N_lgcd P_lgcd (defScope s_lgcd) := ⟨rfl, rfl, rfl, by decide +kernel, rfl, by decide +kernel, by decide +kernel⟩
abbrev s_lcommon : Stmt := topS 38
abbrev N_lcommon : List Str := ["_law_this", "_law_that", "_law_gap", "_law_part", "_law_period", "_law_k", "_law_j"]
abbrev P_lcommon : List Str := ["_law_this", "_law_that"]
theorem sc_lcommon : FnScope N_lcommon P_lcommon (defScope s_lcommon) := ⟨rfl, rfl, rfl, by decide +kernel, rfl, by decide +kernel, by decide +kernel⟩
abbrev s_made : Stmt := topS 39
abbrev N_made : List Str := ["_law_painter", "_law_name", "_law_start", "_law_post", "_law_stride"]
abbrev P_made : List Str := ["_law_painter"]
theorem sc_made : FnScope N_made P_made (defScope s_made) := ⟨rfl, rfl, rfl, by decide +kernel, rfl, by decide +kernel, by decide +kernel⟩
abbrev s_great_duo : Stmt := topS 40
abbrev N_great_duo : List Str := ["_law_pen_here", "_law_names_here", "_law_hub", "_law_found", "_law_lot", "_law_base", "_law_k", "_law_stride", "_law_steps", "_law_start"]
abbrev P_great_duo : List Str := ["_law_pen_here"]
theorem sc_great_duo : FnScope N_great_duo P_great_duo (defScope s_great_duo) := ⟨rfl, rfl, rfl, by decide +kernel, rfl, by decide +kernel, by decide +kernel⟩
abbrev s_steps_to : Stmt := topS 41
abbrev N_steps_to : List Str := ["_law_painter", "_law_post", "_law_steps"]
abbrev P_steps_to : List Str := ["_law_painter", "_law_post"]
theorem sc_steps_to : FnScope N_steps_to P_steps_to (defScope s_steps_to) := ⟨rfl, rfl, rfl, by decide +kernel, rfl, by decide +kernel, by decide +kernel⟩
abbrev s_block : Stmt := topS 42
abbrev N_block : List Str := ["_law_one", "_law_other", "_law_limit", "_law_is_ahead", "_law_common_here", "_law_k", "_law_period", "_law_j", "_law_step", "_law_bounds", "_law_low", "_law_high", "_law_factor", "_law_free"]
abbrev P_block : List Str := ["_law_one", "_law_other", "_law_limit", "_law_is_ahead"]
theorem sc_block : FnScope N_block P_block (defScope s_block) := ⟨rfl, rfl, rfl, by decide +kernel, rfl, by decide +kernel, by decide +kernel⟩
abbrev s_is_block : Stmt := topS 43
abbrev N_is_block : List Str := ["_law_one", "_law_other", "_law_k", "_law_limit", "_law_is_ahead", "_law_steps", "_law_gap"]
abbrev P_is_block : List Str := ["_law_one", "_law_other", "_law_k", "_law_limit", "_law_is_ahead"]
theorem sc_is_block : FnScope N_is_block P_is_block (defScope s_is_block) := ⟨rfl, rfl, rfl, by decide +kernel, rfl, by decide +kernel, by decide +kernel⟩
abbrev s_law : Stmt := topS 44
abbrev N_law : List Str := ["_law_script", "_law_pen_here", "_law_turn", "_law_one", "_law_other", "_law_hub", "_law_a", "_law_b", "_law_mine", "_law_yours", "_law_steps", "_law_near", "_law_limits", "_law_limit", "_law_flag", "_law_told", "_law_period"]
abbrev P_law : List Str := ["_law_script"]
theorem sc_law : FnScope N_law P_law (defScope s_law) := ⟨rfl, rfl, rfl, by decide +kernel, rfl, by decide +kernel, by decide +kernel⟩
/-! ### what the top leaves -/
structure Tx (K : PySem.W.Frag) (mg : Str → Option Value) : Type where
  b_abs : mg "abs" = none
  b_all : mg "all" = none
  b_bool : mg "bool" = none
  b_divmod : mg "divmod" = none
  b_int : mg "int" = none
  b_isinstance : mg "isinstance" = none
  b_len : mg "len" = none
  b_list : mg "list" = none
  b_max : mg "max" = none
  b_min : mg "min" = none
  b_range : mg "range" = none
  b_repr : mg "repr" = none
  b_str : mg "str" = none
  g_is_integer : mg "is_integer" = some (.ref (He.ga K "is_integer"))
  g_is_between : mg "is_between" = some (.ref (He.ga K "is_between"))
  g_inverse : mg "inverse" = some (.ref (He.ga K "inverse"))
  g_greatest_divisor : mg "greatest_divisor" = some (.ref (He.ga K "greatest_divisor"))
  g_least_fit : mg "least_fit" = some (.ref (He.ga K "least_fit"))
  g_need_count : mg "need_count" = some (.ref (He.ga K "need_count"))
  g_first_block : mg "first_block" = some (.ref (He.ga K "first_block"))
  g_is_name : mg "is_name" = some (.ref (He.ga K "is_name"))
  g_pen : mg "_law_pen" = some (.ref (He.ga K "_law_pen"))
  g_draw : mg "_law_draw" = some (.ref (He.ga K "_law_draw"))
  g_pick : mg "_law_pick" = some (.ref (He.ga K "_law_pick"))
  g_power : mg "_law_power" = some (.ref (He.ga K "_law_power"))
  g_great : mg "_law_great" = some (.ref (He.ga K "_law_great"))
  g_names : mg "_law_names" = some (.ref (He.ga K "_law_names"))
  g_linverse : mg "_law_inverse" = some (.ref (He.ga K "_law_inverse"))
  g_lgcd : mg "_law_gcd" = some (.ref (He.ga K "_law_gcd"))
  g_lcommon : mg "_law_common" = some (.ref (He.ga K "_law_common"))
  g_made : mg "_law_made" = some (.ref (He.ga K "_law_made"))
  g_great_duo : mg "_law_great_duo" = some (.ref (He.ga K "_law_great_duo"))
  g_steps_to : mg "_law_steps_to" = some (.ref (He.ga K "_law_steps_to"))
  g_block : mg "_law_block" = some (.ref (He.ga K "_law_block"))
  g_is_block : mg "_law_is_block" = some (.ref (He.ga K "_law_is_block"))
  g_law : mg "law" = some (.ref (He.ga K "law"))
  g_is_name_names : mg "is_name_names" = some (.ref (He.ga K "is_name"))
  g_MAX_NAME : ∃ t, mg "MAX_NAME" = some (.int 8 t)
  g_LETTERS : ∃ t, mg "LETTERS" = some (.str "abcdefghijklmnopqrstuvwxyz" t)
  g_MAX_ARGUMENT : ∃ t, mg "MAX_ARGUMENT" = some (.int 100000000000000000000000000000000000000000000000000000000000000000000000000000000 t)
  g_Painter : mg "Painter" = some (.ref (He.ga K "Painter"))
  c_Painter : Cls K (He.ga K "Painter")
  k_Painter : Mk K (He.ga K "Painter") (He.ma K (He.ga K "Painter") "__init__")
  n_Painter_parts : NoAttr K (He.ga K "Painter") "parts"
  o_Painter_MAX_DAY : ∃ u, Con K (He.ga K "Painter") "MAX_DAY" (.int 1000000000000000000000000000000) u
  o_Painter_MAX_POST : ∃ u, Con K (He.ga K "Painter") "MAX_POST" (.int 1000000000000000000000000000000) u
  o_Painter_MAX_STRIDE : ∃ u, Con K (He.ga K "Painter") "MAX_STRIDE" (.int 1000000000000000000) u
  p_Painter_way : PropOf K (He.ga K "Painter") "way" (He.ma K (He.ga K "Painter") "way") (pgA K (He.ga K "Painter") "way")
  g_Crossing : mg "Crossing" = some (.ref (He.ga K "Crossing"))
  c_Crossing : Cls K (He.ga K "Crossing")
  k_Crossing : Mk K (He.ga K "Crossing") (He.ma K (He.ga K "Crossing") "__init__")
  n_Crossing_one : NoAttr K (He.ga K "Crossing") "one"
  n_Crossing_other : NoAttr K (He.ga K "Crossing") "other"
  n_Crossing_is_empty : NoAttr K (He.ga K "Crossing") "is_empty"
  n_Crossing_step : NoAttr K (He.ga K "Crossing") "step"
  n_Crossing_other_step : NoAttr K (He.ga K "Crossing") "other_step"
  n_Crossing_start : NoAttr K (He.ga K "Crossing") "start"
  n_Crossing_other_start : NoAttr K (He.ga K "Crossing") "other_start"
  m_Crossing_number : Meth K (He.ga K "Crossing") "number" (He.ma K (He.ga K "Crossing") "number")
  m_Crossing_bounds : Meth K (He.ga K "Crossing") "bounds" (He.ma K (He.ga K "Crossing") "bounds")
  m_Crossing_first_block : Meth K (He.ga K "Crossing") "first_block" (He.ma K (He.ga K "Crossing") "first_block")
  t_bounds : ∀ H : Hp, SqT K H (He.dflAt ("Crossing", some "bounds") 0 K) []
  fd_is_integer : FuncData
  fn_is_integer : FunD K "is_integer" "is_integer" (defArgs s_is_integer) (defBody s_is_integer) (defScope s_is_integer) [] [] (He.ga K "is_integer") fd_is_integer
  fd_is_between : FuncData
  fn_is_between : FunD K "is_between" "is_between" (defArgs s_is_between) (defBody s_is_between) (defScope s_is_between) [] [] (He.ga K "is_between") fd_is_between
  fd_inverse : FuncData
  fn_inverse : FunD K "inverse" "inverse" (defArgs s_inverse) (defBody s_inverse) (defScope s_inverse) [] [] (He.ga K "inverse") fd_inverse
  fd_greatest_divisor : FuncData
  fn_greatest_divisor : FunD K "greatest_divisor" "greatest_divisor" (defArgs s_greatest_divisor) (defBody s_greatest_divisor) (defScope s_greatest_divisor) [] [] (He.ga K "greatest_divisor") fd_greatest_divisor
  fd_least_fit : FuncData
  fn_least_fit : FunD K "least_fit" "least_fit" (defArgs s_least_fit) (defBody s_least_fit) (defScope s_least_fit) [] [] (He.ga K "least_fit") fd_least_fit
  fd_Crossing_init : FuncData
  fn_Crossing_init : FunD K "__init__" "Crossing.__init__" (defArgs s_Crossing_init) (defBody s_Crossing_init) (defScope s_Crossing_init) [] [] (He.ma K (He.ga K "Crossing") "__init__") fd_Crossing_init
  fd_Crossing_number : FuncData
  fn_Crossing_number : FunD K "number" "Crossing.number" (defArgs s_Crossing_number) (defBody s_Crossing_number) (defScope s_Crossing_number) [] [] (He.ma K (He.ga K "Crossing") "number") fd_Crossing_number
  fd_Crossing_bounds : FuncData
  fn_Crossing_bounds : FunD K "bounds" "Crossing.bounds" (defArgs s_Crossing_bounds) (defBody s_Crossing_bounds) (defScope s_Crossing_bounds) [.ref (He.dflAt ("Crossing", some "bounds") 0 K)] [] (He.ma K (He.ga K "Crossing") "bounds") fd_Crossing_bounds
  fd_need_count : FuncData
  fn_need_count : FunD K "need_count" "need_count" (defArgs s_need_count) (defBody s_need_count) (defScope s_need_count) [.int (10 ^ 80)] [] (He.ga K "need_count") fd_need_count
  fd_Crossing_first_block : FuncData
  fn_Crossing_first_block : FunD K "first_block" "Crossing.first_block" (defArgs s_Crossing_first_block) (defBody s_Crossing_first_block) (defScope s_Crossing_first_block) [] [] (He.ma K (He.ga K "Crossing") "first_block") fd_Crossing_first_block
  fd_first_block : FuncData
  fn_first_block : FunD K "first_block" "first_block" (defArgs s_first_block) (defBody s_first_block) (defScope s_first_block) [] [("count", .non), ("is_earlier", .bl false)] (He.ga K "first_block") fd_first_block
  fd_is_name : FuncData
  fn_is_name : FunD K "is_name" "is_name" (defArgs s_is_name) (defBody s_is_name) (defScope s_is_name) [] [] (He.ga K "is_name") fd_is_name
  fd_Painter_init : FuncData
  fn_Painter_init : FunD K "__init__" "Painter.__init__" (defArgs s_Painter_init) (defBody s_Painter_init) (defScope s_Painter_init) [] [] (He.ma K (He.ga K "Painter") "__init__") fd_Painter_init
  fd_Painter_way : FuncData
  fn_Painter_way : FunD K "way" "Painter.way" (defArgs s_Painter_way) (defBody s_Painter_way) (defScope s_Painter_way) [] [] (pgA K (He.ga K "Painter") "way") fd_Painter_way
  fd_pen : FuncData
  fn_pen : FunD K "_law_pen" "_law_pen" (defArgs s_pen) (defBody s_pen) (defScope s_pen) [] [] (He.ga K "_law_pen") fd_pen
  fd_draw : FuncData
  fn_draw : FunD K "_law_draw" "_law_draw" (defArgs s_draw) (defBody s_draw) (defScope s_draw) [] [] (He.ga K "_law_draw") fd_draw
  fd_pick : FuncData
  fn_pick : FunD K "_law_pick" "_law_pick" (defArgs s_pick) (defBody s_pick) (defScope s_pick) [] [] (He.ga K "_law_pick") fd_pick
  fd_power : FuncData
  fn_power : FunD K "_law_power" "_law_power" (defArgs s_power) (defBody s_power) (defScope s_power) [] [] (He.ga K "_law_power") fd_power
  fd_great : FuncData
  fn_great : FunD K "_law_great" "_law_great" (defArgs s_great) (defBody s_great) (defScope s_great) [] [] (He.ga K "_law_great") fd_great
  fd_names : FuncData
  fn_names : FunD K "_law_names" "_law_names" (defArgs s_names) (defBody s_names) (defScope s_names) [] [] (He.ga K "_law_names") fd_names
  fd_linverse : FuncData
  fn_linverse : FunD K "_law_inverse" "_law_inverse" (defArgs s_linverse) (defBody s_linverse) (defScope s_linverse) [] [] (He.ga K "_law_inverse") fd_linverse
  fd_lgcd : FuncData
  fn_lgcd : FunD K "_law_gcd" "_law_gcd" (defArgs s_lgcd) (defBody s_lgcd) (defScope s_lgcd) [] [] (He.ga K "_law_gcd") fd_lgcd
  fd_lcommon : FuncData
  fn_lcommon : FunD K "_law_common" "_law_common" (defArgs s_lcommon) (defBody s_lcommon) (defScope s_lcommon) [] [] (He.ga K "_law_common") fd_lcommon
  fd_made : FuncData
  fn_made : FunD K "_law_made" "_law_made" (defArgs s_made) (defBody s_made) (defScope s_made) [] [] (He.ga K "_law_made") fd_made
  fd_great_duo : FuncData
  fn_great_duo : FunD K "_law_great_duo" "_law_great_duo" (defArgs s_great_duo) (defBody s_great_duo) (defScope s_great_duo) [] [] (He.ga K "_law_great_duo") fd_great_duo
  fd_steps_to : FuncData
  fn_steps_to : FunD K "_law_steps_to" "_law_steps_to" (defArgs s_steps_to) (defBody s_steps_to) (defScope s_steps_to) [] [] (He.ga K "_law_steps_to") fd_steps_to
  fd_block : FuncData
  fn_block : FunD K "_law_block" "_law_block" (defArgs s_block) (defBody s_block) (defScope s_block) [] [] (He.ga K "_law_block") fd_block
  fd_is_block : FuncData
  fn_is_block : FunD K "_law_is_block" "_law_is_block" (defArgs s_is_block) (defBody s_is_block) (defScope s_is_block) [] [] (He.ga K "_law_is_block") fd_is_block
  fd_law : FuncData
  fn_law : FunD K "law" "law" (defArgs s_law) (defBody s_law) (defScope s_law) [] [] (He.ga K "law") fd_law
def exs : List Fct := [(He.Fa.free "abs").ok,
  (He.Fa.free "all").ok,
  (He.Fa.free "bool").ok,
  (He.Fa.free "divmod").ok,
  (He.Fa.free "int").ok,
  (He.Fa.free "isinstance").ok,
  (He.Fa.free "len").ok,
  (He.Fa.free "list").ok,
  (He.Fa.free "max").ok,
  (He.Fa.free "min").ok,
  (He.Fa.free "range").ok,
  (He.Fa.free "repr").ok,
  (He.Fa.free "str").ok,
  (He.Fa.glo "is_integer").ok,
  (He.Fa.glo "is_between").ok,
  (He.Fa.glo "inverse").ok,
  (He.Fa.glo "greatest_divisor").ok,
  (He.Fa.glo "least_fit").ok,
  (He.Fa.glo "need_count").ok,
  (He.Fa.glo "first_block").ok,
  (He.Fa.glo "is_name").ok,
  (He.Fa.glo "_law_pen").ok,
  (He.Fa.glo "_law_draw").ok,
  (He.Fa.glo "_law_pick").ok,
  (He.Fa.glo "_law_power").ok,
  (He.Fa.glo "_law_great").ok,
  (He.Fa.glo "_law_names").ok,
  (He.Fa.glo "_law_inverse").ok,
  (He.Fa.glo "_law_gcd").ok,
  (He.Fa.glo "_law_common").ok,
  (He.Fa.glo "_law_made").ok,
  (He.Fa.glo "_law_great_duo").ok,
  (He.Fa.glo "_law_steps_to").ok,
  (He.Fa.glo "_law_block").ok,
  (He.Fa.glo "_law_is_block").ok,
  (He.Fa.glo "law").ok,
  (fun K => (He.Fa.glo "is_name_names").ok K && decide (He.ga K "is_name_names" = He.ga K "is_name")),
  (He.Fa.int "MAX_NAME" 8).ok,
  (He.Fa.str "LETTERS" "abcdefghijklmnopqrstuvwxyz").ok,
  (He.Fa.int "MAX_ARGUMENT" 100000000000000000000000000000000000000000000000000000000000000000000000000000000).ok,
  (He.Fa.glo "Painter").ok,
  (He.Fa.cls "Painter").ok,
  (He.Fa.mkr "Painter").ok,
  (He.Fa.noat "Painter" "parts").ok,
  (fun K => He.conB K "Painter" "MAX_DAY" (.int 1000000000000000000000000000000)),
  (fun K => He.conB K "Painter" "MAX_POST" (.int 1000000000000000000000000000000)),
  (fun K => He.conB K "Painter" "MAX_STRIDE" (.int 1000000000000000000)),
  (propB "Painter" "way"),
  (He.Fa.glo "Crossing").ok,
  (He.Fa.cls "Crossing").ok,
  (He.Fa.mkr "Crossing").ok,
  (He.Fa.noat "Crossing" "one").ok,
  (He.Fa.noat "Crossing" "other").ok,
  (He.Fa.noat "Crossing" "is_empty").ok,
  (He.Fa.noat "Crossing" "step").ok,
  (He.Fa.noat "Crossing" "other_step").ok,
  (He.Fa.noat "Crossing" "start").ok,
  (He.Fa.noat "Crossing" "other_start").ok,
  (He.Fa.meth "Crossing" "number").ok,
  (He.Fa.meth "Crossing" "bounds").ok,
  (He.Fa.meth "Crossing" "first_block").ok,
  (tup0B (He.dflAt ("Crossing", some "bounds") 0))]
def d_is_integer : He5.DefA := ⟨fun K => He.ga K "is_integer", "is_integer", "is_integer", defArgs s_is_integer, defBody s_is_integer, defScope s_is_integer, [], []⟩
def d_is_between : He5.DefA := ⟨fun K => He.ga K "is_between", "is_between", "is_between", defArgs s_is_between, defBody s_is_between, defScope s_is_between, [], []⟩
def d_inverse : He5.DefA := ⟨fun K => He.ga K "inverse", "inverse", "inverse", defArgs s_inverse, defBody s_inverse, defScope s_inverse, [], []⟩
def d_greatest_divisor : He5.DefA := ⟨fun K => He.ga K "greatest_divisor", "greatest_divisor", "greatest_divisor", defArgs s_greatest_divisor, defBody s_greatest_divisor, defScope s_greatest_divisor, [], []⟩
def d_least_fit : He5.DefA := ⟨fun K => He.ga K "least_fit", "least_fit", "least_fit", defArgs s_least_fit, defBody s_least_fit, defScope s_least_fit, [], []⟩
def d_Crossing_init : He5.DefA := ⟨fun K => He.ma K (He.ga K "Crossing") "__init__", "__init__", "Crossing.__init__", defArgs s_Crossing_init, defBody s_Crossing_init, defScope s_Crossing_init, [], []⟩
def d_Crossing_number : He5.DefA := ⟨fun K => He.ma K (He.ga K "Crossing") "number", "number", "Crossing.number", defArgs s_Crossing_number, defBody s_Crossing_number, defScope s_Crossing_number, [], []⟩
def d_Crossing_bounds : He5.DefA := ⟨fun K => He.ma K (He.ga K "Crossing") "bounds", "bounds", "Crossing.bounds", defArgs s_Crossing_bounds, defBody s_Crossing_bounds, defScope s_Crossing_bounds, [.adr (He.dflAt ("Crossing", some "bounds") 0)], []⟩
def d_need_count : He5.DefA := ⟨fun K => He.ga K "need_count", "need_count", "need_count", defArgs s_need_count, defBody s_need_count, defScope s_need_count, [.int (10 ^ 80)], []⟩
def d_Crossing_first_block : He5.DefA := ⟨fun K => He.ma K (He.ga K "Crossing") "first_block", "first_block", "Crossing.first_block", defArgs s_Crossing_first_block, defBody s_Crossing_first_block, defScope s_Crossing_first_block, [], []⟩
def d_first_block : He5.DefA := ⟨fun K => He.ga K "first_block", "first_block", "first_block", defArgs s_first_block, defBody s_first_block, defScope s_first_block, [], [("count", .non), ("is_earlier", .bl false)]⟩
def d_is_name : He5.DefA := ⟨fun K => He.ga K "is_name", "is_name", "is_name", defArgs s_is_name, defBody s_is_name, defScope s_is_name, [], []⟩
def d_Painter_init : He5.DefA := ⟨fun K => He.ma K (He.ga K "Painter") "__init__", "__init__", "Painter.__init__", defArgs s_Painter_init, defBody s_Painter_init, defScope s_Painter_init, [], []⟩
def d_Painter_way : He5.DefA := ⟨fun K => pgA K (He.ga K "Painter") "way", "way", "Painter.way", defArgs s_Painter_way, defBody s_Painter_way, defScope s_Painter_way, [], []⟩
def d_pen : He5.DefA := ⟨fun K => He.ga K "_law_pen", "_law_pen", "_law_pen", defArgs s_pen, defBody s_pen, defScope s_pen, [], []⟩
def d_draw : He5.DefA := ⟨fun K => He.ga K "_law_draw", "_law_draw", "_law_draw", defArgs s_draw, defBody s_draw, defScope s_draw, [], []⟩
def d_pick : He5.DefA := ⟨fun K => He.ga K "_law_pick", "_law_pick", "_law_pick", defArgs s_pick, defBody s_pick, defScope s_pick, [], []⟩
def d_power : He5.DefA := ⟨fun K => He.ga K "_law_power", "_law_power", "_law_power", defArgs s_power, defBody s_power, defScope s_power, [], []⟩
def d_great : He5.DefA := ⟨fun K => He.ga K "_law_great", "_law_great", "_law_great", defArgs s_great, defBody s_great, defScope s_great, [], []⟩
def d_names : He5.DefA := ⟨fun K => He.ga K "_law_names", "_law_names", "_law_names", defArgs s_names, defBody s_names, defScope s_names, [], []⟩
def d_linverse : He5.DefA := ⟨fun K => He.ga K "_law_inverse", "_law_inverse", "_law_inverse", defArgs s_linverse, defBody s_linverse, defScope s_linverse, [], []⟩
def d_lgcd : He5.DefA := ⟨fun K => He.ga K "_law_gcd", "_law_gcd", "_law_gcd", defArgs s_lgcd, defBody s_lgcd, defScope s_lgcd, [], []⟩
def d_lcommon : He5.DefA := ⟨fun K => He.ga K "_law_common", "_law_common", "_law_common", defArgs s_lcommon, defBody s_lcommon, defScope s_lcommon, [], []⟩
def d_made : He5.DefA := ⟨fun K => He.ga K "_law_made", "_law_made", "_law_made", defArgs s_made, defBody s_made, defScope s_made, [], []⟩
def d_great_duo : He5.DefA := ⟨fun K => He.ga K "_law_great_duo", "_law_great_duo", "_law_great_duo", defArgs s_great_duo, defBody s_great_duo, defScope s_great_duo, [], []⟩
def d_steps_to : He5.DefA := ⟨fun K => He.ga K "_law_steps_to", "_law_steps_to", "_law_steps_to", defArgs s_steps_to, defBody s_steps_to, defScope s_steps_to, [], []⟩
def d_block : He5.DefA := ⟨fun K => He.ga K "_law_block", "_law_block", "_law_block", defArgs s_block, defBody s_block, defScope s_block, [], []⟩
def d_is_block : He5.DefA := ⟨fun K => He.ga K "_law_is_block", "_law_is_block", "_law_is_block", defArgs s_is_block, defBody s_is_block, defScope s_is_block, [], []⟩
def d_law : He5.DefA := ⟨fun K => He.ga K "law", "law", "law", defArgs s_law, defBody s_law, defScope s_law, [], []⟩
def dfs : List He5.DefA := [d_is_integer, d_is_between, d_inverse, d_greatest_divisor, d_least_fit, d_Crossing_init, d_Crossing_number, d_Crossing_bounds, d_need_count, d_Crossing_first_block, d_first_block, d_is_name, d_Painter_init, d_Painter_way, d_pen, d_draw, d_pick, d_power, d_great, d_names, d_linverse, d_lgcd, d_lcommon, d_made, d_great_duo, d_steps_to, d_block, d_is_block, d_law]
theorem tx_of {K : PySem.W.Frag} {h : Heap} {mg : Str → Option Value} (X : K.In h) (G : h.Ns mainGlobals mg) (c : SaysM exs dfs K) : Nonempty (Tx K mg) := by
  obtain ⟨fd0, fn0⟩ := c.fn_ 0 (d := d_is_integer) rfl
  obtain ⟨fd1, fn1⟩ := c.fn_ 1 (d := d_is_between) rfl
  obtain ⟨fd2, fn2⟩ := c.fn_ 2 (d := d_inverse) rfl
  obtain ⟨fd3, fn3⟩ := c.fn_ 3 (d := d_greatest_divisor) rfl
  obtain ⟨fd4, fn4⟩ := c.fn_ 4 (d := d_least_fit) rfl
  obtain ⟨fd5, fn5⟩ := c.fn_ 5 (d := d_Crossing_init) rfl
  obtain ⟨fd6, fn6⟩ := c.fn_ 6 (d := d_Crossing_number) rfl
  obtain ⟨fd7, fn7⟩ := c.fn_ 7 (d := d_Crossing_bounds) rfl
  obtain ⟨fd8, fn8⟩ := c.fn_ 8 (d := d_need_count) rfl
  obtain ⟨fd9, fn9⟩ := c.fn_ 9 (d := d_Crossing_first_block) rfl
  obtain ⟨fd10, fn10⟩ := c.fn_ 10 (d := d_first_block) rfl
  obtain ⟨fd11, fn11⟩ := c.fn_ 11 (d := d_is_name) rfl
  obtain ⟨fd12, fn12⟩ := c.fn_ 12 (d := d_Painter_init) rfl
  obtain ⟨fd13, fn13⟩ := c.fn_ 13 (d := d_Painter_way) rfl
  obtain ⟨fd14, fn14⟩ := c.fn_ 14 (d := d_pen) rfl
  obtain ⟨fd15, fn15⟩ := c.fn_ 15 (d := d_draw) rfl
  obtain ⟨fd16, fn16⟩ := c.fn_ 16 (d := d_pick) rfl
  obtain ⟨fd17, fn17⟩ := c.fn_ 17 (d := d_power) rfl
  obtain ⟨fd18, fn18⟩ := c.fn_ 18 (d := d_great) rfl
  obtain ⟨fd19, fn19⟩ := c.fn_ 19 (d := d_names) rfl
  obtain ⟨fd20, fn20⟩ := c.fn_ 20 (d := d_linverse) rfl
  obtain ⟨fd21, fn21⟩ := c.fn_ 21 (d := d_lgcd) rfl
  obtain ⟨fd22, fn22⟩ := c.fn_ 22 (d := d_lcommon) rfl
  obtain ⟨fd23, fn23⟩ := c.fn_ 23 (d := d_made) rfl
  obtain ⟨fd24, fn24⟩ := c.fn_ 24 (d := d_great_duo) rfl
  obtain ⟨fd25, fn25⟩ := c.fn_ 25 (d := d_steps_to) rfl
  obtain ⟨fd26, fn26⟩ := c.fn_ 26 (d := d_block) rfl
  obtain ⟨fd27, fn27⟩ := c.fn_ 27 (d := d_is_block) rfl
  obtain ⟨fd28, fn28⟩ := c.fn_ 28 (d := d_law) rfl
  exact ⟨{
    b_abs := He.free_ok X G (c.fact 0 (f := (He.Fa.free "abs").ok) rfl)
    b_all := He.free_ok X G (c.fact 1 (f := (He.Fa.free "all").ok) rfl)
    b_bool := He.free_ok X G (c.fact 2 (f := (He.Fa.free "bool").ok) rfl)
    b_divmod := He.free_ok X G (c.fact 3 (f := (He.Fa.free "divmod").ok) rfl)
    b_int := He.free_ok X G (c.fact 4 (f := (He.Fa.free "int").ok) rfl)
    b_isinstance := He.free_ok X G (c.fact 5 (f := (He.Fa.free "isinstance").ok) rfl)
    b_len := He.free_ok X G (c.fact 6 (f := (He.Fa.free "len").ok) rfl)
    b_list := He.free_ok X G (c.fact 7 (f := (He.Fa.free "list").ok) rfl)
    b_max := He.free_ok X G (c.fact 8 (f := (He.Fa.free "max").ok) rfl)
    b_min := He.free_ok X G (c.fact 9 (f := (He.Fa.free "min").ok) rfl)
    b_range := He.free_ok X G (c.fact 10 (f := (He.Fa.free "range").ok) rfl)
    b_repr := He.free_ok X G (c.fact 11 (f := (He.Fa.free "repr").ok) rfl)
    b_str := He.free_ok X G (c.fact 12 (f := (He.Fa.free "str").ok) rfl)
    g_is_integer := He.glo_ok X G (c.fact 13 (f := (He.Fa.glo "is_integer").ok) rfl)
    g_is_between := He.glo_ok X G (c.fact 14 (f := (He.Fa.glo "is_between").ok) rfl)
    g_inverse := He.glo_ok X G (c.fact 15 (f := (He.Fa.glo "inverse").ok) rfl)
    g_greatest_divisor := He.glo_ok X G (c.fact 16 (f := (He.Fa.glo "greatest_divisor").ok) rfl)
    g_least_fit := He.glo_ok X G (c.fact 17 (f := (He.Fa.glo "least_fit").ok) rfl)
    g_need_count := He.glo_ok X G (c.fact 18 (f := (He.Fa.glo "need_count").ok) rfl)
    g_first_block := He.glo_ok X G (c.fact 19 (f := (He.Fa.glo "first_block").ok) rfl)
    g_is_name := He.glo_ok X G (c.fact 20 (f := (He.Fa.glo "is_name").ok) rfl)
    g_pen := He.glo_ok X G (c.fact 21 (f := (He.Fa.glo "_law_pen").ok) rfl)
    g_draw := He.glo_ok X G (c.fact 22 (f := (He.Fa.glo "_law_draw").ok) rfl)
    g_pick := He.glo_ok X G (c.fact 23 (f := (He.Fa.glo "_law_pick").ok) rfl)
    g_power := He.glo_ok X G (c.fact 24 (f := (He.Fa.glo "_law_power").ok) rfl)
    g_great := He.glo_ok X G (c.fact 25 (f := (He.Fa.glo "_law_great").ok) rfl)
    g_names := He.glo_ok X G (c.fact 26 (f := (He.Fa.glo "_law_names").ok) rfl)
    g_linverse := He.glo_ok X G (c.fact 27 (f := (He.Fa.glo "_law_inverse").ok) rfl)
    g_lgcd := He.glo_ok X G (c.fact 28 (f := (He.Fa.glo "_law_gcd").ok) rfl)
    g_lcommon := He.glo_ok X G (c.fact 29 (f := (He.Fa.glo "_law_common").ok) rfl)
    g_made := He.glo_ok X G (c.fact 30 (f := (He.Fa.glo "_law_made").ok) rfl)
    g_great_duo := He.glo_ok X G (c.fact 31 (f := (He.Fa.glo "_law_great_duo").ok) rfl)
    g_steps_to := He.glo_ok X G (c.fact 32 (f := (He.Fa.glo "_law_steps_to").ok) rfl)
    g_block := He.glo_ok X G (c.fact 33 (f := (He.Fa.glo "_law_block").ok) rfl)
    g_is_block := He.glo_ok X G (c.fact 34 (f := (He.Fa.glo "_law_is_block").ok) rfl)
    g_law := He.glo_ok X G (c.fact 35 (f := (He.Fa.glo "law").ok) rfl)
    g_is_name_names := (by have z := He.ba (c.fact 36 (f := (fun K => (He.Fa.glo "is_name_names").ok K && decide (He.ga K "is_name_names" = He.ga K "is_name"))) rfl); rw [← of_decide_eq_true z.2]; exact He.glo_ok X G z.1)
    g_MAX_NAME := He.int_ok X G (c.fact 37 (f := (He.Fa.int "MAX_NAME" 8).ok) rfl)
    g_LETTERS := He.str_ok X G (c.fact 38 (f := (He.Fa.str "LETTERS" "abcdefghijklmnopqrstuvwxyz").ok) rfl)
    g_MAX_ARGUMENT := He.int_ok X G (c.fact 39 (f := (He.Fa.int "MAX_ARGUMENT" 100000000000000000000000000000000000000000000000000000000000000000000000000000000).ok) rfl)
    g_Painter := He.glo_ok X G (c.fact 40 (f := (He.Fa.glo "Painter").ok) rfl)
    c_Painter := He.cls_ok (c.fact 41 (f := (He.Fa.cls "Painter").ok) rfl)
    k_Painter := He.mkr_ok (c.fact 42 (f := (He.Fa.mkr "Painter").ok) rfl)
    n_Painter_parts := He.noat_ok (c.fact 43 (f := (He.Fa.noat "Painter" "parts").ok) rfl)
    o_Painter_MAX_DAY := con_of (c.fact 44 (f := (fun K => He.conB K "Painter" "MAX_DAY" (.int 1000000000000000000000000000000))) rfl)
    o_Painter_MAX_POST := con_of (c.fact 45 (f := (fun K => He.conB K "Painter" "MAX_POST" (.int 1000000000000000000000000000000))) rfl)
    o_Painter_MAX_STRIDE := con_of (c.fact 46 (f := (fun K => He.conB K "Painter" "MAX_STRIDE" (.int 1000000000000000000))) rfl)
    p_Painter_way := propB_ok (c.fact 47 (f := (propB "Painter" "way")) rfl)
    g_Crossing := He.glo_ok X G (c.fact 48 (f := (He.Fa.glo "Crossing").ok) rfl)
    c_Crossing := He.cls_ok (c.fact 49 (f := (He.Fa.cls "Crossing").ok) rfl)
    k_Crossing := He.mkr_ok (c.fact 50 (f := (He.Fa.mkr "Crossing").ok) rfl)
    n_Crossing_one := He.noat_ok (c.fact 51 (f := (He.Fa.noat "Crossing" "one").ok) rfl)
    n_Crossing_other := He.noat_ok (c.fact 52 (f := (He.Fa.noat "Crossing" "other").ok) rfl)
    n_Crossing_is_empty := He.noat_ok (c.fact 53 (f := (He.Fa.noat "Crossing" "is_empty").ok) rfl)
    n_Crossing_step := He.noat_ok (c.fact 54 (f := (He.Fa.noat "Crossing" "step").ok) rfl)
    n_Crossing_other_step := He.noat_ok (c.fact 55 (f := (He.Fa.noat "Crossing" "other_step").ok) rfl)
    n_Crossing_start := He.noat_ok (c.fact 56 (f := (He.Fa.noat "Crossing" "start").ok) rfl)
    n_Crossing_other_start := He.noat_ok (c.fact 57 (f := (He.Fa.noat "Crossing" "other_start").ok) rfl)
    m_Crossing_number := He.meth_ok (c.fact 58 (f := (He.Fa.meth "Crossing" "number").ok) rfl)
    m_Crossing_bounds := He.meth_ok (c.fact 59 (f := (He.Fa.meth "Crossing" "bounds").ok) rfl)
    m_Crossing_first_block := He.meth_ok (c.fact 60 (f := (He.Fa.meth "Crossing" "first_block").ok) rfl)
    t_bounds := tup0B_ok (c.fact 61 (f := (tup0B (He.dflAt ("Crossing", some "bounds") 0))) rfl)
    fd_is_integer := fd0
    fn_is_integer := fn0
    fd_is_between := fd1
    fn_is_between := fn1
    fd_inverse := fd2
    fn_inverse := fn2
    fd_greatest_divisor := fd3
    fn_greatest_divisor := fn3
    fd_least_fit := fd4
    fn_least_fit := fn4
    fd_Crossing_init := fd5
    fn_Crossing_init := fn5
    fd_Crossing_number := fd6
    fn_Crossing_number := fn6
    fd_Crossing_bounds := fd7
    fn_Crossing_bounds := fn7
    fd_need_count := fd8
    fn_need_count := fn8
    fd_Crossing_first_block := fd9
    fn_Crossing_first_block := fn9
    fd_first_block := fd10
    fn_first_block := fn10
    fd_is_name := fd11
    fn_is_name := fn11
    fd_Painter_init := fd12
    fn_Painter_init := fn12
    fd_Painter_way := fd13
    fn_Painter_way := fn13
    fd_pen := fd14
    fn_pen := fn14
    fd_draw := fd15
    fn_draw := fn15
    fd_pick := fd16
    fn_pick := fn16
    fd_power := fd17
    fn_power := fn17
    fd_great := fd18
    fn_great := fn18
    fd_names := fd19
    fn_names := fn19
    fd_linverse := fd20
    fn_linverse := fn20
    fd_lgcd := fd21
    fn_lgcd := fn21
    fd_lcommon := fd22
    fn_lcommon := fn22
    fd_made := fd23
    fn_made := fn23
    fd_great_duo := fd24
    fn_great_duo := fn24
    fd_steps_to := fd25
    fn_steps_to := fn25
    fd_block := fd26
    fn_block := fn26
    fd_is_block := fd27
    fn_is_block := fn27
    fd_law := fd28
    fn_law := fn28
  }⟩
def loo0 : List Str := ["_wall", "InvalidPainter", "InvalidCount", "ParseError", "MAX_ARGUMENT", "MAX_NAME", "MAX_DIGITS", "is_integer", "is_between", "need_count", "inverse", "greatest_divisor", "least_fit", "Crossing", "first_block", "LETTERS", "is_name", "is_name_names", "DIGITS", "integer_in", "painter_line", "painter_parts", "Painter", "_law_pen", "_law_draw", "_law_pick", "_law_power", "_law_great", "_law_names", "_law_inverse"]
def loo1 : List Str := ["_law_gcd", "_law_common", "_law_made", "_law_great_duo", "_law_steps_to", "_law_block", "_law_is_block"]
def loo : List Str := loo0 ++ loo1
abbrev RR : PySem.W.OpenRow := PySem.W.OpenLaw.row PySem.Challenge.rw_paintposts_k11_first_block_of_great_numb
abbrev qq : Program := PySem.W.view RR.prog [44]
abbrev hk : PySem.W.Hook := hookM 7 exs dfs
def obh (s : PySem.W.SharedT) : He.AlD := obsMG 7 exs dfs (HandSHeadRun.getT s)
theorem obh_eq (s : PySem.W.SharedT) : obh s = hk.obs s.abs := obsMG_eq (HandSHeadRun.getT_eq s)
end KP

set_option maxHeartbeats 0
namespace KP
open PySem PySem.Spec PyProof.Rows L2
theorem runh (w : World) : HandSHeadRun.RunEq RR qq hk obh 20000 loo w := by
  intro os
  kernel_rfl
end KP

namespace KP
open PySem PySem.Spec PyProof.Rows L2
local macro_rules | `(tactic| walk_at "sc") => `(tactic| first | (show (0 : Int) < _; decide) | (show (0 : Int) < _; omega) | (refine ⟨?_, ?_, ?_, ?_⟩ <;> (first | omega | (unfold Big; omega))) | (refine ⟨?_, ?_, ?_⟩ <;> (first | omega | (unfold Big; omega))) | (refine ⟨?_, ?_⟩ <;> (first | omega | (unfold Big; omega))))
/-! ### draws -/
def dlim : Nat → Int
  | 0 => 60000000
  | d + 1 => 60000000 * (dlim d - 1)
theorem dlim_pos : ∀ d, 1 < dlim d
  | 0 => by decide
  | d + 1 => by
    have h := dlim_pos d
    show 1 < 60000000 * (dlim d - 1)
    omega
/-- a draw of a number below many, d calls deep at most -/
def spD (K : PySem.W.Frag) : Nat → Sp
  | 0 => fun _ _ _ _ => False
  | d + 1 => fun vs H Q _ => ∃ (p : Pid) (many b : Int), vs = [.ref p.a, .int many] ∧ Pen K H p b ∧ 0 < many ∧ many ≤ dlim d ∧ many < 10 ^ 150 ∧ b + d < 10 ^ 12 ∧
      ∀ (r : Int) (H' : Hp) (b' : Int), Ext p.a H H' → Pen K H' p b' → b' ≤ b + d + 1 → 0 ≤ r → r < many → Q (.int r) H'
section
variable {P : Program} {w : World} {K : PySem.W.Frag} {mg : Str → Option Value} {base : Heap}
theorem lay_ints : ∀ cs : List Int, PyData.canLayAll0 (cs.map PyData.int) = true ∧ PyData.depthAll (cs.map PyData.int) = 0
  | [] => ⟨rfl, rfl⟩
  | x :: r => by
    obtain ⟨h1, h2⟩ := lay_ints r
    constructor
    · show (PyData.canLay0 (.int x) && PyData.canLayAll0 (r.map PyData.int)) = true
      rw [h1]
      rfl
    · show max (PyData.depth (.int x)) (PyData.depthAll (r.map PyData.int)) = 0
      rw [h2]
      rfl
theorem dp_ints {K : PySem.W.Frag} {H : Hp} : ∀ cs : List Int, DpAll K H (cs.map V.int) (cs.map PyData.int)
  | [] => .nil
  | x :: r => .cons (.int x) (dp_ints r)
theorem shaped_ints (cs : List Int) (h : cs.length ≤ 1000) : SeqAt.shaped (.list (cs.map PyData.int)) = true := by
  obtain ⟨h1, h2⟩ := lay_ints cs
  show (PyData.canLayAll0 (cs.map PyData.int) && decide (PyData.depthAll (cs.map PyData.int) + 1 ≤ 64)) = true
  rw [h1, h2]
  rfl
theorem ok_draw (T : Tx K mg) : ∀ d : Nat, FnOk P w K mg base CX0 d (He.ga K "_law_draw") T.fd_draw P_draw (spD K d)
  | 0 => ⟨fun _ _ _ _ h => h.elim, fun _ _ _ _ _ _ _ _ _ _ _ _ _ h => h.elim⟩
  | d + 1 => by
    have c_draw : Cal P w K mg base d _ T.fd_draw P_draw (spD K d) := ⟨ok_draw T d, T.fn_draw.kp, FunD.bindsN T.fn_draw fun _ _ _ _ _ _ us hl => match us, hl with | [_, _], _ => rfl⟩
    refine T.fn_draw.ok sc_draw (fun vs H Q E h => ?_) (fun cdv A outer s H vs Q E hr h => ?_)
    · obtain ⟨p, many, b, rfl, _⟩ := h
      rfl
    · obtain ⟨⟨p, c, cs⟩, many, b, rfl, hP, h0, hl, hB, hb, q⟩ := h
      have hu := hu_of hr
      refine ⟨_, PSs.nox (pss_cons (ps_if (pt_cmpR op_gt (pe_dget hu (pv 0) pe_str (fun _ _ => rfl)) pe_int (nomark _)) (pss_cons (ps_set (i := 2) sc_draw.nd rfl (Or.inl rfl) (pe_op op_mod (pe_callTy call_int1 (by rfl) T.b_int PyProof.Rows.boot_int (pa_cons (pe_dget hu (pv 0) pe_str (fun _ _ => rfl)) pa_nil)) (pv 1)))
      (pss_cons (ps_dput hu (pv 0) pe_str (pe_op op_fdivB (pe_dget hu (pv 0) pe_str (fun _ _ => rfl)) (pv 1)) rfl)
      (pss_one (ps_ret (pv 2))))) pss_nil)
      (pss_cons (ps_set (i := 3) sc_draw.nd rfl (Or.inl rfl) (pe_dget hu (pv 0) pe_str (fun _ _ => rfl)))
      (pss_cons (ps_dput hu (pv 0) pe_str (pe_op op_add (pv 3) pe_int) rfl)
      (pss_cons (ps_set (i := 4) sc_draw.nd rfl (Or.inl rfl) (pe_op op_add (pe_op op_mulB pe_int (pv 3)) pe_int))
      (Evl.pss_cut (ps_if (pt_cmpR (op_neD hr.units) (pe_dget hu (pv 0) pe_str (fun _ _ => rfl)) (pe_lst pa_nil) (nomark _)) (pss_one (ps_set (i := 4) sc_draw.nd rfl (Or.inl rfl) (pe_ix ix_list (pe_dget hu (pv 0) pe_str (fun _ _ => rfl)) (pe_op op_mod (pe_callTy call_int1 (by rfl) T.b_int PyProof.Rows.boot_int (pa_cons (pv 3) pa_nil)) (pe_callB call_len_seq (by rfl) T.b_len PySem.boot_len (pa_cons (pe_dget hu (pv 0) pe_str (fun _ _ => rfl)) pa_nil))) (fun _ _ => rfl)))) pss_nil)
      (Evl.pss_cut (ps_if (PW.pt (pw_and (pt_cmpR op_lt (pv 3) (pe_callB call_len_seq (by rfl) T.b_len PySem.boot_len (pa_cons (pe_dget hu (pv 0) pe_str (fun _ _ => rfl)) pa_nil)) (nomark _)) (pw_and1 (pt_cmpR op_ge (pe_callB call_abs (by rfl) T.b_abs (by decide +kernel) (pa_cons (pv 4) pa_nil)) (ppow (c := 1000000000000000000) (by decide) (by decide +kernel)) (nomark _))))) (pss_cons (ps_dput hu (pv 0) pe_str (pe_op op_fdivB (pe_op op_sub (pe_callB call_abs (by rfl) T.b_abs (by decide +kernel) (pa_cons (pv 4) pa_nil)) (ppow (c := 1000000000000000000) (by decide) (by decide +kernel))) (pv 1)) rfl)
      (pss_one (ps_ret (pe_op op_mod (pe_op op_sub (pe_callB call_abs (by rfl) T.b_abs (by decide +kernel) (pa_cons (pv 4) pa_nil)) (ppow (c := 1000000000000000000) (by decide) (by decide +kernel))) (pv 1))))) pss_nil)
      (pss_cons (ps_set (i := 5) sc_draw.nd rfl (Or.inl rfl) (pe_op op_mod (pe_callTy call_int1 (by rfl) T.b_int PyProof.Rows.boot_int (pa_cons (pe_op op_add (pe_op op_add (pe_op op_mulB (pe_op op_mod (pe_callTy call_int1 (by rfl) T.b_int PyProof.Rows.boot_int (pa_cons (pv 4) pa_nil)) pe_int) pe_int) (pe_op op_mulB (pe_op op_mulB pe_int (pv 3)) (pv 3))) pe_int) pa_nil)) pe_int))
      (pss_cons (ps_set (i := 5) sc_draw.nd rfl (Or.inl rfl) (pe_op op_mod (pe_callTy call_int1 (by rfl) T.b_int PyProof.Rows.boot_int (pa_cons (pe_op op_add (pe_op op_add (pe_op op_add (pe_op op_mulB (pv 5) (pv 5)) (pe_op op_mulB pe_int (pv 5))) (pe_op op_mulB pe_int (pv 3))) pe_int) pa_nil)) pe_int))
      (pss_cons (ps_set (i := 5) sc_draw.nd rfl (Or.inl rfl) (pe_op op_fdivB (pe_op op_mod (pe_callTy call_int1 (by rfl) T.b_int PyProof.Rows.boot_int (pa_cons (pe_op op_mulB (pv 5) (pe_op op_add (pv 5) pe_int)) pa_nil)) pe_int) pe_int))
      (Evl.pss_cut (ps_if (pt_cmpR op_gt (pv 1) pe_int (nomark _)) (pss_one (ps_set (i := 5) sc_draw.nd rfl (Or.inl rfl) (pe_op op_add (pe_op op_mod (pe_callTy call_int1 (by rfl) T.b_int PyProof.Rows.boot_int (pa_cons (pv 5) pa_nil)) pe_int) (pe_op op_mulB pe_int (pe_call c_draw.F hr (by rfl) T.g_draw c_draw.kp c_draw.b .nil pass0 (pa_cons (pv 0) (pa_cons (pe_op op_add (pe_op op_fdivB (pv 1) pe_int) pe_int) pa_nil))))))) pss_nil)
      (pss_one (ps_ret (pe_op op_mod (pe_callTy call_int1 (by rfl) T.b_int PyProof.Rows.boot_int (pa_cons (pv 5) pa_nil)) (pv 1)))))))))))))), ?_⟩
      obtain ⟨r, hp, hc, hn, hb0, hr0⟩ := hP
      replace hp : H p = some (penO c b r) := hp
      replace hc : SqL K H c (cs.map V.int) := hc
      replace hn : cs.length ≤ 63 := hn
      have big : many < Big := by
        unfold Big
        omega
      -- if rest > 0
      refine ⟨.ref p, rfl, p, .int r, rfl, pen_rest hp, r, 0, rfl, rfl, _, rfl, ite2 (fun e => ?_) (fun e => ?_)⟩
      · refine ⟨.ref p, rfl, p, .int r, rfl, pen_rest hp, .inl ⟨r, rfl, .int many, rfl, r, many, rfl, rfl, h0, ?_⟩⟩
        refine ⟨.ref p, rfl, p, .int r, rfl, pen_rest hp, .int many, rfl, r, many, rfl, rfl, ⟨h0, big⟩, .ref p, rfl, p, _, rfl, put_rest hp (r / many), ?_⟩
        refine ⟨_, rfl, q (r % many) _ b (Ext.put hp) ⟨r / many, upd_same, (Ext.put hp).l hc, hn, hb0, Int.ediv_nonneg hr0 (by omega)⟩ (by omega) (Int.emod_nonneg _ (by omega)) (Int.emod_lt_of_pos _ h0)⟩
      · have rz : r = 0 := by
          have := of_decide_eq_false (Bool.eq_false_iff.mpr e)
          omega
        -- site, begun
        refine ⟨.ref p, rfl, p, .int b, rfl, pen_begun hp, ?_⟩
        refine ⟨.int b, rfl, b, 1, rfl, rfl, .ref p, rfl, p, _, rfl, put_begun hp (b + 1), ?_⟩
        have e1 : Ext p H (upd H p (penO c (b + 1) r)) := Ext.put hp
        have hp1 : (upd H p (penO c (b + 1) r)) p = some (penO c (b + 1) r) := upd_same
        have hc1 := e1.l hc
        generalize upd H p (penO c (b + 1) r) = H1 at e1 hp1 hc1 ⊢
        -- cell = 61 * site + 7
        refine ⟨.int b, rfl, 61, b, rfl, rfl, ⟨by decide, by decide, by unfold Big; omega, by unfold Big; omega⟩, _, 7, rfl, rfl, ?_⟩
        refine ⟨fun σ' H' => ∃ v : Int, σ' = [some (.ref p), some (.int many), none, some (.int b), some (.int v), none] ∧ Ext p H H' ∧ H' p = some (penO c (b + 1) r) ∧ SqL K H' c (cs.map V.int), ?_, fun σ' H' hM => ?_⟩
        · -- if cells != []
          refine ⟨.ref p, rfl, p, .ref c, rfl, pen_cells hp1, Nat.zero_le _, fun l nl => ?_⟩
          have e2 : Ext p H1 (upd H1 l (.lst [])) := Ext.new ⟨_, hp1⟩ nl
          have hp2 : (upd H1 l (.lst [])) p = some (penO c (b + 1) r) := by
            rw [upd_ne (ne_of_none hp1 nl)]
            exact hp1
          have hl2 : (upd H1 l (.lst [])) l = some (.lst []) := upd_same
          have hc2 := e2.l hc1
          generalize upd H1 l (.lst []) = H2 at e2 hp2 hc2 hl2 ⊢
          refine ⟨.list (cs.map PyData.int), .list [], .lst hc2 (dp_ints cs), .lst (SqL.of hl2) .nil, shaped_ints cs (by omega), rfl, _, rfl, ite2 (fun e => ?_) (fun e => ?_)⟩
          · have ne : cs ≠ [] := fun z => by
              subst z
              cases e
            have lp : 0 < cs.length := List.length_pos_iff.mpr ne
            refine ⟨.ref p, rfl, p, .ref c, rfl, pen_cells hp2, .int b, rfl, .inl ⟨b, rfl, .ref p, rfl, p, .ref c, rfl, pen_cells hp2, c, _, rfl, .inl hc2, b, _, rfl, rfl, ?_, ?_⟩⟩
            · rw [List.length_map]
              show (0 : Int) < cs.length
              omega
            · rw [List.length_map]
              have i0 : 0 ≤ b % (cs.length : Int) := Int.emod_nonneg _ (by omega)
              have i1 : b % (cs.length : Int) < cs.length := Int.emod_lt_of_pos _ (by omega)
              obtain ⟨i, ei⟩ := Int.eq_ofNat_of_zero_le i0
              have il : i < cs.length := by omega
              refine ⟨c, _, _, .int cs[i], rfl, rfl, hc2, ?_, ⟨cs[i], rfl, e1.trans e2, hp2, hc2⟩⟩
              rw [ei]
              exact atI_nat (by rw [List.getElem?_map, List.getElem?_eq_getElem il]; rfl)
          · exact ⟨_, rfl, e1.trans e2, hp2, hc2⟩
        · obtain ⟨v, rfl, e2, hp2, hc2⟩ := hM
          clear e1 hp1 hc1
          have ab : 0 ≤ (if v < 0 then -v else v) := by split <;> omega
          -- if site < len(cells) and abs(cell) >= 10 ** 18
          refine ⟨fun σ3 H3 => σ3 = [some (.ref p), some (.int many), none, some (.int b), some (.int v), none] ∧ H3 = H', ?_, ?_⟩
          · refine ⟨.int b, rfl, .ref p, rfl, p, .ref c, rfl, pen_cells hp2, c, _, rfl, .inl hc2, b, _, rfl, rfl, _, rfl, ite2 (fun e3 => ?_) (fun e3 => ?_)⟩
            · refine ⟨.int v, rfl, v, rfl, _, _, rfl, rfl, _, rfl, ite2 (fun e4 => ?_) (fun e4 => ?_)⟩
              · have ge := of_decide_eq_true e4
                refine ⟨.int v, rfl, v, rfl, _, _, rfl, rfl, .int many, rfl, _, many, rfl, rfl, ⟨h0, big⟩, .ref p, rfl, p, _, rfl, put_rest hp2 _, ?_⟩
                have e5 := Ext.put (kvs' := [(.inr "cells", .ref c), (.inr "begun", .int (b + 1)), (.inr "rest", .int (((if v < 0 then -v else v) - 1000000000000000000) / many))]) hp2
                refine ⟨.int v, rfl, v, rfl, _, _, rfl, rfl, .int many, rfl, _, many, rfl, rfl, h0, q _ _ (b + 1) (e2.trans e5) ⟨_, upd_same, e5.l hc2, hn, by omega, Int.ediv_nonneg (by omega) (by omega)⟩ (by omega) (Int.emod_nonneg _ (by omega)) (Int.emod_lt_of_pos _ h0)⟩
              · exact ⟨rfl, rfl⟩
            · exact ⟨rfl, rfl⟩
          · rintro σ3 H3 ⟨rfl, rfl⟩
            -- mixed, thrice
            have m0 : 0 ≤ v % 4294967279 := Int.emod_nonneg _ (by decide)
            have m1 : v % 4294967279 < 4294967279 := Int.emod_lt_of_pos _ (by decide)
            have bb : 0 ≤ 40503 * b ∧ 40503 * b < 10 ^ 20 := by omega
            refine ⟨.int v, rfl, .inl ⟨v, rfl, v, 4294967279, rfl, rfl, by walk_at "sc", _, 69069, rfl, rfl, by walk_at "sc", .int b, rfl, 40503, b, rfl, rfl, by walk_at "sc", .int b, rfl, _, b, rfl, rfl, by walk_at "sc", _, _, rfl, rfl, _, 101, rfl, rfl, .inl ⟨_, rfl, _, 4294967291, rfl, rfl, by walk_at "sc", ?_⟩⟩⟩
            have n0 : 0 ≤ (v % 4294967279 * 69069 + 40503 * b * b + 101) % 4294967291 := Int.emod_nonneg _ (by decide)
            have n1 : (v % 4294967279 * 69069 + 40503 * b * b + 101) % 4294967291 < 4294967291 := Int.emod_lt_of_pos _ (by decide)
            dsimp only
            generalize (v % 4294967279 * 69069 + 40503 * b * b + 101) % 4294967291 = x1 at n0 n1 ⊢
            refine ⟨.int x1, rfl, .int x1, rfl, x1, x1, rfl, rfl, by walk_at "sc", .int x1, rfl, 31337, x1, rfl, rfl, by walk_at "sc", _, _, rfl, rfl, .int b, rfl, 17, b, rfl, rfl, by walk_at "sc", _, _, rfl, rfl, _, 3, rfl, rfl, .inl ⟨_, rfl, _, 4294967279, rfl, rfl, by walk_at "sc", ?_⟩⟩
            have k0 : 0 ≤ (x1 * x1 + 31337 * x1 + 17 * b + 3) % 4294967279 := Int.emod_nonneg _ (by decide)
            have k1 : (x1 * x1 + 31337 * x1 + 17 * b + 3) % 4294967279 < 4294967279 := Int.emod_lt_of_pos _ (by decide)
            dsimp only
            generalize (x1 * x1 + 31337 * x1 + 17 * b + 3) % 4294967279 = x2 at k0 k1 ⊢
            refine ⟨.int x2, rfl, .int x2, rfl, x2, 65599, rfl, rfl, x2, _, rfl, rfl, by walk_at "sc", .inl ⟨_, rfl, _, 4294967197, rfl, rfl, by walk_at "sc", _, 64, rfl, rfl, by walk_at "sc", ?_⟩⟩
            have l0 : 0 ≤ x2 * (x2 + 65599) % 4294967197 / 64 := Int.ediv_nonneg (Int.emod_nonneg _ (by decide)) (by decide)
            dsimp only
            generalize x2 * (x2 + 65599) % 4294967197 / 64 = x3 at l0 ⊢
            -- the last: a great number's upper figures
            refine ⟨fun σ4 H4 => ∃ (y b4 : Int), σ4 = [some (.ref p), some (.int many), none, some (.int b), some (.int v), some (.int y)] ∧ Ext p H H4 ∧ Pen K H4 ⟨p, c, cs⟩ b4 ∧ b4 ≤ b + d + 1, ?_, ?_⟩
            · refine ⟨.int many, rfl, many, 60000000, rfl, rfl, _, rfl, ite2 (fun e5 => ?_) (fun e5 => ?_)⟩
              · have gt := of_decide_eq_true e5
                refine ⟨.int x3, rfl, .inl ⟨x3, rfl, x3, 60000000, rfl, rfl, by walk_at "sc", .ref p, rfl, .int many, rfl, many, 60000000, rfl, rfl, by walk_at "sc", _, 1, rfl, rfl, ?_⟩⟩
                cases d with
                | zero => exact absurd hl (by show ¬ many ≤ 60000000; omega)
                | succ d =>
                  have hl2 : many ≤ 60000000 * (dlim d - 1) := hl
                  have dp := dlim_pos d
                  refine ⟨⟨p, c, cs⟩, many / 60000000 + 1, b + 1, rfl, ⟨r, hp2, hc2, hn, by omega, hr0⟩, by omega, by omega, by omega, by omega, fun r2 H4 b4 e6 hP4 hb4 r0 r1 => ?_⟩
                  refine ⟨60000000, r2, rfl, rfl, by walk_at "sc", _, _, rfl, rfl, _, b4, rfl, e2.trans e6, hP4, by omega⟩
              · exact ⟨x3, b + 1, rfl, e2, ⟨r, hp2, hc2, hn, by omega, hr0⟩, by omega⟩
            · rintro σ4 H4 ⟨y, b4, rfl, e6, hP4, hb4⟩
              refine ⟨.int y, rfl, .inl ⟨y, rfl, .int many, rfl, y, many, rfl, rfl, h0, q (y % many) H4 b4 e6 hP4 hb4 (Int.emod_nonneg _ (by omega)) (Int.emod_lt_of_pos _ h0)⟩⟩
end
end KP

namespace KP
open PySem PySem.Spec PyProof.Rows L2
local macro_rules | `(tactic| walk_at "sc") => `(tactic| first | (show (0 : Int) < _; decide) | (show (0 : Int) < _; omega) | (refine ⟨?_, ?_, ?_, ?_⟩ <;> (first | omega | (unfold Big; omega))) | (refine ⟨?_, ?_, ?_⟩ <;> (first | omega | (unfold Big; omega))) | (refine ⟨?_, ?_⟩ <;> (first | omega | (unfold Big; omega))))
/-! ### promises of what draws -/
/-- b draws are begun; what follows may begin n more -/
def spDraw (K : PySem.W.Frag) : Sp := fun vs H Q _ => ∃ (p : Pid) (many b : Int), vs = [.ref p.a, .int many] ∧ Pen K H p b ∧ 0 < many ∧ many ≤ 10 ^ 100 ∧ b < 10 ^ 11 ∧
  ∀ (r : Int) (H' : Hp) (b' : Int), Ext p.a H H' → Pen K H' p b' → b' ≤ b + 13 → 0 ≤ r → r < many → Q (.int r) H'
/-- a list or a tuple of xs, or a text of the signs xs -/
def SeqOf (K : PySem.W.Frag) (H : Hp) (o : V) (xs : List V) : Prop := (∃ a, o = .ref a ∧ (SqL K H a xs ∨ SqT K H a xs)) ∨ ∃ z : Str, o = .str z ∧ z.length ≤ 1000 ∧ xs = z.cps.toList.map fun c => .str ⟨#[c]⟩
def spPick (K : PySem.W.Frag) : Sp := fun vs H Q _ => ∃ (p : Pid) (o : V) (xs : List V) (b : Int), vs = [.ref p.a, o] ∧ Pen K H p b ∧ SeqOf K H o xs ∧ xs ≠ [] ∧ xs.length ≤ 1000 ∧ b < 10 ^ 11 ∧
  ∀ v ∈ xs, ∀ (H' : Hp) (b' : Int), Ext p.a H H' → Pen K H' p b' → b' ≤ b + 13 → Q v H'
def spAround (K : PySem.W.Frag) : Sp := fun vs H Q _ => ∃ (p : Pid) (most b : Int), vs = [.ref p.a, .int most] ∧ Pen K H p b ∧ 0 ≤ most ∧ most ≤ 10 ^ 99 ∧ b < 10 ^ 11 ∧
  ∀ (r : Int) (H' : Hp) (b' : Int), Ext p.a H H' → Pen K H' p b' → b' ≤ b + 13 → -most ≤ r → r ≤ most → Q (.int r) H'
def spPen (K : PySem.W.Frag) : Sp := fun vs H Q _ => ∃ (a : Addr) (ns : List Int), vs = [.ref a] ∧ SqL K H a (ns.map V.int) ∧ ∀ (p : Pid) (H' : Hp), Same H H' → H p.a = none → Pen K H' p 0 → Q (.ref p.a) H'
/-- a name: one to eight small letters -/
def NameOk (z : Str) : Prop := 1 ≤ z.length ∧ z.length ≤ 8 ∧ ∀ c ∈ z.cps.toList, 97 ≤ c ∧ c ≤ 122
def spNames (K : PySem.W.Frag) : Sp := fun vs H Q _ => ∃ (p : Pid) (many b : Int), vs = [.ref p.a, .int many] ∧ Pen K H p b ∧ 0 ≤ many ∧ many ≤ 52 ∧ b < 10 ^ 10 ∧
  ∀ (l : Addr) (zs : List Str) (H' : Hp) (b' : Int), Ext p.a H H' → H l = none → Pen K H' p b' → b' ≤ b + 1000 → H' l = some (.lst (zs.map V.str)) → (zs.length : Int) = many → (∀ z ∈ zs, NameOk z) → zs.Nodup → Q (.ref l) H'
section
variable {P : Program} {w : World} {K : PySem.W.Frag} {mg : Str → Option Value} {base : Heap}
theorem SeqOf.ext {p : Addr} {H H' : Hp} {o : V} {xs : List V} (e : Ext p H H') (h : SeqOf K H o xs) : SeqOf K H' o xs := by
  rcases h with ⟨a, ea, h | h⟩ | h
  · exact .inl ⟨a, ea, .inl (e.l h)⟩
  · exact .inl ⟨a, ea, .inr (e.t h)⟩
  · exact .inr h
theorem k_draw (T : Tx K mg) : Cal P w K mg base 13 (He.ga K "_law_draw") T.fd_draw P_draw (spDraw K) :=
  ⟨(ok_draw T 13).imp fun vs H Q E ⟨p, many, b, e, hP, h0, h1, hb, q⟩ => ⟨p, many, b, e, hP, h0, Int.le_trans h1 (by decide +kernel), by omega, (show b + (12 : Int) < 10 ^ 12 by omega), fun r H' b' x1 x2 (x3 : b' ≤ b + (12 : Int) + 1) => q r H' b' x1 x2 (by omega)⟩, T.fn_draw.kp, FunD.bindsN T.fn_draw fun _ _ _ _ _ _ us hl => match us, hl with | [_, _], _ => rfl⟩
theorem k_pick (T : Tx K mg) : Cal P w K mg base 14 (He.ga K "_law_pick") T.fd_pick P_pick (spPick K) := by
  have c_draw := k_draw (P := P) (w := w) (base := base) T
  refine ⟨T.fn_pick.ok sc_pick (fun vs H Q E h => ?_) (fun cdv A outer s H vs Q E hr h => ?_), T.fn_pick.kp, FunD.bindsN T.fn_pick fun _ _ _ _ _ _ us hl => match us, hl with | [_, _], _ => rfl⟩
  · obtain ⟨p, o, xs, b, rfl, _⟩ := h
    rfl
  · obtain ⟨p, o, xs, b, rfl, hP, hS, hne, hlen, hb, q⟩ := h
    refine ⟨_, PSs.nox (pss_one (ps_ret (pe_ix ix_seq (pv 1) (pe_call c_draw.F (hr.mono (by decide)) (by rfl) T.g_draw c_draw.kp c_draw.b .nil pass0 (pa_cons (pv 0) (pa_cons (pe_callB call_len (by rfl) T.b_len PySem.boot_len (pa_cons (pv 1) pa_nil)) pa_nil))) (fun _ _ => rfl)))), ?_⟩
    have lp : 0 < xs.length := List.length_pos_iff.mpr hne
    have hlv : LenV K o H xs.length := by
      rcases hS with ⟨a, rfl, h | h⟩ | ⟨z, rfl, hz, rfl⟩
      · exact .inl ⟨xs, h, rfl⟩
      · exact .inr ⟨xs, h, rfl⟩
      · exact ⟨Nat.le_trans hz (by rw [sizeLine_eq]; decide), by rw [List.length_map]; rfl⟩
    refine ⟨o, rfl, .ref p.a, rfl, o, rfl, o, xs.length, rfl, hlv, p, _, b, rfl, hP, by omega, by omega, hb, fun r H' b' e1 hP1 hb1 r0 r1 => ?_⟩
    obtain ⟨i, rfl⟩ := Int.eq_ofNat_of_zero_le r0
    have hi : i < xs.length := by omega
    have fin : Q xs[i] H' := q _ (List.getElem_mem hi) H' b' e1 hP1 hb1
    rcases hS.ext e1 with ⟨a, rfl, h | h⟩ | ⟨z, rfl, hz, rfl⟩
    · exact .inl ⟨a, xs, i, xs[i], rfl, rfl, h, atI_nat (List.getElem?_eq_getElem hi), fin⟩
    · exact .inr (.inl ⟨a, xs, i, xs[i], rfl, rfl, h, atI_nat (List.getElem?_eq_getElem hi), fin⟩)
    · rw [List.length_map] at hi
      refine .inr (.inr ⟨z, i, z.cps.toList[i], rfl, rfl, Nat.le_trans hz (by rw [sizeLine_eq]; decide), atI_nat (List.getElem?_eq_getElem hi), ?_⟩)
      rw [List.getElem_map] at fin
      exact fin
theorem k_pen (T : Tx K mg) : Cal P w K mg base 1 (He.ga K "_law_pen") T.fd_pen P_pen (spPen K) := by
  refine ⟨T.fn_pen.ok sc_pen (fun vs H Q E h => ?_) (fun cdv A outer s H vs Q E hr h => ?_), T.fn_pen.kp, FunD.bindsN T.fn_pen fun _ _ _ _ _ _ us hl => match us, hl with | [_], _ => rfl⟩
  · obtain ⟨a, ns, rfl, _⟩ := h
    rfl
  · obtain ⟨a, ns, rfl, hS, q⟩ := h
    refine ⟨_, PSs.nox (pss_one (ps_ret (pe_disp (pps_cons pe_str (pe_callTy call_list_of (by rfl) T.b_list (by decide +kernel) (pa_cons (pe_slice sl_list (pv 0) po_none (po_some pe_int)) pa_nil)) (pps_cons pe_str pe_int (pps_cons pe_str pe_int pps_nil))) (by rfl) (by rfl) (fun z => by cases z) (by decide)))), ?_⟩
    intro p np
    refine ⟨.ref a, rfl, 63, rfl, a, _, rfl, (Same.new np).seq hS, fun c nc => ?_⟩
    refine ⟨c, _, rfl, .inl (SqL.of upd_same), fun l nl => ?_⟩
    have hpc : p ≠ c := ne_of_none upd_same nc
    have hpl : p ≠ l := ne_of_none (by rw [upd_ne hpc]; exact upd_same) nl
    have hcl : c ≠ l := ne_of_none upd_same nl
    refine ⟨?_, [(.inr "cells", .ref l), (.inr "begun", .int 0), (.inr "rest", .int 0)], rfl, by show 3 ≤ 15; decide, ?_⟩
    · rw [upd_ne hpl, upd_ne hpc]
      exact upd_same
    · have cut : cutV (ns.map V.int) none (some 63) = (ns.take 63).map V.int := by
        unfold cutV
        rw [HT.sIx_none, show HT.sIx (ns.map V.int).length (ns.map V.int).length (some 63) = min 63 (ns.map V.int).length from HT.sIx_nat _ _ 63]
        rw [List.drop_zero, Nat.sub_zero, List.map_take]
        rw [List.take_eq_take_iff]
        omega
      refine q ⟨p, l, ns.take 63⟩ _ (fun x o hx => ?_) np ⟨0, upd_same, .inl (.inl ?_), by show (ns.take 63).length ≤ 63; rw [List.length_take]; omega, by omega, by omega⟩
      · have xp : x ≠ p := ne_of_none hx np
        have h1 : (upd H p (.dK [])) x = some o := by
          rw [upd_ne xp]
          exact hx
        have xc : x ≠ c := ne_of_none h1 nc
        have h2 : (upd (upd H p (.dK [])) c (.lst (cutV (ns.map V.int) none (some 63)))) x = some o := by
          rw [upd_ne xc]
          exact h1
        rw [upd_ne xp, upd_ne (ne_of_none h2 nl)]
        exact h2
      · show (upd _ p _) l = _
        rw [upd_ne hpl.symm, upd_same, cut]
end
end KP

namespace KP
open PySem PySem.Spec PyProof.Rows L2
local macro_rules | `(tactic| walk_at "sc") => `(tactic| first | (show (0 : Int) < _; decide) | (show (0 : Int) < _; omega) | (refine ⟨?_, ?_, ?_, ?_⟩ <;> (first | omega | (unfold Big; omega))) | (refine ⟨?_, ?_, ?_⟩ <;> (first | omega | (unfold Big; omega))) | (refine ⟨?_, ?_⟩ <;> (first | omega | (unfold Big; omega))))
/-! ### names: the mathematics -/
def abc : Str := "abcdefghijklmnopqrstuvwxyz"
def abcL : List Nat := (List.range 26).map (97 + ·)
theorem abc_tl : abc.cps.toList = abcL := by decide +kernel
theorem abc_at {i : Nat} (h : i < 26) : abc.cps.toList[i]? = some (97 + i) := by
  rw [abc_tl]
  unfold abcL
  rw [List.getElem?_map, List.getElem?_range h]
  rfl
theorem mem_abc {c : Nat} (h : c ∈ abc.cps.toList) : 97 ≤ c ∧ c ≤ 122 := by
  rw [abc_tl] at h
  obtain ⟨i, hi, rfl⟩ := List.mem_map.mp h
  have := List.mem_range.mp hi
  omega
abbrev Let (c : Nat) : Prop := 97 ≤ c ∧ c ≤ 122
def steps : List Int := [1, 3, 5, 7, 9, 11, 15, 17, 19, 21, 23, 25]
/-- the k-th name: stem and own letter, behind it a sign from the 26-th on -/
def NameAt (S : List Nat) (front step : Int) (k : Nat) (z : Str) : Prop := ∃ (c : Nat) (t : List Nat), (c : Int) = 97 + (front + step * k) % 26 ∧ z.cps.toList = (if S.length % 2 = 0 then S ++ [c] else [c] ++ S) ++ t ∧ (k < 26 → t = []) ∧ (26 ≤ k → ∃ d, Let d ∧ t = [d])
theorem nameAt_ok {S : List Nat} {front step : Int} {k : Nat} {z : Str} (hS : S.length ≤ 6) (hL : ∀ c ∈ S, Let c) (h : NameAt S front step k z) : NameOk z := by
  obtain ⟨c, t, hc, hz, h1, h2⟩ := h
  have cl : Let c := by
    have a := Int.emod_nonneg (front + step * k) (show (26 : Int) ≠ 0 by decide)
    have b := Int.emod_lt_of_pos (front + step * k) (show (0 : Int) < 26 by decide)
    constructor <;> omega
  have tl1 : t.length ≤ 1 ∧ ∀ d ∈ t, Let d := by
    by_cases hk : k < 26
    · rw [h1 hk]
      exact ⟨Nat.zero_le _, fun d hd => nomatch hd⟩
    · obtain ⟨d, hd, rfl⟩ := h2 (by omega)
      exact ⟨Nat.le_refl _, fun e he => by
        rw [List.mem_singleton.mp he]
        exact hd⟩
  have len : z.length = S.length + 1 + t.length := by
    show z.cps.size = _
    rw [← Array.length_toList, hz]
    split <;> simp <;> omega
  refine ⟨by omega, by omega, fun d hd => ?_⟩
  rw [hz] at hd
  rcases List.mem_append.mp hd with hd | hd
  · split at hd
    · rcases List.mem_append.mp hd with hd | hd
      · exact hL d hd
      · rw [List.mem_singleton.mp hd]
        exact cl
    · rcases List.mem_append.mp hd with hd | hd
      · rw [List.mem_singleton.mp hd]
        exact cl
      · exact hL d hd
  · exact tl1.2 d hd
theorem step_apart {step : Int} (hs : step ∈ steps) {front : Int} {i j : Nat} (hij : i < j) (hd : j < i + 26) (e : (front + step * i) % 26 = (front + step * j) % 26) : False := by
  have hm : (step * ((j : Int) - i)) % 26 = 0 := by
    have h1 : (front + step * j - (front + step * i)) % 26 = 0 := by omega
    have h2 : front + step * j - (front + step * i) = step * ((j : Int) - i) := by
      rw [Int.mul_sub]
      omega
    rw [h2] at h1
    exact h1
  obtain ⟨m, hm1⟩ : ∃ m : Nat, (j : Int) - i = m := ⟨j - i, by omega⟩
  rw [hm1] at hm
  have hm0 : 0 < m ∧ m < 26 := by omega
  have key : ∀ s ∈ steps, ∀ m : Nat, m < 26 → 0 < m → ¬ (s * (m : Int)) % 26 = 0 := by decide +kernel
  exact key step hs m hm0.2 hm0.1 hm
theorem base_inj {S : List Nat} {c d : Nat} (h : (if S.length % 2 = 0 then S ++ [c] else [c] ++ S) = (if S.length % 2 = 0 then S ++ [d] else [d] ++ S)) : c = d := by
  split at h
  · have := List.append_cancel_left h
    simpa using this
  · have := List.append_cancel_right h
    simpa using this
theorem nameAt_ne {S : List Nat} {front step : Int} (hs : step ∈ steps) {i j : Nat} (hij : i < j) (hj : j < 52) {y z : Str} (hy : NameAt S front step i y) (hz : NameAt S front step j z) : y ≠ z := fun e => by
  subst e
  obtain ⟨c, t, hc, e1, t1, t2⟩ := hy
  obtain ⟨d, u, hd, e2, u1, u2⟩ := hz
  have ee := e1.symm.trans e2
  have bl : ∀ x : Nat, (if S.length % 2 = 0 then S ++ [x] else [x] ++ S).length = S.length + 1 := fun x => by
    split <;> simp
  have ll : t.length = u.length := by
    have := congrArg List.length ee
    rw [List.length_append, List.length_append, bl, bl] at this
    omega
  have near : j < i + 26 := by
    by_cases hi : i < 26
    · by_cases hj2 : j < 26
      · omega
      · obtain ⟨x, _, rfl⟩ := u2 (by omega)
        rw [t1 hi] at ll
        simp at ll
    · omega
  have cd : c = d := by
    have := List.append_inj_left ee (by rw [bl, bl])
    exact base_inj this
  refine step_apart hs hij near (front := front) ?_
  have : (c : Int) = d := by rw [cd]
  omega
theorem names_nodup {S : List Nat} {front step : Int} (hs : step ∈ steps) {zs : List Str} (hl : zs.length ≤ 52) (h : ∀ (i : Nat) (z : Str), zs[i]? = some z → NameAt S front step i z) : zs.Nodup := by
  rw [List.Nodup, List.pairwise_iff_getElem]
  intro i j hi hj hij
  exact nameAt_ne hs hij (by omega) (h i _ (List.getElem?_eq_getElem hi)) (h j _ (List.getElem?_eq_getElem hj))
theorem join_ones : ∀ ys : List Str, (∀ y ∈ ys, ∃ c, Let c ∧ y = ⟨#[c]⟩) → (Txt.join "" ys).cps.toList.length = ys.length ∧ ∀ c ∈ (Txt.join "" ys).cps.toList, Let c := by
  intro ys h
  have key : ∀ ys : List Str, (∀ y ∈ ys, ∃ c, Let c ∧ y = ⟨#[c]⟩) → (TL.joinL [] (ys.map TL.tl)).length = ys.length ∧ ∀ c ∈ TL.joinL [] (ys.map TL.tl), Let c := by
    intro ys
    induction ys with
    | nil => exact fun _ => ⟨rfl, fun c hc => nomatch hc⟩
    | cons y r ih =>
      intro h
      obtain ⟨c, hc, rfl⟩ := h y (List.mem_cons_self ..)
      have ih2 := ih fun z hz => h z (List.mem_cons_of_mem _ hz)
      cases r with
      | nil =>
        refine ⟨rfl, fun d hd => ?_⟩
        have hd2 : d ∈ [c] := hd
        rw [List.mem_singleton.mp hd2]
        exact hc
      | cons z r =>
        have e : TL.joinL [] (((⟨#[c]⟩ : Str) :: z :: r).map TL.tl) = [c] ++ ([] ++ TL.joinL [] ((z :: r).map TL.tl)) := rfl
        rw [e]
        refine ⟨by rw [List.length_append, List.nil_append, ih2.1]; simp; omega, fun d hd => ?_⟩
        rcases List.mem_append.mp hd with hd | hd
        · rw [List.mem_singleton.mp hd]
          exact hc
        · exact ih2.2 d hd
  have e : (Txt.join "" ys).cps.toList = TL.joinL [] (ys.map TL.tl) := by
    rw [TL.join_eq]
    exact TL.tl_join "" ys
  rw [e]
  exact key ys h
section
variable {P : Program} {w : World} {K : PySem.W.Frag} {mg : Str → Option Value} {base : Heap}
theorem seq_abc (H : Hp) : SeqOf K H (.str abc) (abc.cps.toList.map fun c => .str ⟨#[c]⟩) := .inr ⟨abc, rfl, by decide +kernel, rfl⟩
theorem abc_ne : (abc.cps.toList.map fun c => V.str ⟨#[c]⟩) ≠ [] := by
  rw [abc_tl]
  intro h
  cases h
theorem abc_len : (abc.cps.toList.map fun c => V.str ⟨#[c]⟩).length ≤ 1000 := by
  rw [List.length_map, abc_tl]
  decide
theorem abc_mem {v : V} (h : v ∈ abc.cps.toList.map fun c => V.str ⟨#[c]⟩) : ∃ c, Let c ∧ v = .str ⟨#[c]⟩ := by
  obtain ⟨c, hc, rfl⟩ := List.mem_map.mp h
  exact ⟨c, mem_abc hc, rfl⟩
theorem str_add (x y : Str) : (x ++ y).cps.toList = x.cps.toList ++ y.cps.toList := TL.tl_append x y
theorem len_tl (x : Str) : x.length = x.cps.toList.length := by
  show x.cps.size = _
  rw [Array.length_toList]
theorem ones_sum : ∀ ys : List Str, (∀ y ∈ ys, ∃ c, Let c ∧ y = ⟨#[c]⟩) → (ys.map (·.length)).sum = ys.length
  | [], _ => rfl
  | y :: r, h => by
    obtain ⟨c, _, rfl⟩ := h y (List.mem_cons_self ..)
    have ih := ones_sum r fun z hz => h z (List.mem_cons_of_mem _ hz)
    rw [List.map_cons, List.sum_cons, ih, List.length_cons]
    show 1 + r.length = r.length + 1
    omega
theorem k_names (T : Tx K mg) : Cal P w K mg base 15 (He.ga K "_law_names") T.fd_names P_names (spNames K) := by
  have c_draw := k_draw (P := P) (w := w) (base := base) T
  have c_pick := k_pick (P := P) (w := w) (base := base) T
  refine ⟨T.fn_names.ok sc_names (fun vs H Q E h => ?_) (fun cdv A outer s H vs Q E hr h => ?_), T.fn_names.kp, FunD.bindsN T.fn_names fun _ _ _ _ _ _ us hl => match us, hl with | [_, _], _ => rfl⟩
  · obtain ⟨p, many, b, rfl, _⟩ := h
    rfl
  · obtain ⟨p, many, b, rfl, hP, h0, h1, hb, q⟩ := h
    refine ⟨_, PSs.nox (pss_cons (ps_set (i := 2) sc_names.nd rfl (Or.inr rfl) pe_str)
      (pss_cons (ps_set (i := 3) sc_names.nd rfl (Or.inl rfl) (pe_join pe_str (pe_lc (own := [("_law_k", 7)]) (by rfl) sc_names.nd (pi_range1 (by rfl) T.b_range (pa_cons (pe_call c_draw.F (hr.mono (by decide)) (by rfl) T.g_draw c_draw.kp c_draw.b .nil pass0 (pa_cons (pv 0) (pa_cons pe_int pa_nil))) pa_nil)) (blkOk_by (own := [("_law_k", 7)]) (N := N_names) (sc := defScope s_names) (by decide +kernel)) (fun _ _ _ _ _ => pg_name (i := 7) sc_names.nd rfl (Or.inl rfl)) (fun _ _ _ _ _ => pts_nil) (fun _ _ _ _ _ => (pe_call c_pick.F (hr.mono (by decide)) (by rfl) T.g_pick c_pick.kp c_pick.b .nil pass0 (pa_cons (pv 0) (pa_cons (pv 2) pa_nil)))))))
      (pss_cons (ps_par (by rfl) sc_names.nd (i := 4) (j := 5) rfl rfl (by decide) rfl rfl (pa_cons (pe_call c_draw.F (hr.mono (by decide)) (by rfl) T.g_draw c_draw.kp c_draw.b .nil pass0 (pa_cons (pv 0) (pa_cons pe_int pa_nil))) (pa_cons (pe_lst pa_nil) pa_nil)) (by rfl))
      (pss_cons (ps_set (i := 6) sc_names.nd rfl (Or.inl rfl) (pe_call c_pick.F (hr.mono (by decide)) (by rfl) T.g_pick c_pick.kp c_pick.b .nil pass0 (pa_cons (pv 0) (pa_cons (pe_lst (pa_cons pe_int (pa_cons pe_int (pa_cons pe_int (pa_cons pe_int (pa_cons pe_int (pa_cons pe_int (pa_cons pe_int (pa_cons pe_int (pa_cons pe_int (pa_cons pe_int (pa_cons pe_int (pa_cons pe_int pa_nil))))))))))))) pa_nil))))
      (pss_cons (ps_for PassesOwn.never rfl (pi_range1 (by rfl) T.b_range (pa_cons (pv 1) pa_nil)) (pg_name (i := 7) sc_names.nd rfl (Or.inl rfl))
      (pss_cons (ps_set (i := 8) sc_names.nd rfl (Or.inl rfl) (pe_ix ix_str (pv 2) (pe_op op_mod (pe_callTy call_int1 (by rfl) T.b_int PyProof.Rows.boot_int (pa_cons (pe_op op_add (pv 4) (pe_op op_mulB (pv 6) (pv 7))) pa_nil)) pe_int) (fun _ _ => rfl)))
      (pss_cons (ps_set (i := 9) sc_names.nd rfl (Or.inl rfl) (pcutE (pe_ifExp (pt_cmpR op_lt (pv 7) pe_int (nomark _)) pe_str (pe_call c_pick.F (hr.mono (by decide)) (by rfl) T.g_pick c_pick.kp c_pick.b .nil pass0 (pa_cons (pv 0) (pa_cons (pv 2) pa_nil))))))
      (pss_one (ps_expr (pe_bm PySem.F.plainAttrs_list PySem.F.slot_list_append PySem.F.type_list_append mt_append (pv 5) (pa_cons (pe_op op_add_str (pe_ix ix_list (pe_lst (pa_cons (pe_op op_add_str (pv 3) (pv 8)) (pa_cons (pe_op op_add_str (pv 8) (pv 3)) pa_nil))) (pe_op op_mod (pe_callB call_len_str (by rfl) T.b_len PySem.boot_len (pa_cons (pv 3) pa_nil)) pe_int) (fun _ _ => rfl)) (pv 9)) pa_nil)))))))
      (pss_one (ps_ret (pv 5)))))))), ?_⟩
    -- the stem
    refine ⟨⟨_, rfl⟩, .ref p.a, rfl, p, 7, b, rfl, hP, by decide, by decide, by omega, fun n H1 b1 e1 hP1 hb1 n0 n1 => ⟨n, rfl, by omega, by omega, fun Dl nD => ?_⟩⟩
    refine lc_range (lo := 0) (n := n.toNat) (fun i H' => ∃ (ys : List Str) (b' : Int), H' Dl = some (.lst (ys.map V.str)) ∧ ys.length = i ∧ (∀ y ∈ ys, ∃ c, Let c ∧ y = ⟨#[c]⟩) ∧ Ext p.a H1 H' ∧ Pen K H' p b' ∧ b' ≤ b1 + 13 * i) ?_ ?_ ?_
    · exact ⟨[], b1, upd_same, rfl, fun y hy => (nomatch hy), Ext.new hP1.is_ nD, hP1.new nD, by omega⟩
    · rintro i H' hi ⟨ys, b', hD, hyl, hy, e2, hP2, hb2⟩
      refine ⟨rfl, .ref p.a, rfl, .str abc, rfl, p, .str abc, _, b', rfl, hP2, seq_abc H', abc_ne, abc_len, by omega, fun v hv H3 b3 e3 hP3 hb3 => ?_⟩
      obtain ⟨c, hc, rfl⟩ := abc_mem hv
      have hD3 : H3 Dl = some (.lst (ys.map V.str)) := e3.at hD fun _ z => nomatch z
      refine ⟨_, hD3, ?_, ys ++ [⟨#[c]⟩], b3, ?_, by simp; omega, fun y hy2 => ?_, ?_, ?_, by omega⟩
      · rw [List.length_map, sizeLine_eq]
        omega
      · rw [upd_same, List.map_append]
        rfl
      · rcases List.mem_append.mp hy2 with z | z
        · exact hy y z
        · exact ⟨c, hc, List.mem_singleton.mp z⟩
      · exact (e2.trans e3).mut nD
      · exact hP3.mut hP1 nD
    · rintro H2 ⟨ys, b2, hD2, hyl, hy, e2, hP2, hb2⟩
      obtain ⟨jl, jm⟩ := join_ones ys hy
      refine ⟨"", Dl, ys, rfl, rfl, .inl (SqL.of hD2), ?_, ?_⟩
      · rw [ones_sum ys hy]
        show ys.length + ys.length * 0 ≤ 16777216
        omega
      generalize Txt.join "" ys = stem at jl jm ⊢
      have sl : stem.cps.toList.length ≤ 6 := by omega
      have sl2 : stem.length ≤ 6 := by
        rw [len_tl]
        exact sl
      clear hD2 hy
      -- front, found
      refine ⟨.ref p.a, rfl, p, 26, b2, rfl, hP2, by decide, by decide, by omega, fun front H3 b3 e3 hP3 hb3 f0 f1 => ?_⟩
      refine ⟨Nat.zero_le _, fun l nl => ⟨_, _, rfl, ?_⟩⟩
      have nlH : H l = none := e1.back (e2.back (e3.back nl))
      have e4 : Ext p.a H (upd H3 l (.lst [])) := (e1.trans (e2.trans e3)).trans (Ext.new hP3.is_ nl)
      have hP4 : Pen K (upd H3 l (.lst [])) p b3 := hP3.new nl
      have hl4 : (upd H3 l (.lst [])) l = some (.lst []) := upd_same
      generalize upd H3 l (.lst []) = H4 at e4 hP4 hl4 ⊢
      -- step
      refine ⟨.ref p.a, rfl, by show 12 ≤ sizeLine; rw [sizeLine_eq]; decide, fun t nt => ?_⟩
      refine ⟨p, .ref t, steps.map V.int, b3, rfl, hP4.new nt, .inl ⟨t, rfl, .inl (SqL.of upd_same)⟩, by decide, by decide, by omega, fun v hv H5 b5 e5 hP5 hb5 => ?_⟩
      obtain ⟨step, hst, rfl⟩ := List.mem_map.mp hv
      have st1 : 1 ≤ step ∧ step ≤ 25 := by
        have key : ∀ s ∈ steps, 1 ≤ s ∧ s ≤ 25 := by decide
        exact key step hst
      have e6 : Ext p.a H H5 := e4.trans ((Ext.new hP4.is_ nt).trans e5)
      have hl5 : H5 l = some (.lst []) := e5.at (show (upd H4 t _) l = some (.lst []) by rw [upd_ne (ne_of_none hl4 nt)]; exact hl4) fun _ z => nomatch z
      -- the loop
      refine ⟨.int many, rfl, many, rfl, by omega, by omega, ?_⟩
      refine for_range (lo := 0) (n := many.toNat) (fun i σ' H' => ∃ (y7 y8 y9 : Option V) (zs : List Str) (b' : Int), σ' = [some (.ref p.a), some (.int many), some (.str abc), some (.str stem), some (.int front), some (.ref l), some (.int step), y7, y8, y9] ∧
        Ext p.a H H' ∧ Pen K H' p b' ∧ b' ≤ b5 + 13 * i ∧ H' l = some (.lst (zs.map V.str)) ∧ zs.length = i ∧ ∀ (j : Nat) (z : Str), zs[j]? = some z → NameAt stem.cps.toList front step j z) ?_ ?_ ?_
      · exact ⟨none, none, none, [], b5, rfl, e6, hP5, by omega, hl5, rfl, fun j z hz => (nomatch hz)⟩
      · rintro i σ' H' hi ⟨y7, y8, y9, zs, b', rfl, eH, hPH, hbH, hlH, hzl, hz⟩
        have hi2 : (i : Int) < many := by omega
        have m0 : 0 ≤ (front + step * (0 + (i : Int))) % 26 := Int.emod_nonneg _ (by decide)
        have m1 : (front + step * (0 + (i : Int))) % 26 < 26 := Int.emod_lt_of_pos _ (by decide)
        have si : step * (0 + (i : Int)) ≤ 25 * 52 := by
          have : step * (0 + (i : Int)) ≤ 25 * (0 + (i : Int)) := Int.mul_le_mul_of_nonneg_right st1.2 (by omega)
          omega
        obtain ⟨j, hj⟩ := Int.eq_ofNat_of_zero_le m0
        have j26 : j < 26 := by omega
        -- own
        refine ⟨.str abc, rfl, .int front, rfl, .int step, rfl, _, rfl, step, _, rfl, rfl, by walk_at "sc", _, _, rfl, rfl, .inl ⟨_, rfl, _, 26, rfl, rfl, by walk_at "sc", abc, _, 97 + j, rfl, rfl, by decide +kernel, ?_, ?_⟩⟩
        · rw [hj]
          exact atI_nat (abc_at j26)
        -- tail
        refine ⟨fun v H6 => ∃ (u : Str) (b6 : Int), v = .str u ∧ Ext p.a H' H6 ∧ Pen K H6 p b6 ∧ b6 ≤ b' + 13 ∧ u.length ≤ 1 ∧ (i < 26 → u.cps.toList = []) ∧ (26 ≤ i → ∃ d, Let d ∧ u.cps.toList = [d]), ?_, ?_⟩
        · refine ⟨_, rfl, _, 26, rfl, rfl, _, rfl, ite2 (fun e => ?_) (fun e => ?_)⟩
          · have lt := of_decide_eq_true e
            exact ⟨"", b', rfl, Ext.refl hPH.is_, hPH, by omega, by decide, fun _ => rfl, fun z => absurd z (by omega)⟩
          · have ge := of_decide_eq_false (Bool.eq_false_iff.mpr e)
            refine ⟨.ref p.a, rfl, .str abc, rfl, p, .str abc, _, b', rfl, hPH, seq_abc H', abc_ne, abc_len, by omega, fun v hv H6 b6 e6 hP6 hb6 => ?_⟩
            obtain ⟨c, hc, rfl⟩ := abc_mem hv
            exact ⟨⟨#[c]⟩, b6, rfl, e6, hP6, hb6, Nat.le_refl _, fun z => absurd z (by omega), fun _ => ⟨c, hc, rfl⟩⟩
        · rintro v H6 ⟨u, b6, rfl, e7, hP6, hb6, ul, u1, u2⟩
          have hl6 : H6 l = some (.lst (zs.map V.str)) := e7.at hlH fun _ z => nomatch z
          have sz : ∀ {n : Nat}, n ≤ 1000 → n ≤ sizeLine := fun h => Nat.le_trans h (by rw [sizeLine_eq]; decide)
          have ol : (⟨#[97 + j]⟩ : Str).length = 1 := rfl
          have l1 : (stem ++ (⟨#[97 + j]⟩ : Str)).length = stem.length + 1 := by
            rw [len_tl, str_add, List.length_append, ← len_tl, ← len_tl, ol]
          have l2 : ((⟨#[97 + j]⟩ : Str) ++ stem).length = 1 + stem.length := by
            rw [len_tl, str_add, List.length_append, ← len_tl, ← len_tl, ol]
          -- found.append([stem + own, own + stem][len(stem) % 2] + tail)
          refine ⟨.ref l, rfl, .inl ⟨rfl, _, .inl (.inl hl6)⟩, .str stem, rfl, _, rfl, stem, _, rfl, rfl, sz (by rw [ol]; omega), _, rfl, .str stem, rfl, _, stem, rfl, rfl, sz (by rw [ol]; omega), by show 2 ≤ sizeLine; rw [sizeLine_eq]; decide, fun t nt => ?_⟩
          have e8 : Ext p.a H6 (upd H6 t (.lst [.str (stem ++ (⟨#[97 + j]⟩ : Str)), .str ((⟨#[97 + j]⟩ : Str) ++ stem)])) := Ext.new hP6.is_ nt
          have ht8 : (upd H6 t (.lst [.str (stem ++ (⟨#[97 + j]⟩ : Str)), .str ((⟨#[97 + j]⟩ : Str) ++ stem)])) t = some (.lst [.str (stem ++ (⟨#[97 + j]⟩ : Str)), .str ((⟨#[97 + j]⟩ : Str) ++ stem)]) := upd_same
          have hP8 := hP6.new (o := .lst [.str (stem ++ (⟨#[97 + j]⟩ : Str)), .str ((⟨#[97 + j]⟩ : Str) ++ stem)]) nt
          have hl8 := e8.at hl6 fun _ z => nomatch z
          generalize upd H6 t (.lst [.str (stem ++ (⟨#[97 + j]⟩ : Str)), .str ((⟨#[97 + j]⟩ : Str) ++ stem)]) = H8 at e8 ht8 hP8 hl8 ⊢
          refine ⟨.str stem, rfl, stem, rfl, sz (by omega), _, 2, rfl, rfl, by walk_at "sc", t, _, _, .str (if stem.cps.toList.length % 2 = 0 then stem ++ (⟨#[97 + j]⟩ : Str) else (⟨#[97 + j]⟩ : Str) ++ stem), rfl, rfl, SqL.of ht8, ?_, ?_⟩
          · have el := len_tl stem
            by_cases ev : stem.cps.toList.length % 2 = 0
            · rw [if_pos ev, show ((stem.length : Int) % 2) = ((0 : Nat) : Int) by omega]
              exact atI_nat rfl
            · rw [if_neg ev, show ((stem.length : Int) % 2) = ((1 : Nat) : Int) by omega]
              exact atI_nat rfl
          · have lb : (if stem.cps.toList.length % 2 = 0 then stem ++ (⟨#[97 + j]⟩ : Str) else (⟨#[97 + j]⟩ : Str) ++ stem).length ≤ 7 := by
              split <;> omega
            have tb : (if stem.cps.toList.length % 2 = 0 then stem ++ (⟨#[97 + j]⟩ : Str) else (⟨#[97 + j]⟩ : Str) ++ stem).cps.toList = (if stem.cps.toList.length % 2 = 0 then stem.cps.toList ++ [97 + j] else [97 + j] ++ stem.cps.toList) := by
              split <;> rw [str_add]
            generalize (if stem.cps.toList.length % 2 = 0 then stem ++ (⟨#[97 + j]⟩ : Str) else (⟨#[97 + j]⟩ : Str) ++ stem) = nb at lb tb ⊢
            refine ⟨.str u, rfl, nb, u, rfl, rfl, sz (by omega), l, _, _, rfl, rfl, hl8, ?_, ?_⟩
            · rw [List.length_map, sizeLine_eq]
              omega
            · refine ⟨_, _, _, zs ++ [nb ++ u], b6, rfl, ((eH.trans e7).trans e8).mut nlH, hP8.mut hP nlH, by omega, ?_, by rw [List.length_append, hzl]; rfl, fun k z hk => ?_⟩
              · rw [upd_same, List.map_append]
                rfl
              · by_cases hkz : k < zs.length
                · rw [List.getElem?_append_left hkz] at hk
                  exact hz k z hk
                · rw [List.getElem?_append_right (by omega)] at hk
                  have k0 : k - zs.length = 0 := by
                    cases q0 : k - zs.length with
                    | zero => rfl
                    | succ n =>
                      rw [q0] at hk
                      cases hk
                  have ki : k = i := by omega
                  rw [k0] at hk
                  have zz : nb ++ u = z := Option.some.inj hk
                  subst zz
                  subst ki
                  refine ⟨97 + j, u.cps.toList, by rw [← show (0 : Int) + (k : Int) = k by omega]; omega, by rw [str_add, tb], u1, u2⟩
      · rintro σ' H' ⟨y7, y8, y9, zs, b', rfl, eH, hPH, hbH, hlH, hzl, hz⟩
        exact ⟨.ref l, rfl, q l zs H' b' eH nlH hPH (by omega) hlH (by omega) (fun z hzm => by
          obtain ⟨j, hj⟩ := List.mem_iff_getElem?.mp hzm
          exact nameAt_ok sl jm (hz j z hj)) (names_nodup hst (by omega) hz)⟩
end
end KP

namespace KP
open PySem PySem.Spec PyProof.Rows L2
local macro_rules | `(tactic| walk_at "sc") => `(tactic| first | (show (0 : Int) < _; decide) | (show (0 : Int) < _; omega) | (refine ⟨?_, ?_, ?_, ?_⟩ <;> (first | omega | (unfold Big; omega))) | (refine ⟨?_, ?_, ?_⟩ <;> (first | omega | (unfold Big; omega))) | (refine ⟨?_, ?_⟩ <;> (first | omega | (unfold Big; omega))))
/-! ### great numbers -/
def spPower : Sp := fun vs H Q _ => ∃ n : Nat, vs = [.int n] ∧ n ≤ 90 ∧ Q (.int (10 ^ n)) H
def spGreat (K : PySem.W.Frag) : Sp := fun vs H Q _ => ∃ (p : Pid) (n : Nat) (b : Int), vs = [.ref p.a, .int n] ∧ Pen K H p b ∧ 1 ≤ n ∧ n ≤ 90 ∧ b < 10 ^ 10 ∧
  ∀ (r : Int) (H' : Hp) (b' : Int), Ext p.a H H' → Pen K H' p b' → b' ≤ b + 100 → 0 ≤ r → r < 10 ^ n → Q (.int r) H'
theorem pow_le {n m : Nat} (h : n ≤ m) : (10 : Int) ^ n ≤ 10 ^ m := by
  have := Nat.pow_le_pow_right (show 0 < 10 by decide) h
  have e : ∀ k : Nat, (10 : Int) ^ k = ((10 ^ k : Nat) : Int) := fun k => by simp
  rw [e, e]
  omega
theorem pow_pos10 (n : Nat) : (1 : Int) ≤ 10 ^ n := by
  have := pow_le (Nat.zero_le n)
  simpa using this
section
variable {P : Program} {w : World} {K : PySem.W.Frag} {mg : Str → Option Value} {base : Heap}
theorem k_power (T : Tx K mg) : Cal P w K mg base 1 (He.ga K "_law_power") T.fd_power P_power spPower := by
  refine ⟨T.fn_power.ok sc_power (fun vs H Q E h => ?_) (fun cdv A outer s H vs Q E hr h => ?_), T.fn_power.kp, FunD.bindsN T.fn_power fun _ _ _ _ _ _ us hl => match us, hl with | [_], _ => rfl⟩
  · obtain ⟨n, rfl, _⟩ := h
    rfl
  · obtain ⟨n, rfl, hn, k⟩ := h
    refine ⟨_, PSs.nox (pss_cons (ps_set (i := 1) sc_power.nd rfl (Or.inl rfl) pe_int)
      (pss_cons (ps_for PassesOwn.never rfl (pi_range1 (by rfl) T.b_range (pa_cons (pv 0) pa_nil)) (pg_name (i := 2) sc_power.nd rfl (Or.inl rfl))
      (pss_one (ps_set (i := 1) sc_power.nd rfl (Or.inl rfl) (pe_op op_mulB (pv 1) pe_int))))
      (pss_one (ps_ret (pv 1))))), ?_⟩
    refine ⟨.int n, rfl, n, rfl, by omega, by omega, ?_⟩
    refine for_range (lo := 0) (n := n) (fun i σ' H' => ∃ y2 : Option V, σ' = [some (.int n), some (.int (10 ^ i)), y2] ∧ H' = H) ?_ ?_ ?_
    · exact ⟨none, rfl, rfl⟩
    · rintro i σ' H' hi ⟨y2, rfl, rfl⟩
      have h1 := pow_le (show i ≤ 90 by omega)
      have h2 := pow_pos10 i
      refine ⟨_, rfl, 10 ^ i, 10, rfl, rfl, by walk_at "sc", some (.int (0 + (i : Int))), ?_, rfl⟩
      rw [Int.pow_succ]
      rfl
    · rintro σ' H' ⟨y2, rfl, rfl⟩
      exact ⟨_, rfl, k⟩
theorem k_great (T : Tx K mg) : Cal P w K mg base 15 (He.ga K "_law_great") T.fd_great P_great (spGreat K) := by
  have c_draw := k_draw (P := P) (w := w) (base := base) T
  have c_pick := k_pick (P := P) (w := w) (base := base) T
  have c_power := k_power (P := P) (w := w) (base := base) T
  refine ⟨T.fn_great.ok sc_great (fun vs H Q E h => ?_) (fun cdv A outer s H vs Q E hr h => ?_), T.fn_great.kp, FunD.bindsN T.fn_great fun _ _ _ _ _ _ us hl => match us, hl with | [_, _], _ => rfl⟩
  · obtain ⟨p, n, b, rfl, _⟩ := h
    rfl
  · obtain ⟨p, n, b, rfl, hP, n1, n2, hb, k⟩ := h
    refine ⟨_, PSs.nox (pss_cons (ps_set (i := 2) sc_great.nd rfl (Or.inl rfl) (pe_call c_power.F (hr.mono (by decide)) (by rfl) T.g_power c_power.kp c_power.b .nil pass0 (pa_cons (pv 1) pa_nil)))
      (pss_cons (ps_set (i := 3) sc_great.nd rfl (Or.inl rfl) (pe_lst (pa_cons (pe_call c_draw.F (hr.mono (by decide)) (by rfl) T.g_draw c_draw.kp c_draw.b .nil pass0 (pa_cons (pv 0) (pa_cons pe_int pa_nil))) (pa_cons (pe_call c_draw.F (hr.mono (by decide)) (by rfl) T.g_draw c_draw.kp c_draw.b .nil pass0 (pa_cons (pv 0) (pa_cons (pv 2) pa_nil))) (pa_cons (pe_call c_draw.F (hr.mono (by decide)) (by rfl) T.g_draw c_draw.kp c_draw.b .nil pass0 (pa_cons (pv 0) (pa_cons (pv 2) pa_nil))) pa_nil)))))
      (pss_one (ps_ret (pe_call c_pick.F (hr.mono (by decide)) (by rfl) T.g_pick c_pick.kp c_pick.b .nil pass0 (pa_cons (pv 0) (pa_cons (pe_op op_cat (pv 3) (pe_lst (pa_cons (pe_op op_add (pe_op op_fdivB (pv 2) pe_int) (pe_call c_draw.F (hr.mono (by decide)) (by rfl) T.g_draw c_draw.kp c_draw.b .nil pass0 (pa_cons (pv 0) (pa_cons pe_int pa_nil)))) (pa_cons (pe_op op_sub (pe_op op_sub (pv 2) pe_int) (pe_call c_draw.F (hr.mono (by decide)) (by rfl) T.g_draw c_draw.kp c_draw.b .nil pass0 (pa_cons (pv 0) (pa_cons pe_int pa_nil)))) pa_nil)))) pa_nil))))))), ?_⟩
    refine ⟨.int n, rfl, n, rfl, n2, ?_⟩
    have m1 := pow_le n1
    have m2 := pow_le n2
    generalize (10 : Int) ^ n = most at m1 m2 k ⊢
    have m1' : 10 ≤ most := m1
    refine ⟨.ref p.a, rfl, p, 10, b, rfl, hP, by decide, by decide, by omega, fun r1 H1 b1 e1 hP1 hb1 r10 r11 => ?_⟩
    refine ⟨.ref p.a, rfl, .int most, rfl, p, most, b1, rfl, hP1, by omega, by omega, by omega, fun r2 H2 b2 e2 hP2 hb2 r20 r21 => ?_⟩
    refine ⟨.ref p.a, rfl, .int most, rfl, p, most, b2, rfl, hP2, by omega, by omega, by omega, fun r3 H3 b3 e3 hP3 hb3 r30 r31 => ?_⟩
    refine ⟨Nat.le_trans (show 3 ≤ 1000 by decide) (by rw [sizeLine_eq]; decide), fun l nl => ?_⟩
    have e4 : Ext p.a H3 (upd H3 l (.lst [.int r1, .int r2, .int r3])) := Ext.new hP3.is_ nl
    have hP4 := hP3.new (o := .lst [.int r1, .int r2, .int r3]) nl
    have hl : (upd H3 l (.lst [.int r1, .int r2, .int r3])) l = some (.lst [.int r1, .int r2, .int r3]) := upd_same
    generalize upd H3 l (.lst [.int r1, .int r2, .int r3]) = H4 at e4 hP4 hl ⊢
    refine ⟨.ref p.a, rfl, .ref l, rfl, .int most, rfl, most, 10, rfl, rfl, by walk_at "sc", .ref p.a, rfl, p, 7, b3, rfl, hP4, by decide, by decide, by omega, fun r4 H5 b5 e5 hP5 hb5 r40 r41 => ?_⟩
    refine ⟨_, _, rfl, rfl, .int most, rfl, most, 1, rfl, rfl, .ref p.a, rfl, p, 7, b5, rfl, hP5, by decide, by decide, by omega, fun r5 H6 b6 e6 hP6 hb6 r50 r51 => ?_⟩
    refine ⟨_, _, rfl, rfl, Nat.le_trans (show 2 ≤ 1000 by decide) (by rw [sizeLine_eq]; decide), fun u nu => ?_⟩
    have hl6 := (e5.trans e6).at hl fun _ z => nomatch z
    have e7 : Ext p.a H6 (upd H6 u (.lst [.int (most / 10 + r4), .int (most - 1 - r5)])) := Ext.new hP6.is_ nu
    have hP7 := hP6.new (o := .lst [.int (most / 10 + r4), .int (most - 1 - r5)]) nu
    have hu : (upd H6 u (.lst [.int (most / 10 + r4), .int (most - 1 - r5)])) u = some (.lst [.int (most / 10 + r4), .int (most - 1 - r5)]) := upd_same
    have hl7 := e7.at hl6 fun _ z => nomatch z
    generalize upd H6 u (.lst [.int (most / 10 + r4), .int (most - 1 - r5)]) = H7 at e7 hP7 hu hl7 ⊢
    refine ⟨l, u, _, _, rfl, rfl, hl7, hu, Nat.le_trans (show 5 ≤ 1000 by decide) (by rw [sizeLine_eq]; decide), fun v nv => ?_⟩
    refine ⟨p, .ref v, [.int r1, .int r2, .int r3, .int (most / 10 + r4), .int (most - 1 - r5)], b6, rfl, hP7.new nv, .inl ⟨v, rfl, .inl (SqL.of upd_same)⟩, (fun z => nomatch z), (show 5 ≤ 1000 by decide), by omega, fun x hx H8 b8 e8 hP8 hb8 => ?_⟩
    have e08 : Ext p.a H H8 := (e1.trans (e2.trans e3)).trans ((e4.trans (e5.trans e6)).trans (e7.trans ((Ext.new hP7.is_ nv).trans e8)))
    have fin : ∀ r : Int, 0 ≤ r → r < most → Q (.int r) H8 := fun r h1 h2 => k r H8 b8 e08 hP8 (by omega) h1 h2
    rcases List.mem_cons.mp hx with rfl | hx
    · exact fin _ r10 (by omega)
    rcases List.mem_cons.mp hx with rfl | hx
    · exact fin _ r20 r21
    rcases List.mem_cons.mp hx with rfl | hx
    · exact fin _ r30 r31
    rcases List.mem_cons.mp hx with rfl | hx
    · exact fin _ (by omega) (by omega)
    rw [List.mem_singleton.mp hx]
    exact fin _ (by omega) (by omega)
end
end KP

namespace KP
open PySem PySem.Spec PyProof.Rows L2
local macro_rules | `(tactic| walk_at "sc") => `(tactic| first | (show (0 : Int) < _; decide) | (show (0 : Int) < _; omega) | (refine ⟨?_, ?_, ?_, ?_⟩ <;> (first | omega | (unfold Big; omega))) | (refine ⟨?_, ?_, ?_⟩ <;> (first | omega | (unfold Big; omega))) | (refine ⟨?_, ?_⟩ <;> (first | omega | (unfold Big; omega))))
/-! ### painters -/
structure Ptr where
  name : Str
  day : Int
  post : Int
  stride : Int
structure Ptr.Ok (q : Ptr) : Prop where
  nm : NameOk q.name
  d0 : 0 ≤ q.day
  d1 : q.day ≤ 10 ^ 30
  p0 : -(10 ^ 30) ≤ q.post
  p1 : q.post ≤ 10 ^ 30
  s0 : -(10 ^ 18) ≤ q.stride
  s1 : q.stride ≤ 10 ^ 18
  sn : q.stride ≠ 0
def tupP (q : Ptr) : List V := [.str q.name, .int q.day, .int q.post, .int q.stride]
/-- the package's painter -/
def PObj (K : PySem.W.Frag) (H : Hp) (x : Addr) (q : Ptr) : Prop := ∃ dx t, H x = some (.ins (He.ga K "Painter") dx [("parts", .ref t)]) ∧ H t = some (.tup (tupP q))
theorem PObj.same {K : PySem.W.Frag} {H H' : Hp} {x : Addr} {q : Ptr} (h : PObj K H x q) (s : Same H H') : PObj K H' x q := by
  obtain ⟨dx, t, h1, h2⟩ := h
  exact ⟨dx, t, s _ _ h1, s _ _ h2⟩
theorem PObj.ext {K : PySem.W.Frag} {H H' : Hp} {p x : Addr} {q : Ptr} (h : PObj K H x q) (s : Ext p H H') : PObj K H' x q := by
  obtain ⟨dx, t, h1, h2⟩ := h
  exact ⟨dx, t, s.ins h1, s.at h2 fun _ z => nomatch z⟩
def spIsInt : Sp := fun vs H Q _ => ∃ i : Int, vs = [.int i] ∧ Q (.bl true) H
def spBetween : Sp := fun vs H Q _ => ∃ v lo hi : Int, vs = [.int v, .int lo, .int hi] ∧ Q (.bl (decide (lo ≤ v) && decide (v ≤ hi))) H
def spIsName : Sp := fun vs H Q _ => ∃ z : Str, vs = [.str z] ∧ NameOk z ∧ ∀ H', Same H H' → Q (.bl true) H'
def spPInit (K : PySem.W.Frag) : Sp := fun vs H Q _ => ∃ (x dx : Addr) (q : Ptr), vs = [.ref x, .str q.name, .int q.day, .int q.post, .int q.stride] ∧ H x = some (.ins (He.ga K "Painter") dx []) ∧ q.Ok ∧
  ∀ (t : Addr) (H' : Hp), Same H H' → H' t = some (.tup (tupP q)) → Q .non (upd H' x (.ins (He.ga K "Painter") dx [("parts", .ref t)]))
section
variable {P : Program} {w : World} {K : PySem.W.Frag} {mg : Str → Option Value} {base : Heap}
theorem k_is_integer (T : Tx K mg) : Cal P w K mg base 1 (He.ga K "is_integer") T.fd_is_integer P_is_integer spIsInt := by
  refine ⟨T.fn_is_integer.ok sc_is_integer (fun vs H Q E h => ?_) (fun cdv A outer s H vs Q E hr h => ?_), T.fn_is_integer.kp, FunD.bindsN T.fn_is_integer fun _ _ _ _ _ _ us hl => match us, hl with | [_], _ => rfl⟩
  · obtain ⟨i, rfl, _⟩ := h
    rfl
  · obtain ⟨i, rfl, q⟩ := h
    refine ⟨_, PSs.nox (pss_one (ps_ret (pe_and (pe_callB call_isi (by rfl) T.b_isinstance (by decide +kernel) (pa_cons (pv 0) (pa_cons (pe_bltn (v := .ty "int") (by rfl) T.b_int PyProof.Rows.boot_int rfl) pa_nil))) (pe_one (pe_not (pe_callB call_isi (by rfl) T.b_isinstance (by decide +kernel) (pa_cons (pv 0) (pa_cons (pe_bltn (v := .ty "bool") (by rfl) T.b_bool PyProof.Rows.boot_bool rfl) pa_nil)))))))), ?_⟩
    refine ⟨.int i, rfl, .int i, .ty "int", .type "int", .type "int", true, rfl, .ty _, .base (.int i), kit_ty (by decide +kernel), true, rfl, ?_⟩
    exact ⟨.int i, rfl, .int i, .ty "bool", .type "int", .type "bool", false, rfl, .ty _, .base (.int i), kit_ty (by decide +kernel), false, rfl, q⟩
theorem k_is_between (T : Tx K mg) : Cal P w K mg base 2 (He.ga K "is_between") T.fd_is_between P_is_between spBetween := by
  have c_is_integer := k_is_integer (P := P) (w := w) (base := base) T
  refine ⟨T.fn_is_between.ok sc_is_between (fun vs H Q E h => ?_) (fun cdv A outer s H vs Q E hr h => ?_), T.fn_is_between.kp, FunD.bindsN T.fn_is_between fun _ _ _ _ _ _ us hl => match us, hl with | [_, _, _], _ => rfl⟩
  · obtain ⟨v, lo, hi, rfl, _⟩ := h
    rfl
  · obtain ⟨v, lo, hi, rfl, q⟩ := h
    refine ⟨_, PSs.nox (pss_one (ps_ret (pe_and (pe_call c_is_integer.F (hr.mono (by decide)) (by rfl) T.g_is_integer c_is_integer.kp c_is_integer.b .nil pass0 (pa_cons (pv 0) pa_nil)) (pe_one (pe_chain op_le op_le (pv 1) (pv 0) (pv 2)))))), ?_⟩
    refine ⟨.int v, rfl, v, rfl, true, rfl, ?_⟩
    refine ⟨.int lo, rfl, .int v, rfl, lo, v, rfl, rfl, _, rfl, ite2 (fun e => ?_) (fun e => ?_)⟩
    · rw [e, Bool.true_and] at q
      exact ⟨.int hi, rfl, v, hi, rfl, rfl, q⟩
    · rw [Bool.eq_false_iff.mpr e, Bool.false_and] at q
      exact q
theorem k_is_name (T : Tx K mg) : Cal P w K mg base 1 (He.ga K "is_name") T.fd_is_name P_is_name spIsName := by
  refine ⟨T.fn_is_name.ok sc_is_name (fun vs H Q E h => ?_) (fun cdv A outer s H vs Q E hr h => ?_), T.fn_is_name.kp, FunD.bindsN T.fn_is_name fun _ _ _ _ _ _ us hl => match us, hl with | [_], _ => rfl⟩
  · obtain ⟨z, rfl, _⟩ := h
    rfl
  · obtain ⟨z, rfl, ⟨n1, n2, n3⟩, q⟩ := h
    refine ⟨_, PSs.nox (Evl.pss_cut (ps_if (PW.pt (pw_or (pt_not (pt_val (pe_callB call_isi (by rfl) T.b_isinstance (by decide +kernel) (pa_cons (pv 0) (pa_cons (pe_bltn (v := .ty "str") (by rfl) T.b_str PyProof.Rows.boot_str rfl) pa_nil))))) (pw_or1 (pt_not (pt_chain op_le op_le pe_int (pe_callB call_len_str (by rfl) T.b_len PySem.boot_len (pa_cons (pv 0) pa_nil)) (pglobI (by rfl) T.g_MAX_NAME)))))) (pss_one (ps_ret pe_bl)) pss_nil)
      (pss_one (ps_ret (pe_callB (cr_all rfl) (by rfl) T.b_all (by decide +kernel) (pa_cons (pe_lc (own := [("letter", 1)]) (by rfl) sc_is_name.nd (pi_str (pv 0)) (blkOk_by (own := [("letter", 1)]) (N := N_is_name) (sc := defScope s_is_name) (by decide +kernel)) (fun _ _ _ _ _ => pg_name (i := 1) sc_is_name.nd rfl (Or.inl rfl)) (fun _ _ _ _ _ => pts_nil) (fun _ _ _ _ _ => (pe_cmpR op_in_sign (pv 1) (pglobS (by rfl) T.g_LETTERS) (by rfl)))) pa_nil))))), ?_⟩
    refine ⟨fun σ' H' => σ' = [some (.str z), none] ∧ H' = H, ?_, ?_⟩
    · refine ⟨.str z, rfl, .str z, .ty "str", .type "str", .type "str", true, rfl, .ty _, .base (.str z), kit_ty (by decide +kernel), true, rfl, ?_⟩
      refine ⟨.str z, rfl, z, rfl, Nat.le_trans n2 (by rw [sizeLine_eq]; decide), 1, _, rfl, rfl, _, rfl, ?_⟩
      rw [decide_eq_true (show (1 : Int) ≤ (z.length : Int) by omega)]
      refine ⟨_, 8, rfl, rfl, _, rfl, ?_⟩
      rw [decide_eq_true (show (z.length : Int) ≤ 8 by omega)]
      exact ⟨rfl, rfl⟩
    · rintro σ' H' ⟨rfl, rfl⟩
      refine ⟨.str z, rfl, z, rfl, fun Dl nD => ?_⟩
      refine lc_by (J := Its z) (n := z.cps.size) (fun i H2 => H2 = upd H' Dl (.lst ((List.replicate i true).map V.bl))) rfl (fun i H2 hi _ => hi) (fun H2 _ => Nat.le_refl _) ?_ ?_
      · rintro i H2 x H3 hi rfl ⟨rfl, c, hc, rfl⟩
        have hcm : c ∈ z.cps.toList := by
          rw [← Array.getElem?_toList] at hc
          exact List.mem_of_getElem? hc
        have ca := n3 c hcm
        have cin : c ∈ abc.cps.toList := by
          rw [abc_tl]
          unfold abcL
          exact List.mem_map.mpr ⟨c - 97, List.mem_range.mpr (by omega), by omega⟩
        refine ⟨rfl, _, rfl, c, abc, rfl, rfl, _, upd_same, ?_, ?_⟩
        · rw [List.length_map, List.length_replicate, sizeLine_eq]
          have : z.cps.size ≤ 8 := n2
          omega
        · rw [upd_upd, decide_eq_true cin, List.replicate_succ', List.map_append]
          rfl
      · rintro H2 rfl
        refine ⟨Dl, List.replicate z.cps.size true, rfl, SqL.of upd_same, ?_⟩
        have e : (List.replicate z.cps.size true).all id = true := by
          rw [List.all_eq_true]
          exact fun b hb => List.eq_of_mem_replicate hb
        rw [e]
        exact q _ (Same.new nD)
theorem k_Painter_init (T : Tx K mg) : Cal P w K mg base 3 (He.ma K (He.ga K "Painter") "__init__") T.fd_Painter_init P_Painter_init (spPInit K) := by
  have c_is_name := k_is_name (P := P) (w := w) (base := base) T
  have c_is_between := k_is_between (P := P) (w := w) (base := base) T
  refine ⟨T.fn_Painter_init.ok sc_Painter_init (fun vs H Q E h => ?_) (fun cdv A outer s H vs Q E hr h => ?_), T.fn_Painter_init.kp, FunD.bindsN T.fn_Painter_init fun _ _ _ _ _ _ us hl => match us, hl with | [_, _, _, _, _], _ => rfl⟩
  · obtain ⟨x, dx, q, rfl, _⟩ := h
    rfl
  · obtain ⟨x, dx, q, rfl, hx, ok, k⟩ := h
    refine ⟨_, PSs.nox (pss_cons (ps_if (pt_not (pt_val (pe_call c_is_name.F (hr.mono (by decide)) (by rfl) T.g_is_name_names c_is_name.kp c_is_name.b .nil pass0 (pa_cons (pv 1) pa_nil)))) (pss_one ps_never) pss_nil)
      (pss_cons (ps_if (pt_not (pt_val (pe_call c_is_between.F (hr.mono (by decide)) (by rfl) T.g_is_between c_is_between.kp c_is_between.b .nil pass0 (pa_cons (pv 2) (pa_cons pe_int (pa_cons (pe_con (pv 0) rfl) pa_nil)))))) (pss_one ps_never) pss_nil)
      (pss_cons (ps_if (pt_not (pt_val (pe_call c_is_between.F (hr.mono (by decide)) (by rfl) T.g_is_between c_is_between.kp c_is_between.b .nil pass0 (pa_cons (pv 3) (pa_cons (pe_un un_neg (pe_con (pv 0) rfl)) (pa_cons (pe_con (pv 0) rfl) pa_nil)))))) (pss_one ps_never) pss_nil)
      (Evl.pss_cut (ps_if (PW.pt (pw_or (pt_not (pt_val (pe_call c_is_between.F (hr.mono (by decide)) (by rfl) T.g_is_between c_is_between.kp c_is_between.b .nil pass0 (pa_cons (pv 4) (pa_cons (pe_un un_neg (pe_con (pv 0) rfl)) (pa_cons (pe_con (pv 0) rfl) pa_nil)))))) (pw_or1 (pt_cmpR op_eq (pv 4) pe_int (nomark _))))) (pss_one ps_never) pss_nil)
      (pss_one (ps_fld (pv 0) (pe_tup (pa_cons (pv 1) (pa_cons (pv 2) (pa_cons (pv 3) (pa_cons (pv 4) pa_nil))))) rfl)))))), ?_⟩
    obtain ⟨u1, o1⟩ := T.o_Painter_MAX_DAY
    obtain ⟨u2, o2⟩ := T.o_Painter_MAX_POST
    obtain ⟨u3, o3⟩ := T.o_Painter_MAX_STRIDE
    have d0 := ok.d0
    have d1 := ok.d1
    have p0 := ok.p0
    have p1 := ok.p1
    have s0 := ok.s0
    have s1 := ok.s1
    refine ⟨_, rfl, q.name, rfl, ok.nm, fun H1 sm1 => ⟨true, rfl, ?_⟩⟩
    have hx1 := sm1 _ _ hx
    refine ⟨_, rfl, .ref x, rfl, x, _, dx, [], _, u1, rfl, hx1, T.c_Painter, o1, rfl, q.day, 0, _, rfl, _, rfl, ?_⟩
    rw [decide_eq_true d0, decide_eq_true (show q.day ≤ 1000000000000000000000000000000 by omega)]
    refine ⟨_, rfl, .ref x, rfl, x, _, dx, [], _, u2, rfl, hx1, T.c_Painter, o2, rfl, _, rfl, .ref x, rfl, x, _, dx, [], _, u2, rfl, hx1, T.c_Painter, o2, rfl, q.post, _, _, rfl, _, rfl, ?_⟩
    rw [decide_eq_true (show -1000000000000000000000000000000 ≤ q.post by omega), decide_eq_true (show q.post ≤ 1000000000000000000000000000000 by omega)]
    refine ⟨fun σ' H' => σ' = [some (.ref x), some (.str q.name), some (.int q.day), some (.int q.post), some (.int q.stride)] ∧ H' = H1, ?_, ?_⟩
    · refine ⟨_, rfl, .ref x, rfl, x, _, dx, [], _, u3, rfl, hx1, T.c_Painter, o3, rfl, _, rfl, .ref x, rfl, x, _, dx, [], _, u3, rfl, hx1, T.c_Painter, o3, rfl, q.stride, _, _, rfl, _, rfl, ?_⟩
      rw [decide_eq_true (show -1000000000000000000 ≤ q.stride by omega), decide_eq_true (show q.stride ≤ 1000000000000000000 by omega)]
      refine ⟨_, rfl, rfl, _, rfl, ite2 (fun e => ?_) (fun e => ⟨rfl, rfl⟩)⟩
      exact absurd (V.int.inj (of_decide_eq_true e)) ok.sn
    · rintro σ' H' ⟨rfl, rfl⟩
      refine ⟨_, rfl, _, rfl, _, rfl, _, rfl, by show 4 ≤ sizeLine; rw [sizeLine_eq]; decide, fun t nt => ?_⟩
      refine ⟨.ref x, rfl, x, _, dx, [], rfl, Same.new nt _ _ hx1, T.c_Painter, T.n_Painter_parts, by decide, ?_⟩
      exact k t _ (sm1.trans (Same.new nt)) upd_same
end
end KP

namespace KP
open PySem PySem.Spec PyProof.Rows L2
local macro_rules | `(tactic| walk_at "sc") => `(tactic| first | (show (0 : Int) < _; decide) | (show (0 : Int) < _; omega) | (refine ⟨?_, ?_, ?_, ?_⟩ <;> (first | omega | (unfold Big; omega))) | (refine ⟨?_, ?_, ?_⟩ <;> (first | omega | (unfold Big; omega))) | (refine ⟨?_, ?_⟩ <;> (first | omega | (unfold Big; omega))))
/-! ### painters made, two painters close together -/
def spMade (K : PySem.W.Frag) : Sp := fun vs H Q _ => ∃ (a : Addr) (q : Ptr), vs = [.ref a] ∧ H a = some (.tup (tupP q)) ∧ q.Ok ∧ ∀ (x : Addr) (H' : Hp), Same H H' → H x = none → PObj K H' x q → Q (.ref x) H'
structure Ptr.Sm (q : Ptr) : Prop where
  nm : NameOk q.name
  d0 : 0 ≤ q.day
  d1 : q.day ≤ 7
  p0 : -9 ≤ q.post
  p1 : q.post ≤ 9
  s0 : -9 ≤ q.stride
  s1 : q.stride ≤ 9
  sn : q.stride ≠ 0
theorem Ptr.Sm.ok {q : Ptr} (h : q.Sm) : q.Ok := ⟨h.nm, h.d0, by have := h.d1; omega, by have := h.p0; omega, by have := h.p1; omega, by have := h.s0; omega, by have := h.s1; omega, h.sn⟩
/-- tuples of painters -/
def PTup (H : Hp) (G : Ptr → Prop) (v : V) (q : Ptr) : Prop := ∃ a, v = .ref a ∧ H a = some (.tup (tupP q)) ∧ G q
abbrev PList (H : Hp) (G : Ptr → Prop) : List V → List Ptr → Prop := Paired (PTup H G)
theorem PList.mono {H H' : Hp} {G : Ptr → Prop} (h : ∀ a q, H a = some (.tup (tupP q)) → H' a = some (.tup (tupP q))) : ∀ {vs : List V} {qs : List Ptr}, PList H G vs qs → PList H' G vs qs
  | _, _, .nil => .nil
  | _, _, .cons ⟨a, e, ha, g⟩ r => .cons ⟨a, e, h _ _ ha, g⟩ (PList.mono h r)
theorem PList.ext {H H' : Hp} {G : Ptr → Prop} {p : Addr} {vs : List V} {qs : List Ptr} (e : Ext p H H') (h : PList H G vs qs) : PList H' G vs qs := h.mono fun a q ha => e.at ha fun _ z => nomatch z
theorem PList.snoc {H : Hp} {G : Ptr → Prop} {v : V} {q : Ptr} (h2 : PTup H G v q) : ∀ {vs : List V} {qs : List Ptr}, PList H G vs qs → PList H G (vs ++ [v]) (qs ++ [q])
  | _, _, .nil => .cons h2 .nil
  | _, _, .cons x r => .cons x (PList.snoc h2 r)
theorem PList.get {H : Hp} {G : Ptr → Prop} {v : V} : ∀ {vs : List V} {qs : List Ptr} {i : Nat}, PList H G vs qs → vs[i]? = some v → ∃ q, qs[i]? = some q ∧ PTup H G v q
  | _, _, _, .nil, h => by simp at h
  | _, _, 0, .cons x r, h => by
    simp at h
    subst h
    exact ⟨_, rfl, x⟩
  | _, _, i + 1, .cons x r, h => by
    obtain ⟨q, h1, h2⟩ := PList.get (i := i) r (by simpa using h)
    exact ⟨q, by simpa using h1, h2⟩
theorem PList.mem {H : Hp} {G : Ptr → Prop} {v : V} {vs : List V} {qs : List Ptr} (h : PList H G vs qs) (hv : v ∈ vs) : ∃ q, q ∈ qs ∧ PTup H G v q := by
  obtain ⟨i, hi⟩ := List.mem_iff_getElem?.mp hv
  obtain ⟨q, h1, h2⟩ := h.get hi
  exact ⟨q, List.mem_of_getElem? h1, h2⟩
/-- a store into a list leaves the tuples -/
theorem PList.mut {H : Hp} {G : Ptr → Prop} {l : Addr} {xs : List V} {o : HO} {vs : List V} {qs : List Ptr} (h : PList H G vs qs) (hl : H l = some (.lst xs)) : PList (upd H l o) G vs qs := h.mono fun a q ha => by
  rw [upd_ne (ne_of ha hl fun z => nomatch z)]
  exact ha
def spDuo (K : PySem.W.Frag) : Sp := fun vs H Q _ => ∃ (p : Pid) (b : Int), vs = [.ref p.a] ∧ Pen K H p b ∧ b < 10 ^ 9 ∧
  ∀ (l t1 t2 : Addr) (q1 q2 : Ptr) (H' : Hp) (b' : Int), Ext p.a H H' → Pen K H' p b' → b' ≤ b + 2000 → H' l = some (.lst [.ref t1, .ref t2]) → H' t1 = some (.tup (tupP q1)) → H' t2 = some (.tup (tupP q2)) → q1.Sm → q2.Sm → Q (.ref l) H'
section
variable {P : Program} {w : World} {K : PySem.W.Frag} {mg : Str → Option Value} {base : Heap}
theorem sz_of {n : Nat} (h : n ≤ 1000) : n ≤ sizeLine := Nat.le_trans h (by rw [sizeLine_eq]; decide)
/-- a new painter: what its making leaves -/
theorem make_painter {H : Hp} {x dx : Addr} {q : Ptr} {Q : VK} (nx : H x = none) (ndx : H dx = none) (ne : dx ≠ x) (ok : q.Ok) (k : ∀ (x : Addr) (H' : Hp), Same H H' → H x = none → PObj K H' x q → Q (.ref x) H') :
    spPInit K [.ref x, .str q.name, .int q.day, .int q.post, .int q.stride] (upd (upd H dx (.own x)) x (.ins (He.ga K "Painter") dx [])) (fun v H2 => v = .non ∧ Q (.ref x) H2) E0 := by
  refine ⟨x, dx, q, rfl, upd_same, ok, fun t H' sm ht => ⟨rfl, k x _ ?_ nx ⟨dx, t, upd_same, ?_⟩⟩⟩
  · have s1 : Same H (upd H dx (.own x)) := Same.new ndx
    exact Same.mut ((Same.mut s1 nx).trans sm) nx
  · have hx := sm x _ upd_same
    rw [upd_ne (ne_of ht hx fun z => nomatch z)]
    exact ht
theorem k_made (T : Tx K mg) : Cal P w K mg base 5 (He.ga K "_law_made") T.fd_made P_made (spMade K) := by
  have c_Painter_init := k_Painter_init (P := P) (w := w) (base := base) T
  refine ⟨T.fn_made.ok sc_made (fun vs H Q E h => ?_) (fun cdv A outer s H vs Q E hr h => ?_), T.fn_made.kp, FunD.bindsN T.fn_made fun _ _ _ _ _ _ us hl => match us, hl with | [_], _ => rfl⟩
  · obtain ⟨a, q, rfl, _⟩ := h
    rfl
  · obtain ⟨a, q, rfl, ha, ok, k⟩ := h
    refine ⟨_, PSs.nox (pss_cons (ps_asg (pv 0) (pg_tup rfl (pgs_cons (pg_name (i := 1) sc_made.nd rfl (Or.inl rfl)) (pgs_cons (pg_name (i := 2) sc_made.nd rfl (Or.inl rfl)) (pgs_cons (pg_name (i := 3) sc_made.nd rfl (Or.inl rfl)) (pgs_cons (pg_name (i := 4) sc_made.nd rfl (Or.inl rfl)) pgs_nil))))))
      (pss_one (ps_ret (pe_make T.k_Painter c_Painter_init.F (hr.mono (by decide)) (by rfl) T.g_Painter c_Painter_init.b .nil pass0 (pa_cons (pv 1) (pa_cons (pv 2) (pa_cons (pv 3) (pa_cons (pv 4) pa_nil)))))))), ?_⟩
    refine ⟨.ref a, rfl, a, tupP q, rfl, SqT.of ha, rfl, _, _, rfl, _, _, rfl, _, _, rfl, _, _, rfl, rfl, ?_⟩
    exact ⟨_, rfl, _, rfl, _, rfl, _, rfl, fun x dx nx ndx ne => make_painter nx ndx ne ok k⟩
end
end KP

namespace KP
open PySem PySem.Spec PyProof.Rows L2
local macro_rules | `(tactic| walk_at "sc") => `(tactic| first | (show (0 : Int) < _; decide) | (show (0 : Int) < _; omega) | (refine ⟨?_, ?_, ?_, ?_⟩ <;> (first | omega | (unfold Big; omega))) | (refine ⟨?_, ?_, ?_⟩ <;> (first | omega | (unfold Big; omega))) | (refine ⟨?_, ?_⟩ <;> (first | omega | (unfold Big; omega))))
/-! ### the package's own numbers -/
theorem ifabs (v : Int) : (if v < 0 then -v else v) = (v.natAbs : Int) := by split <;> omega
def spGcd : Sp := fun vs H Q _ => ∃ a b : Int, vs = [.int a, .int b] ∧ Q (.int (Int.gcd a b : Int)) H
def spInv : Sp := fun vs H Q _ => ∃ n m : Int, vs = [.int n, .int m] ∧ 0 < m ∧ m ≤ 10 ^ 40 ∧ Int.gcd n m = 1 ∧ ∀ x : Int, 0 ≤ x → x < m → (n * x) % m = 1 % m → ∀ H', Same H H' → Q (.int x) H'
def optV : Option Int → V
  | none => .non
  | some i => .int i
/-- the conditions of least_fit -/
def CList (K : PySem.W.Frag) (H : Hp) : List V → List (Int × Int) → Prop := Paired fun v x => ∃ a, v = .ref a ∧ SqT K H a [.int x.1, .int x.2]
structure FitR (ps : List (Int × Int)) (low : Int) (high : Option Int) : Prop where
  fit : Fit ps low high
  nrm : ∀ h, high = some h → low ≤ h ∨ (low = 1 ∧ h = 0)
  nn : high = none → ∀ x ∈ ps, 0 ≤ x.2
  pp : (∀ x ∈ ps, 0 < x.2) → high = none
  l0 : 0 ≤ low
  l1 : low ≤ 10 ^ 90
  h0 : ∀ h, high = some h → -(10 ^ 90) ≤ h ∧ h ≤ 10 ^ 90
def spFit (K : PySem.W.Frag) : Sp := fun vs H Q _ => ∃ (l : Addr) (vs' : List V) (ps : List (Int × Int)), vs = [.ref l] ∧ SqL K H l vs' ∧ CList K H vs' ps ∧ (∀ x ∈ ps, -(10 ^ 80) ≤ x.1 ∧ x.1 ≤ 10 ^ 80 ∧ -(10 ^ 80) ≤ x.2 ∧ x.2 ≤ 10 ^ 80) ∧
  ∀ (t : Addr) (low : Int) (high : Option Int) (H' : Hp), Same H H' → H t = none → H' t = some (.tup [.int low, optV high]) → FitR ps low high → Q (.ref t) H'
def wayV (q : Ptr) : List V := [.int q.day, .int q.post, .int q.stride]
def spStride (K : PySem.W.Frag) : Sp := fun vs H Q _ => ∃ (x : Addr) (q : Ptr), vs = [.ref x] ∧ PObj K H x q ∧ Q (.int q.stride) H
def spWay (K : PySem.W.Frag) : Sp := fun vs H Q _ => ∃ (x : Addr) (q : Ptr), vs = [.ref x] ∧ PObj K H x q ∧ ∀ t, H t = none → Q (.ref t) (upd H t (.tup (wayV q)))
theorem gcd_mod (x y : Int) : Int.gcd y (x % y) = Int.gcd x y := by
  rw [Int.gcd_comm x y, Int.gcd_right_eq_iff]
  intro c hc
  have h := Int.emod_add_mul_ediv x y
  constructor
  · intro h1
    rw [← h]
    exact Int.dvd_add h1 (Int.dvd_mul_of_dvd_left hc)
  · intro h1
    have : x % y = x - y * (x / y) := by omega
    rw [this]
    exact Int.dvd_sub h1 (Int.dvd_mul_of_dvd_left hc)
section
variable {P : Program} {w : World} {K : PySem.W.Frag} {mg : Str → Option Value} {base : Heap}
theorem k_way (T : Tx K mg) : Cal P w K mg base 1 (pgA K (He.ga K "Painter") "way") T.fd_Painter_way P_Painter_way (spWay K) := by
  refine ⟨T.fn_Painter_way.ok sc_Painter_way (fun vs H Q E h => ?_) (fun cdv A outer s H vs Q E hr h => ?_), T.fn_Painter_way.kp, FunD.bindsN T.fn_Painter_way fun _ _ _ _ _ _ us hl => match us, hl with | [_], _ => rfl⟩
  · obtain ⟨x, q, rfl, _⟩ := h
    rfl
  · obtain ⟨x, q, rfl, ⟨dx, t, hx, ht⟩, k⟩ := h
    refine ⟨_, PSs.nox (pss_one (ps_ret (pe_slice sl_tup (pe_fld (pv 0) rfl) (po_some pe_int) po_none))), ?_⟩
    exact ⟨.ref x, rfl, x, _, dx, _, .ref t, rfl, hx, T.c_Painter, T.n_Painter_parts, rfl, 1, rfl, t, _, rfl, SqT.of ht, (show ¬(HT.sIx 4 0 (some 1) = 0 ∧ HT.sIx 4 4 none = 4) by decide), k⟩
theorem k_gcd (T : Tx K mg) : Cal P w K mg base 1 (He.ga K "greatest_divisor") T.fd_greatest_divisor P_greatest_divisor spGcd := by
  refine ⟨T.fn_greatest_divisor.ok sc_greatest_divisor (fun vs H Q E h => ?_) (fun cdv A outer s H vs Q E hr h => ?_), T.fn_greatest_divisor.kp, FunD.bindsN T.fn_greatest_divisor fun _ _ _ _ _ _ us hl => match us, hl with | [_, _], _ => rfl⟩
  · obtain ⟨a, b, rfl, _⟩ := h
    rfl
  · obtain ⟨a, b, rfl, k⟩ := h
    refine ⟨_, PSs.nox (pss_cons (ps_par (by rfl) sc_greatest_divisor.nd (i := 0) (j := 1) rfl rfl (by decide) rfl rfl (pa_cons (pe_callB call_abs (by rfl) T.b_abs (by decide +kernel) (pa_cons (pv 0) pa_nil)) (pa_cons (pe_callB call_abs (by rfl) T.b_abs (by decide +kernel) (pa_cons (pv 1) pa_nil)) pa_nil)) (by rfl))
      (pss_cons (ps_while PassesOwn.never (pt_cmpR op_ne (pv 1) pe_int (nomark _))
      (pss_one (ps_par (by rfl) sc_greatest_divisor.nd (i := 0) (j := 1) rfl rfl (by decide) rfl rfl (pa_cons (pv 1) (pa_cons (pe_op op_mod (pv 0) (pv 1)) pa_nil)) (by rfl))))
      (pss_one (ps_ret (pv 0))))), ?_⟩
    refine ⟨.int a, rfl, a, rfl, .int b, rfl, b, rfl, _, _, rfl, ?_⟩
    rw [ifabs, ifabs]
    refine ⟨fun m σ' H' => ∃ x y : Int, σ' = [some (.int x), some (.int y)] ∧ H' = H ∧ 0 ≤ x ∧ 0 ≤ y ∧ m = y.toNat ∧ Int.gcd x y = Int.gcd a b, ⟨_, _, _, rfl, rfl, by omega, by omega, rfl, rfl⟩, ?_⟩
    rintro m σ' H' ⟨x, y, rfl, rfl, x0, y0, rfl, hg⟩
    refine ⟨.int y, rfl, rfl, _, rfl, ite2 (fun e => ?_) (fun e => ?_)⟩
    · have yn : y ≠ 0 := fun z => by
        subst z
        cases e
      refine ⟨fun σ2 H2 => ∃ x2 y2 : Int, σ2 = [some (.int x2), some (.int y2)] ∧ H2 = H' ∧ 0 ≤ x2 ∧ 0 ≤ y2 ∧ y2 < y ∧ Int.gcd x2 y2 = Int.gcd a b, ?_, ?_⟩
      · rintro σ2 H2 ⟨x2, y2, rfl, rfl, h1, h2, h3, h4⟩
        exact ⟨y2.toNat, by omega, x2, y2, rfl, rfl, h1, h2, rfl, h4⟩
      · refine ⟨.int y, rfl, .int x, rfl, .int y, rfl, x, y, rfl, rfl, by walk_at "sc", _, _, rfl, y, x % y, rfl, rfl, y0, Int.emod_nonneg _ yn, Int.emod_lt_of_pos _ (by omega), ?_⟩
        rw [← hg]
        exact gcd_mod x y
    · have yz : y = 0 := Classical.byContradiction fun z => e (by simp [z])
      subst yz
      refine ⟨.int x, rfl, ?_⟩
      have : (Int.gcd a b : Int) = x := by
        rw [← hg, Int.gcd_zero_right]
        omega
      rw [this] at k
      exact k
theorem inv_step {m x y f g tn : Int} (h : f.natAbs * y + g.natAbs * x ≤ m) (y0 : 0 < y) (x0 : 0 ≤ x) (ht : tn = x / y) : (g.natAbs : Int) * (x - tn * y) + ((f - tn * g).natAbs : Int) * y ≤ m := by
  have t0 : 0 ≤ tn := by
    rw [ht]
    exact Int.ediv_nonneg x0 (by omega)
  have a1 : ((f - tn * g).natAbs : Int) ≤ f.natAbs + tn * g.natAbs := by
    have e : ((tn * g).natAbs : Int) = tn * g.natAbs := by
      rw [Int.natAbs_mul]
      rcases abs_cases tn with ⟨_, h2⟩ | ⟨h1, _⟩
      · rw [Int.natCast_mul, h2]
      · omega
    omega
  have a2 : ((f - tn * g).natAbs : Int) * y ≤ (f.natAbs + tn * g.natAbs) * y := Int.mul_le_mul_of_nonneg_right a1 (by omega)
  grind
theorem k_inv (T : Tx K mg) : Cal P w K mg base 1 (He.ga K "inverse") T.fd_inverse P_inverse spInv := by
  refine ⟨T.fn_inverse.ok sc_inverse (fun vs H Q E h => ?_) (fun cdv A outer s H vs Q E hr h => ?_), T.fn_inverse.kp, FunD.bindsN T.fn_inverse fun _ _ _ _ _ _ us hl => match us, hl with | [_, _], _ => rfl⟩
  · obtain ⟨n, m, rfl, _⟩ := h
    rfl
  · obtain ⟨n, m, rfl, m0, mb, hg, k⟩ := h
    refine ⟨_, PSs.nox (pss_cons (ps_asg (pe_tup (pa_cons (pe_op op_mod (pv 0) (pv 1)) (pa_cons (pv 1) (pa_cons pe_int (pa_cons pe_int pa_nil))))) (pg_tup rfl (pgs_cons (pg_name (i := 2) sc_inverse.nd rfl (Or.inl rfl)) (pgs_cons (pg_name (i := 3) sc_inverse.nd rfl (Or.inl rfl)) (pgs_cons (pg_name (i := 4) sc_inverse.nd rfl (Or.inl rfl)) (pgs_cons (pg_name (i := 5) sc_inverse.nd rfl (Or.inl rfl)) pgs_nil))))))
      (pss_cons (ps_while PassesOwn.never (pt_cmpR op_ne (pv 3) pe_int (nomark _))
      (pss_cons (ps_set (i := 6) sc_inverse.nd rfl (Or.inl rfl) (pe_op op_fdivB (pv 2) (pv 3)))
      (pss_cons (ps_par (by rfl) sc_inverse.nd (i := 2) (j := 3) rfl rfl (by decide) rfl rfl (pa_cons (pv 3) (pa_cons (pe_op op_sub (pv 2) (pe_op op_mulB (pv 6) (pv 3))) pa_nil)) (by rfl))
      (pss_one (ps_par (by rfl) sc_inverse.nd (i := 4) (j := 5) rfl rfl (by decide) rfl rfl (pa_cons (pv 5) (pa_cons (pe_op op_sub (pv 4) (pe_op op_mulB (pv 6) (pv 5))) pa_nil)) (by rfl))))))
      (pss_one (ps_ret (pe_op op_mod (pv 4) (pv 1)))))), ?_⟩
    refine ⟨.int n, rfl, .int m, rfl, n, m, rfl, rfl, m0, .int m, rfl, sz_of (show 4 ≤ 1000 by decide), fun t nt => ?_⟩
    refine ⟨t, _, rfl, SqT.of upd_same, rfl, _, _, rfl, _, _, rfl, _, _, rfl, _, _, rfl, rfl, ?_⟩
    have sm : Same H (upd H t (.tup [.int (n % m), .int m, .int 1, .int 0])) := Same.new nt
    generalize upd H t (.tup [.int (n % m), .int m, .int 1, .int 0]) = H1 at sm ⊢
    have nm0 := Int.emod_nonneg n (show m ≠ 0 by omega)
    have nm1 := Int.emod_lt_of_pos n m0
    refine ⟨fun c σ' H' => ∃ (x y f g : Int) (y6 : Option V), σ' = [some (.int n), some (.int m), some (.int x), some (.int y), some (.int f), some (.int g), y6] ∧ H' = H1 ∧ 0 ≤ x ∧ x ≤ m ∧ 0 ≤ y ∧ y ≤ m ∧ c = y.toNat ∧ Int.gcd x y = 1 ∧
      (f.natAbs : Int) * y + g.natAbs * x ≤ m ∧ (g = 0 ∨ 1 ≤ x) ∧ (∃ u, f * n = x + m * u) ∧ (∃ u, g * n = y + m * u), ⟨_, n % m, m, 1, 0, none, rfl, rfl, nm0, by omega, by omega, by omega, rfl, ?_, by simp, .inl rfl, ⟨n / m, ?_⟩, ⟨-1, by omega⟩⟩, ?_⟩
    · rw [Int.gcd_comm, gcd_mod]
      exact hg
    · have := Int.emod_add_mul_ediv n m
      omega
    rintro c σ' H' ⟨x, y, f, g, y6, rfl, rfl, x0, xm, y0, ym, rfl, hxy, hb, hgx, ⟨u, hu⟩, ⟨v, hv⟩⟩
    refine ⟨.int y, rfl, rfl, _, rfl, ite2 (fun e => ?_) (fun e => ?_)⟩
    · have yn : y ≠ 0 := fun z => by
        subst z
        cases e
      have tq0 : 0 ≤ x / y := Int.ediv_nonneg x0 y0
      have tq1 : x / y ≤ x := Int.ediv_le_self y x0
      have fb : (f.natAbs : Int) ≤ m := by
        have h1 : (f.natAbs : Int) * 1 ≤ f.natAbs * y := Int.mul_le_mul_of_nonneg_left (by omega) (by omega)
        have h2 : 0 ≤ (g.natAbs : Int) * x := Int.mul_nonneg (by omega) x0
        omega
      have gb : (g.natAbs : Int) ≤ m := by
        rcases hgx with rfl | h1
        · simp
          omega
        · have h1 : (g.natAbs : Int) * 1 ≤ g.natAbs * x := Int.mul_le_mul_of_nonneg_left (by omega) (by omega)
          have h2 : 0 ≤ (f.natAbs : Int) * y := Int.mul_nonneg (by omega) y0
          omega
      have em := Int.emod_add_mul_ediv x y
      have r0 := Int.emod_nonneg x yn
      have r1 := Int.emod_lt_of_pos x (show 0 < y by omega)
      have cm : x / y * y = y * (x / y) := Int.mul_comm _ _
      refine ⟨_, fun σ2 H2 z => z, ?_⟩
      refine ⟨.int x, rfl, .int y, rfl, x, y, rfl, rfl, by walk_at "sc", ?_⟩
      refine ⟨.int y, rfl, .int x, rfl, .int (x / y), rfl, .int y, rfl, x / y, y, rfl, rfl, by walk_at "sc", x, _, rfl, rfl, _, _, rfl, ?_⟩
      refine ⟨.int g, rfl, .int f, rfl, .int (x / y), rfl, .int g, rfl, x / y, g, rfl, rfl, by walk_at "sc", f, _, rfl, rfl, _, _, rfl, ?_⟩
      refine ⟨(x % y).toNat, by omega, y, x - x / y * y, g, f - x / y * g, _, rfl, rfl, y0, ym, by omega, by omega, by congr 1; omega, ?_, inv_step hb (by omega) x0 rfl, .inr (by omega), ⟨v, hv⟩, ⟨u - x / y * v, by grind⟩⟩
      rw [show x - x / y * y = x % y by omega, gcd_mod]
      exact hxy
    · have yz : y = 0 := Classical.byContradiction fun z => e (by simp [z])
      subst yz
      have x1 : x = 1 := by
        rw [Int.gcd_zero_right] at hxy
        omega
      subst x1
      refine ⟨.int f, rfl, .int m, rfl, f, m, rfl, rfl, m0, k (f % m) (Int.emod_nonneg _ (by omega)) (Int.emod_lt_of_pos _ m0) ?_ _ sm⟩
      rw [Int.mul_emod, Int.emod_emod, ← Int.mul_emod, Int.mul_comm n f, hu, Int.add_mul_emod_self_left]
theorem CList.at {H : Hp} {v : V} : ∀ {vs : List V} {ps : List (Int × Int)} {i : Nat}, CList K H vs ps → vs[i]? = some v → ∃ x a, ps[i]? = some x ∧ v = .ref a ∧ SqT K H a [.int x.1, .int x.2]
  | _, _, _, .nil, h => by simp at h
  | _, _, 0, .cons ⟨a, e, ha⟩ r, h => by
    simp at h
    subst h
    exact ⟨_, a, rfl, e, ha⟩
  | _, _, i + 1, .cons x r, h => by
    obtain ⟨q, a, h1, h2⟩ := CList.at (i := i) r (by simpa using h)
    exact ⟨q, a, by simpa using h1, h2⟩
theorem take_mem {ps : List (Int × Int)} {i : Nat} {x : Int × Int} (h : ps[i]? = some x) : ps.take (i + 1) = ps.take i ++ [x] := by
  rw [List.take_add_one, h]
  rfl
def lowH (high : Option Int) (x : Int) : Int := match high with
  | none => x
  | some h => if x < h then x else h
/-- between two turns of least_fit -/
structure FitI (ps : List (Int × Int)) (low : Int) (high : Option Int) : Prop where
  fit : Fit ps low high
  nn : high = none → ∀ x ∈ ps, 0 ≤ x.2
  pp : (∀ x ∈ ps, 0 < x.2) → high = none
  l0 : 0 ≤ low
  l1 : low ≤ 10 ^ 90
  h0 : ∀ h, high = some h → -(10 ^ 90) ≤ h ∧ h ≤ 10 ^ 90
theorem fit_none {ps : List (Int × Int)} (h : ∀ m, ¬ (0 ≤ m ∧ ∀ x ∈ ps, 0 ≤ x.1 + m * x.2)) : Fit ps 1 (some 0) := fun m =>
  ⟨fun z => absurd z (h m), fun z => by
    have a := z.1
    have b := z.2 0 rfl
    omega⟩
theorem div_small {b g : Int} (hg : 0 < g) (h1 : -(10 ^ 80) ≤ b) (h2 : b ≤ 10 ^ 80) : -(10 ^ 80) ≤ b / g ∧ b / g ≤ 10 ^ 80 := by
  have e := Int.emod_add_mul_ediv b g
  have r0 := Int.emod_nonneg b (show g ≠ 0 by omega)
  have r1 := Int.emod_lt_of_pos b hg
  rcases Int.le_total 0 b with hb | hb
  · have a := Int.ediv_nonneg hb (show 0 ≤ g by omega)
    have c := Int.ediv_le_self g hb
    omega
  · have a : b / g ≤ 0 := by
      have := Int.ediv_le_ediv hg hb
      rw [Int.zero_ediv] at this
      exact this
    refine ⟨?_, by omega⟩
    apply Classical.byContradiction
    intro hn
    have : g * (b / g) ≤ 1 * (b / g) := Int.mul_le_mul_of_nonpos_right (by omega) a
    have q : b / g ≤ -(10 ^ 80) - 1 := by omega
    have q2 : g * (b / g) ≤ g * (-(10 ^ 80) - 1) := Int.mul_le_mul_of_nonneg_left q (by omega)
    have q3 : g * (-(10 ^ 80) - 1) = -(g * (10 ^ 80)) - g := by grind
    have q4 : 1 * (10 ^ 80 : Int) ≤ g * (10 ^ 80) := Int.mul_le_mul_of_nonneg_right (by omega) (by decide)
    omega
theorem FitI.up {ps : List (Int × Int)} {low b g : Int} {high : Option Int} (F : FitI ps low high) (hg : 0 < g) (h1 : -(10 ^ 80) ≤ b) (h2 : b ≤ 10 ^ 80) : FitI (ps ++ [(b, g)]) (if -(b / g) > low then -(b / g) else low) high := by
  have d := div_small hg h1 h2
  refine ⟨fun m => ?_, fun e x hx => ?_, fun h => F.pp fun x hx => h x (List.mem_append_left _ hx), by have := F.l0; split <;> omega, by have := F.l1; split <;> omega, F.h0⟩
  · have z := F.fit m
    have y := fit_pos (b := b) (m := m) hg
    constructor
    · rintro ⟨m0, h⟩
      have a := z.mp ⟨m0, fun x hx => h x (List.mem_append_left _ hx)⟩
      have c := y.mp (h (b, g) (List.mem_append_right _ (List.mem_singleton.mpr rfl)))
      exact ⟨by split <;> omega, a.2⟩
    · rintro ⟨a, c⟩
      have a2 : low ≤ m ∧ -(b / g) ≤ m := by split at a <;> omega
      obtain ⟨m0, h⟩ := z.mpr ⟨a2.1, c⟩
      refine ⟨m0, fun x hx => ?_⟩
      rcases List.mem_append.mp hx with hx | hx
      · exact h x hx
      · rw [List.mem_singleton.mp hx]
        exact y.mpr a2.2
  · rcases List.mem_append.mp hx with hx | hx
    · exact F.nn e x hx
    · rw [List.mem_singleton.mp hx]
      show 0 ≤ g
      omega
theorem FitI.down {ps : List (Int × Int)} {low b g : Int} {high : Option Int} (F : FitI ps low high) (hg : g < 0) (h1 : -(10 ^ 80) ≤ b) (h2 : b ≤ 10 ^ 80) :
    FitI (ps ++ [(b, g)]) low (some (lowH high (b / -g))) := by
  have d := div_small (show 0 < -g by omega) h1 h2
  refine ⟨fun m => ?_, fun e => (nomatch e), fun h => absurd (h (b, g) (List.mem_append_right _ (List.mem_singleton.mpr rfl))) (by show ¬ 0 < g; omega), F.l0, F.l1, fun h e => ?_⟩
  · have z := F.fit m
    have y := fit_neg (b := b) (m := m) hg
    constructor
    · rintro ⟨m0, h⟩
      have a := z.mp ⟨m0, fun x hx => h x (List.mem_append_left _ hx)⟩
      have c := y.mp (h (b, g) (List.mem_append_right _ (List.mem_singleton.mpr rfl)))
      refine ⟨a.1, fun k e => ?_⟩
      injection e with e
      subst e
      cases high with
      | none => exact c
      | some h =>
        have := a.2 h rfl
        show m ≤ if b / -g < h then b / -g else h
        split <;> omega
    · rintro ⟨a, c⟩
      have c2 := c _ rfl
      have c3 : m ≤ b / -g ∧ ∀ h, high = some h → m ≤ h := by
        cases high with
        | none => exact ⟨c2, fun h e => (nomatch e)⟩
        | some h =>
          have c4 : m ≤ if b / -g < h then b / -g else h := c2
          refine ⟨by split at c4 <;> omega, fun k e => ?_⟩
          injection e with e
          split at c4 <;> omega
      obtain ⟨m0, h⟩ := z.mpr ⟨a, c3.2⟩
      refine ⟨m0, fun x hx => ?_⟩
      rcases List.mem_append.mp hx with hx | hx
      · exact h x hx
      · rw [List.mem_singleton.mp hx]
        exact y.mpr c3.1
  · injection e with e
    subst e
    cases high with
    | none => exact ⟨by show -(10 ^ 90) ≤ b / -g; omega, by show b / -g ≤ 10 ^ 90; omega⟩
    | some h =>
      have := F.h0 h rfl
      show -(10 ^ 90) ≤ (if b / -g < h then b / -g else h) ∧ (if b / -g < h then b / -g else h) ≤ 10 ^ 90
      split <;> omega
theorem FitI.flat {ps : List (Int × Int)} {low b : Int} {high : Option Int} (F : FitI ps low high) (hb : 0 ≤ b) (z : (∀ x ∈ ps ++ [(b, 0)], 0 < x.2) → high = none := fun h => absurd (h (_, 0) (List.mem_append_right _ (List.mem_singleton.mpr rfl))) (show ¬ (0 : Int) < 0 by decide)) : FitI (ps ++ [(b, 0)]) low high := by
  refine ⟨fun m => ?_, fun e x hx => ?_, z, F.l0, F.l1, F.h0⟩
  · have z := F.fit m
    constructor
    · rintro ⟨m0, h⟩
      exact z.mp ⟨m0, fun x hx => h x (List.mem_append_left _ hx)⟩
    · intro h
      obtain ⟨m0, h⟩ := z.mpr h
      refine ⟨m0, fun x hx => ?_⟩
      rcases List.mem_append.mp hx with hx | hx
      · exact h x hx
      · rw [List.mem_singleton.mp hx]
        show 0 ≤ b + m * 0
        omega
  · rcases List.mem_append.mp hx with hx | hx
    · exact F.nn e x hx
    · rw [List.mem_singleton.mp hx]
      exact Int.le_refl 0
theorem k_fit (T : Tx K mg) : Cal P w K mg base 1 (He.ga K "least_fit") T.fd_least_fit P_least_fit (spFit K) := by
  refine ⟨T.fn_least_fit.ok sc_least_fit (fun vs H Q E h => ?_) (fun cdv A outer s H vs Q E hr h => ?_), T.fn_least_fit.kp, FunD.bindsN T.fn_least_fit fun _ _ _ _ _ _ us hl => match us, hl with | [_], _ => rfl⟩
  · obtain ⟨l, vs', ps, rfl, _⟩ := h
    rfl
  · obtain ⟨l, vs', ps, rfl, hl, hc, hb, k⟩ := h
    refine ⟨_, PSs.nox (pss_cons (ps_asg (pe_tup (pa_cons pe_int (pa_cons pe_non pa_nil))) (pg_tup rfl (pgs_cons (pg_name (i := 1) sc_least_fit.nd rfl (Or.inl rfl)) (pgs_cons (pg_name (i := 2) sc_least_fit.nd rfl (Or.inl rfl)) pgs_nil))))
      (pss_cons (ps_for PassesOwn.never rfl (pi_list (pv 0)) (pg_tup rfl (pgs_cons (pg_name (i := 3) sc_least_fit.nd rfl (Or.inl rfl)) (pgs_cons (pg_name (i := 4) sc_least_fit.nd rfl (Or.inl rfl)) pgs_nil)))
      (pss_one (ps_if (pt_cmpR op_gt (pv 4) pe_int (nomark _)) (pss_one (ps_set (i := 1) sc_least_fit.nd rfl (Or.inl rfl) (pe_callB (call_max2 rfl) (by rfl) T.b_max (by decide +kernel) (pa_cons (pv 1) (pa_cons (pe_un un_neg (pe_op op_fdivB (pv 3) (pv 4))) pa_nil))))) (pss_one (ps_if (pt_cmpR op_lt (pv 4) pe_int (nomark _)) (pss_cons (ps_set (i := 5) sc_least_fit.nd rfl (Or.inl rfl) (pe_op op_fdivB (pv 3) (pe_un un_neg (pv 4))))
      (pss_one (ps_set (i := 2) sc_least_fit.nd rfl (Or.inl rfl) (pcutE (pe_ifExp (pt_cmpR op_isN (pv 2) pe_non (nomark _)) (pv 5) (pe_callB (call_min2 rfl) (by rfl) T.b_min (by decide +kernel) (pa_cons (pv 2) (pa_cons (pv 5) pa_nil)))))))) (pss_one (ps_if (pt_cmpR op_lt (pv 3) pe_int (nomark _)) (pss_one (ps_ret (pe_tup (pa_cons pe_int (pa_cons pe_int pa_nil))))) pss_nil)))))))
      (pss_one (ps_ret (pe_ifExp (PW.pt (pw_or (pt_cmpR op_isN (pv 2) pe_non (nomark _)) (pw_or1 (pt_cmpR op_le (pv 1) (pv 2) (nomark _))))) (pe_tup (pa_cons (pv 1) (pa_cons (pv 2) pa_nil))) (pe_tup (pa_cons pe_int (pa_cons pe_int pa_nil)))))))), ?_⟩
    have lens : vs'.length = ps.length := Paired.length hc
    refine ⟨sz_of (show 2 ≤ 1000 by decide), fun t0 nt0 => ?_⟩
    refine ⟨t0, _, rfl, SqT.of upd_same, rfl, _, _, rfl, _, _, rfl, rfl, ?_⟩
    have sm : Same H (upd H t0 (.tup [.int 0, .non])) := Same.new nt0
    generalize upd H t0 (.tup [.int 0, .non]) = H1 at sm ⊢
    refine ⟨.ref l, rfl, l, rfl, ⟨_, sm.seq hl⟩, ?_⟩
    have none_ret : ∀ t, H1 t = none → (∀ m, ¬ (0 ≤ m ∧ ∀ x ∈ ps, 0 ≤ x.1 + m * x.2)) → ¬ (∀ x ∈ ps, 0 < x.2) → Q (.ref t) (upd H1 t (.tup [.int 1, .int 0])) := fun t nt h1 h2 =>
      k t 1 (some 0) _ (sm.trans (Same.new nt)) (sm.free nt) upd_same ⟨fit_none h1, fun h e => .inr ⟨rfl, by injection e with e; omega⟩, fun e => (nomatch e), fun z => absurd z h2, by decide, by decide, fun h e => by injection e with e; subst e; decide⟩
    refine for_list (K := K) (xs := vs') (fun i σ' H' => ∃ (low : Int) (high : Option Int) (y3 y4 y5 : Option V), σ' = [some (.ref l), some (.int low), some (optV high), y3, y4, y5] ∧ H' = H1 ∧ FitI (ps.take i) low high) ?_ ?_ ?_ ?_
    · exact ⟨0, none, none, none, none, rfl, rfl, ⟨fun m => ⟨fun z => ⟨z.1, fun h e => nomatch e⟩, fun z => ⟨z.1, fun x hx => nomatch hx⟩⟩, fun _ x hx => (nomatch hx), fun _ => rfl, by decide, by decide, fun h e => (nomatch e)⟩⟩
    · rintro i σ' H' _ ⟨low, high, y3, y4, y5, rfl, rfl, _⟩
      exact sm.seq hl
    · rintro i v σ' H' hv ⟨low, high, y3, y4, y5, rfl, rfl, F⟩
      obtain ⟨⟨b, g⟩, a, hp, rfl, ha⟩ := hc.at hv
      obtain ⟨b1, b2, g1, g2⟩ := hb _ (List.mem_of_getElem? hp)
      rw [show ps.take (i + 1) = ps.take i ++ [(b, g)] from take_mem hp]
      refine ⟨a, _, rfl, Same.tup sm ha, rfl, _, _, rfl, _, _, rfl, rfl, ?_⟩
      refine ⟨.int g, rfl, g, 0, rfl, rfl, _, rfl, ite2 (fun e => ?_) (fun e => ?_)⟩
      · have g0 : 0 < g := of_decide_eq_true e
        refine ⟨.int low, rfl, .int b, rfl, .int g, rfl, b, g, rfl, rfl, ⟨g0, by unfold Big; omega⟩, _, rfl, low, _, rfl, ?_⟩
        exact ⟨_, high, _, _, y5, rfl, rfl, F.up g0 b1 b2⟩
      · have g0 : ¬ 0 < g := of_decide_eq_false (Bool.eq_false_iff.mpr e)
        refine ⟨.int g, rfl, g, 0, rfl, rfl, _, rfl, ite2 (fun e => ?_) (fun e => ?_)⟩
        · have gn : g < 0 := of_decide_eq_true e
          refine ⟨.int b, rfl, .int g, rfl, g, rfl, b, -g, rfl, rfl, ⟨by omega, by unfold Big; omega⟩, ?_⟩
          refine ⟨fun v H2 => v = .int (lowH high (b / -g)) ∧ H2 = H', ?_, ?_⟩
          · refine ⟨optV high, rfl, rfl, _, rfl, ?_⟩
            cases high with
            | none => exact ⟨.int (b / -g), rfl, rfl, rfl⟩
            | some h => exact ⟨.int h, rfl, .int (b / -g), rfl, h, b / -g, rfl, rfl, rfl⟩
          · rintro v H2 ⟨rfl, rfl⟩
            exact ⟨low, some _, _, _, _, rfl, rfl, F.down gn b1 b2⟩
        · have gz : g = 0 := by
            have : ¬ g < 0 := of_decide_eq_false (Bool.eq_false_iff.mpr e)
            omega
          subst gz
          refine ⟨.int b, rfl, b, 0, rfl, rfl, _, rfl, ite2 (fun e => ?_) (fun e => ?_)⟩
          · have bn : b < 0 := of_decide_eq_true e
            have hm := List.mem_of_getElem? hp
            refine ⟨sz_of (show 2 ≤ 1000 by decide), fun t nt => none_ret t nt (fun m z => ?_) fun z => absurd (z _ hm) (show ¬ (0 : Int) < 0 by decide)⟩
            have := z.2 _ hm
            simp at this
            omega
          · have bn : ¬ b < 0 := of_decide_eq_false (Bool.eq_false_iff.mpr e)
            exact ⟨low, high, _, _, y5, rfl, rfl, F.flat (by omega)⟩
    · rintro σ' H' ⟨low, high, y3, y4, y5, rfl, rfl, F⟩
      rw [lens, List.take_length] at F
      refine ⟨optV high, rfl, rfl, _, rfl, ?_⟩
      cases high with
      | none =>
        refine ⟨.int low, rfl, .non, rfl, sz_of (show 2 ≤ 1000 by decide), fun t nt => k t low none _ (sm.trans (Same.new nt)) (sm.free nt) upd_same ⟨F.fit, fun h e => (nomatch e), F.nn, F.pp, F.l0, F.l1, F.h0⟩⟩
      | some h =>
        refine ⟨.int low, rfl, .int h, rfl, low, h, rfl, rfl, _, rfl, ite2 (fun e => ?_) (fun e => ?_)⟩
        · have le : low ≤ h := of_decide_eq_true e
          exact ⟨.int low, rfl, .int h, rfl, sz_of (show 2 ≤ 1000 by decide), fun t nt => k t low (some h) _ (sm.trans (Same.new nt)) (sm.free nt) upd_same ⟨F.fit, fun k e => .inl (by injection e with e; omega), fun e => (nomatch e), F.pp, F.l0, F.l1, F.h0⟩⟩
        · have gt : ¬ low ≤ h := of_decide_eq_false (Bool.eq_false_iff.mpr e)
          refine ⟨sz_of (show 2 ≤ 1000 by decide), fun t nt => none_ret t nt (fun m z => ?_) fun z => nomatch F.pp z⟩
          have := (F.fit m).mp z
          have := this.2 h rfl
          omega
end
end KP

namespace KP
open PySem PySem.Spec PyProof.Rows L2
local macro_rules | `(tactic| walk_at "sc") => `(tactic| first | (show (0 : Int) < _; decide) | (show (0 : Int) < _; omega) | (refine ⟨?_, ?_, ?_, ?_⟩ <;> (first | omega | (unfold Big; omega))) | (refine ⟨?_, ?_, ?_⟩ <;> (first | omega | (unfold Big; omega))) | (refine ⟨?_, ?_⟩ <;> (first | omega | (unfold Big; omega))))
/-! ### crossings -/
def crossFs (a b : Addr) (e : Bool) (st os sa oa : Int) : List (Str × V) := [("one", .ref a), ("other", .ref b), ("is_empty", .bl e), ("step", .int st), ("other_step", .int os), ("start", .int sa), ("other_start", .int oa)]
structure CrossB (q1 q2 : Ptr) (e : Bool) (st os sa oa : Int) : Prop where
  c : Cross q1.post q1.stride q2.post q2.stride e st os sa oa
  b1 : st ≤ 10 ^ 18
  b2 : -(10 ^ 18) ≤ os
  b3 : os ≤ 10 ^ 18
  b4 : -(10 ^ 40) ≤ oa
  b5 : oa ≤ 10 ^ 40
def CObj (K : PySem.W.Frag) (H : Hp) (x : Addr) (q1 q2 : Ptr) (e : Bool) (st os sa oa : Int) : Prop := ∃ dx a b, H x = some (.ins (He.ga K "Crossing") dx (crossFs a b e st os sa oa)) ∧ SqT K H a (wayV q1) ∧ SqT K H b (wayV q2) ∧ CrossB q1 q2 e st os sa oa
theorem CObj.same {K : PySem.W.Frag} {H H' : Hp} {x : Addr} {q1 q2 : Ptr} {e : Bool} {st os sa oa : Int} (h : CObj K H x q1 q2 e st os sa oa) (s : Same H H') : CObj K H' x q1 q2 e st os sa oa := by
  obtain ⟨dx, a, b, h1, h2, h3, h4⟩ := h
  exact ⟨dx, a, b, s _ _ h1, Same.tup s h2, Same.tup s h3, h4⟩
def But (x : Addr) (H H' : Hp) : Prop := ∀ a o, a ≠ x → H a = some o → H' a = some o
theorem But.put {x : Addr} {H H' : Hp} {o : HO} (h : But x H H') : But x H (upd H' x o) := fun a u n ha => by
  rw [upd_ne n]
  exact h a u n ha
theorem But.new {x t : Addr} {H H' : Hp} {o : HO} (h : But x H H') (n : H' t = none) : But x H (upd H' t o) := fun a u nx ha => by
  have := h a u nx ha
  rw [upd_ne (ne_of_none this n)]
  exact this
theorem But.tup {K : PySem.W.Frag} {x a C dx : Addr} {fs : List (Str × V)} {H H' : Hp} {xs : List V} (h : But x H H') (hx : H x = some (.ins C dx fs)) (ht : SqT K H a xs) : SqT K H' a xs := by
  rcases ht with (z | ⟨o, z⟩) | z
  · exact .inl (.inl (h _ _ (ne_of z hx fun y => nomatch y) z))
  · exact .inl (.inr ⟨o, h _ _ (ne_of z hx fun y => nomatch y) z⟩)
  · exact .inr z
/-- a field is stored: any heap of which this is told -/
theorem fld_step {x C dx : Addr} {H0 H : Hp} {fs : List (Str × V)} {G : Hp → Prop} (hb : But x H0 H) (k : ∀ H', But x H0 H' → H' x = some (.ins C dx fs) → G H') : G (upd H x (.ins C dx fs)) := k _ hb.put upd_same
def spCInit (K : PySem.W.Frag) : Sp := fun vs H Q _ => ∃ (x dx a b : Addr) (q1 q2 : Ptr), vs = [.ref x, .ref a, .ref b] ∧ H x = some (.ins (He.ga K "Crossing") dx []) ∧ SqT K H a (wayV q1) ∧ SqT K H b (wayV q2) ∧ q1.Ok ∧ q2.Ok ∧
  ∀ (H' : Hp) (e : Bool) (st os sa oa : Int), But x H H' → H' x = some (.ins (He.ga K "Crossing") dx (crossFs a b e st os sa oa)) → CrossB q1 q2 e st os sa oa → Q .non H'
theorem gcd_abs {s t : Int} (ht : t ≠ 0) : Int.gcd (s / (Int.gcd s t : Int)) ((t.natAbs : Int) / (Int.gcd s t : Int)) = 1 := by
  have g0 : 0 < Int.gcd s t := Int.gcd_pos_of_ne_zero_right s ht
  have h := Int.gcd_ediv_gcd_ediv_gcd g0
  rcases abs_cases t with ⟨_, h2⟩ | ⟨_, h2⟩
  · rw [h2]
    exact h
  · rw [h2, Int.neg_ediv_of_dvd (Int.gcd_dvd_right s t), Int.gcd_neg]
    exact h
theorem gcd_le9 {s t : Int} (ht : t ≠ 0) (h1 : -(10 ^ 18) ≤ t) (h2 : t ≤ 10 ^ 18) : 0 < (Int.gcd s t : Int) ∧ (Int.gcd s t : Int) ≤ 10 ^ 18 := by
  have a := Int.gcd_pos_of_ne_zero_right s ht
  have b := Int.gcd_le_natAbs_right s ht
  omega
theorem div_le {a g B : Int} (hg : 0 < g) (h1 : -B ≤ a) (h2 : a ≤ B) : -B ≤ a / g ∧ a / g ≤ B := by
  have e := Int.emod_add_mul_ediv a g
  have r0 := Int.emod_nonneg a (show g ≠ 0 by omega)
  have r1 := Int.emod_lt_of_pos a hg
  have B0 : 0 ≤ B := by omega
  have gB : 1 * B ≤ g * B := Int.mul_le_mul_of_nonneg_right (by omega) B0
  constructor
  · apply Classical.byContradiction
    intro hn
    have q2 : g * (a / g) ≤ g * (-B - 1) := Int.mul_le_mul_of_nonneg_left (by omega) (by omega)
    have q3 : g * (-B - 1) = -(g * B) - g := by grind
    omega
  · apply Classical.byContradiction
    intro hn
    have q2 : g * (B + 1) ≤ g * (a / g) := Int.mul_le_mul_of_nonneg_left (by omega) (by omega)
    have q3 : g * (B + 1) = g * B + g := by grind
    omega
theorem fdiv_le {a g B : Int} (hg : g ≠ 0) (h1 : -B ≤ a) (h2 : a ≤ B) : -B ≤ a.fdiv g ∧ a.fdiv g ≤ B := by
  rcases Int.lt_or_gt_of_ne hg with h | h
  · have e : a.fdiv g = (-a) / (-g) := by
      rw [← Int.neg_fdiv_neg, Int.fdiv_eq_ediv_of_nonneg _ (by omega)]
    rw [e]
    exact div_le (by omega) (by omega) (by omega)
  · rw [Int.fdiv_eq_ediv_of_nonneg _ (by omega)]
    exact div_le h h1 h2
section
variable {P : Program} {w : World} {K : PySem.W.Frag} {mg : Str → Option Value} {base : Heap}
theorem k_Crossing_init (T : Tx K mg) : Cal P w K mg base 2 (He.ma K (He.ga K "Crossing") "__init__") T.fd_Crossing_init P_Crossing_init (spCInit K) := by
  have c_greatest_divisor := k_gcd (P := P) (w := w) (base := base) T
  have c_inverse := k_inv (P := P) (w := w) (base := base) T
  refine ⟨T.fn_Crossing_init.ok sc_Crossing_init (fun vs H Q E h => ?_) (fun cdv A outer s H vs Q E hr h => ?_), T.fn_Crossing_init.kp, FunD.bindsN T.fn_Crossing_init fun _ _ _ _ _ _ us hl => match us, hl with | [_, _, _], _ => rfl⟩
  · obtain ⟨x, dx, a, b, q1, q2, rfl, _⟩ := h
    rfl
  · obtain ⟨x, dx, a, b, q1, q2, rfl, hx, ha, hb, ok1, ok2, k⟩ := h
    refine ⟨_, PSs.nox (pss_cons (ps_par (by rfl) sc_Crossing_init.nd (i := 3) (j := 4) rfl rfl (by decide) rfl rfl (pa_cons (pe_ix ix_tup (pv 1) pe_int (fun _ _ => rfl)) (pa_cons (pe_ix ix_tup (pv 2) pe_int (fun _ _ => rfl)) pa_nil)) (by rfl))
      (pss_cons (ps_set (i := 5) sc_Crossing_init.nd rfl (Or.inl rfl) (pe_call c_greatest_divisor.F (hr.mono (by decide)) (by rfl) T.g_greatest_divisor c_greatest_divisor.kp c_greatest_divisor.b .nil pass0 (pa_cons (pv 3) (pa_cons (pv 4) pa_nil))))
      (pss_cons (ps_asg (pe_callB call_divmodS (by rfl) T.b_divmod (by decide +kernel) (pa_cons (pe_op op_sub (pe_ix ix_tup (pv 2) pe_int (fun _ _ => rfl)) (pe_ix ix_tup (pv 1) pe_int (fun _ _ => rfl))) (pa_cons (pv 5) pa_nil))) (pg_tup rfl (pgs_cons (pg_name (i := 6) sc_Crossing_init.nd rfl (Or.inl rfl)) (pgs_cons (pg_name (i := 7) sc_Crossing_init.nd rfl (Or.inl rfl)) pgs_nil))))
      (pss_cons (ps_fld (pv 0) (pv 1) rfl)
      (pss_cons (ps_fld (pv 0) (pv 2) rfl)
      (pss_cons (ps_fld (pv 0) (pe_cmpR op_ne (pv 7) pe_int (nomark _)) rfl)
      (pss_cons (ps_fld (pv 0) (pe_op op_fdivS (pe_callB call_abs (by rfl) T.b_abs (by decide +kernel) (pa_cons (pv 4) pa_nil)) (pv 5)) rfl)
      (pss_cons (ps_fld (pv 0) (pcutE (pe_ifExp (pt_cmpR op_gt (pv 4) pe_int (nomark _)) (pe_op op_fdivS (pv 3) (pv 5)) (pe_un un_neg (pe_op op_fdivS (pv 3) (pv 5))))) rfl)
      (pss_cons (ps_fld (pv 0) (pe_op op_modN (pe_op op_mulB (pv 6) (pe_call c_inverse.F (hr.mono (by decide)) (by rfl) T.g_inverse c_inverse.kp c_inverse.b .nil pass0 (pa_cons (pe_op op_fdivS (pv 3) (pv 5)) (pa_cons (pe_fld (pv 0) rfl) pa_nil)))) (pe_fld (pv 0) rfl)) rfl)
      (pss_one (ps_fld (pv 0) (pe_op op_fdivS (pe_op op_sub (pe_op op_add (pe_ix ix_tup (pv 1) pe_int (fun _ _ => rfl)) (pe_op op_mulB (pe_fld (pv 0) rfl) (pv 3))) (pe_ix ix_tup (pv 2) pe_int (fun _ _ => rfl))) (pv 4)) rfl))))))))))), ?_⟩
    obtain ⟨n1, dd1, p1, s⟩ := q1
    obtain ⟨n2, dd2, p2, t⟩ := q2
    obtain ⟨_, _, _, p10, p11, s0, s1, sn⟩ := ok1
    obtain ⟨_, _, _, p20, p21, t0, t1, tn⟩ := ok2
    dsimp only at p10 p11 s0 s1 sn p20 p21 t0 t1 tn
    have ⟨g0, g1⟩ := gcd_le9 (s := s) tn t0 t1
    refine ⟨.ref a, rfl, a, _, 2, .int s, rfl, rfl, ha, atI_nat (j := 2) rfl, .ref b, rfl, b, _, 2, .int t, rfl, rfl, hb, atI_nat (j := 2) rfl, _, _, rfl, ?_⟩
    refine ⟨_, rfl, _, rfl, s, t, rfl, ?_⟩
    refine ⟨.ref b, rfl, b, _, 1, .int p2, rfl, rfl, hb, atI_nat (j := 1) rfl, .ref a, rfl, a, _, 1, .int p1, rfl, rfl, ha, atI_nat (j := 1) rfl, p2, p1, rfl, rfl, _, rfl, _, _, rfl, ⟨by omega, by unfold Big; omega, by unfold Big; omega⟩, fun u nu => ?_⟩
    refine ⟨u, _, rfl, SqT.of upd_same, rfl, _, _, rfl, _, _, rfl, rfl, ?_⟩
    have B1 : But x H (upd H u (.tup [.int ((p2 - p1).fdiv (Int.gcd s t)), .int ((p2 - p1).fmod (Int.gcd s t))])) := But.new (fun _ _ _ h => h) nu
    have x1 := Same.new (o := .tup [.int ((p2 - p1).fdiv (Int.gcd s t)), .int ((p2 - p1).fmod (Int.gcd s t))]) nu _ _ hx
    generalize upd H u (.tup [.int ((p2 - p1).fdiv (Int.gcd s t)), .int ((p2 - p1).fmod (Int.gcd s t))]) = H1 at B1 x1 ⊢
    -- one, other, is_empty
    refine ⟨_, rfl, .ref x, rfl, x, _, dx, _, rfl, x1, T.c_Crossing, T.n_Crossing_one, by decide, fld_step B1 fun H2 B2 x2 => ?_⟩
    clear x1 B1
    refine ⟨_, rfl, .ref x, rfl, x, _, dx, _, rfl, x2, T.c_Crossing, T.n_Crossing_other, by show 1 < 1000; decide, fld_step B2 fun H3 B3 x3 => ?_⟩
    clear x2 B2
    refine ⟨_, rfl, rfl, .ref x, rfl, x, _, dx, _, rfl, x3, T.c_Crossing, T.n_Crossing_is_empty, by show 2 < 1000; decide, fld_step B3 fun H4 B4 x4 => ?_⟩
    clear x3 B3
    have tb := Int.gcd_le_natAbs_right s tn
    have estep : (if t < 0 then -t else t).fdiv (Int.gcd s t) = (t.natAbs : Int) / (Int.gcd s t : Int) := by rw [ifabs, Int.fdiv_eq_ediv_of_nonneg _ (by omega)]
    have es : s.fdiv (Int.gcd s t) = s / (Int.gcd s t : Int) := Int.fdiv_eq_ediv_of_nonneg _ (by omega)
    -- step
    refine ⟨.int t, rfl, t, rfl, _, rfl, _, _, rfl, rfl, ⟨by omega, by unfold Big; omega, by unfold Big; omega⟩, .ref x, rfl, x, _, dx, _, rfl, x4, T.c_Crossing, T.n_Crossing_step, by show 3 < 1000; decide, ?_⟩
    dsimp only
    rw [estep]
    refine fld_step B4 fun H5 B5 x5 => ?_
    clear x4 B4
    -- other_step
    refine ⟨fun v H' => v = .int (if 0 < t then s / (Int.gcd s t : Int) else -(s / (Int.gcd s t : Int))) ∧ H' = H5, ?_, ?_⟩
    · refine ⟨.int t, rfl, t, 0, rfl, rfl, _, rfl, ite2 (fun e => ?_) (fun e => ?_)⟩
      · have t0 : 0 < t := of_decide_eq_true e
        refine ⟨_, rfl, _, rfl, _, _, rfl, rfl, ⟨by omega, by unfold Big; omega, by unfold Big; omega⟩, ?_, rfl⟩
        dsimp only
        rw [if_pos t0, es]
      · have t0 : ¬ 0 < t := of_decide_eq_false (Bool.eq_false_iff.mpr e)
        refine ⟨_, rfl, _, rfl, _, _, rfl, rfl, ⟨by omega, by unfold Big; omega, by unfold Big; omega⟩, _, rfl, ?_, rfl⟩
        dsimp only
        rw [if_neg t0, es]
    rintro v H' ⟨rfl, rfl⟩
    refine ⟨.ref x, rfl, x, _, dx, _, rfl, x5, T.c_Crossing, T.n_Crossing_other_step, by show 4 < 1000; decide, fld_step B5 fun H6 B6 x6 => ?_⟩
    clear x5 B5
    -- start
    have gb := fdiv_le (g := (Int.gcd s t : Int)) (B := 10 ^ 31) (by omega) (show -(10 ^ 31) ≤ p2 - p1 by omega) (show p2 - p1 ≤ 10 ^ 31 by omega)
    have sb : 0 < (t.natAbs : Int) / (Int.gcd s t : Int) ∧ (t.natAbs : Int) / (Int.gcd s t : Int) ≤ 10 ^ 18 := by
      have h1 : 0 < (t.natAbs : Int) / (Int.gcd s t : Int) := Int.ediv_pos_of_pos_of_dvd (by omega) (by omega) (Int.dvd_natAbs.mpr (Int.gcd_dvd_right s t))
      have h2 := Int.ediv_le_self (Int.gcd s t : Int) (show 0 ≤ (t.natAbs : Int) by omega)
      exact ⟨h1, by omega⟩
    have sg := div_le (a := s) (B := 10 ^ 18) g0 s0 s1
    refine ⟨_, rfl, _, rfl, _, rfl, _, _, rfl, rfl, ⟨by omega, by unfold Big; omega, by unfold Big; omega⟩, .ref x, rfl, x, _, dx, _, _, rfl, x6, T.c_Crossing, T.n_Crossing_step, rfl, ?_⟩
    dsimp only
    rw [es]
    refine ⟨_, _, rfl, sb.1, by omega, gcd_abs tn, fun inv i0 i1 hinv H7 sm7 => ?_⟩
    have x7 := sm7 _ _ x6
    have B7 : But x H H7 := fun a o n h => sm7 _ _ (B6 a o n h)
    refine ⟨_, _, rfl, rfl, by walk_at "sc", .ref x, rfl, x, _, dx, _, _, rfl, x7, T.c_Crossing, T.n_Crossing_step, rfl, _, _, rfl, rfl, (show (t.natAbs : Int) / (Int.gcd s t : Int) ≠ 0 by omega), .ref x, rfl, x, _, dx, _, rfl, x7, T.c_Crossing, T.n_Crossing_start, by show 5 < 1000; decide, ?_⟩
    dsimp only
    rw [show ((p2 - p1).fdiv (Int.gcd s t) * inv).fmod ((t.natAbs : Int) / (Int.gcd s t : Int)) = ((p2 - p1).fdiv (Int.gcd s t) * inv) % ((t.natAbs : Int) / (Int.gcd s t : Int)) from Int.fmod_eq_emod_of_nonneg _ (by omega)]
    have c0 := Int.emod_nonneg ((p2 - p1).fdiv (Int.gcd s t) * inv) (show (t.natAbs : Int) / (Int.gcd s t : Int) ≠ 0 by omega)
    have c1 := Int.emod_lt_of_pos ((p2 - p1).fdiv (Int.gcd s t) * inv) sb.1
    refine fld_step B7 fun H8 B8 x8 => ?_
    clear x7 B7 x6 B6 sm7
    -- other_start
    have sw : ∃ w, w = ((p2 - p1).fdiv (Int.gcd s t) * inv) % ((t.natAbs : Int) / (Int.gcd s t : Int)) := ⟨_, rfl⟩
    obtain ⟨sa, hsa⟩ := sw
    rw [← hsa] at x8 c0 c1
    have ms : -(10 ^ 36) ≤ sa * s ∧ sa * s ≤ 10 ^ 36 := by
      have a1 : sa * s ≤ sa * 10 ^ 18 := Int.mul_le_mul_of_nonneg_left s1 c0
      have a2 : sa * (-(10 ^ 18)) ≤ sa * s := Int.mul_le_mul_of_nonneg_left s0 c0
      omega
    refine ⟨.ref a, rfl, a, _, 1, .int p1, rfl, rfl, B8.tup hx ha, atI_nat (j := 1) rfl, .ref x, rfl, x, _, dx, _, .int sa, rfl, x8, T.c_Crossing, T.n_Crossing_start, rfl, _, rfl, sa, s, rfl, rfl, by walk_at "sc", p1, _, rfl, rfl, .ref b, rfl, b, _, 1, .int p2, rfl, rfl, B8.tup hx hb, atI_nat (j := 1) rfl, _, p2, rfl, rfl, _, rfl, _, t, rfl, rfl, ⟨tn, by unfold Big; omega, by unfold Big; omega⟩, .ref x, rfl, x, _, dx, _, rfl, x8, T.c_Crossing, T.n_Crossing_other_start, by show 6 < 1000; decide, fld_step B8 fun H9 B9 x9 => ?_⟩
    have ob := fdiv_le (B := 10 ^ 40) tn (show -(10 ^ 40) ≤ p1 + sa * s - p2 by omega) (show p1 + sa * s - p2 ≤ 10 ^ 40 by omega)
    refine k H9 (decide ((p2 - p1).fmod (Int.gcd s t) ≠ 0)) _ (if 0 < t then s / (Int.gcd s t : Int) else -(s / (Int.gcd s t : Int))) sa ((p1 + sa * s - p2).fdiv t) B9 ?_ ⟨cross_mk sn tn rfl rfl rfl rfl rfl hinv hsa rfl, sb.2, by split <;> omega, by split <;> omega, ob.1, ob.2⟩
    rw [x9]
    have ee : (!decide (V.int ((p2 - p1).fmod (Int.gcd s t)) = V.int 0)) = decide ((p2 - p1).fmod (Int.gcd s t) ≠ 0) := by simp
    rw [← ee]
    rfl
def spNumber (K : PySem.W.Frag) : Sp := fun vs H Q _ => ∃ (x : Addr) (m : Int) (q1 q2 : Ptr) (e : Bool) (st os sa oa : Int), vs = [.ref x, .int m] ∧ CObj K H x q1 q2 e st os sa oa ∧ -(10 ^ 91) ≤ m ∧ m ≤ 10 ^ 91 ∧ Q (.int (sa + m * st)) H
def spCPost (K : PySem.W.Frag) : Sp := fun vs H Q _ => ∃ (x : Addr) (m : Int) (q1 q2 : Ptr) (e : Bool) (st os sa oa : Int), vs = [.ref x, .int m] ∧ CObj K H x q1 q2 e st os sa oa ∧ q1.Ok ∧ -(10 ^ 91) ≤ m ∧ m ≤ 10 ^ 91 ∧ Q (.int (q1.post + (sa + m * st) * q1.stride)) H
/-- bounds(more): the tuple of the least and the greatest m -/
def BndR (e : Bool) (ps : List (Int × Int)) (low : Int) (high : Option Int) : Prop := if e = true then low = 1 ∧ high = some 0 else FitR ps low high
def spBounds (K : PySem.W.Frag) : Sp := fun vs H Q _ => ∃ (x l : Addr) (vs' : List V) (ps : List (Int × Int)) (q1 q2 : Ptr) (e : Bool) (st os sa oa : Int), vs = [.ref x, .ref l] ∧ CObj K H x q1 q2 e st os sa oa ∧ (SqT K H l vs' ∨ SqL K H l vs') ∧ CList K H vs' ps ∧ vs'.length ≤ 100 ∧
  (∀ x ∈ ps, -(10 ^ 80) ≤ x.1 ∧ x.1 ≤ 10 ^ 80 ∧ -(10 ^ 80) ≤ x.2 ∧ x.2 ≤ 10 ^ 80) ∧
  ∀ (t : Addr) (low : Int) (high : Option Int) (H' : Hp), Same H H' → H t = none → H' t = some (.tup [.int low, optV high]) → BndR e ((oa, os) :: ps) low high → Q (.ref t) H'
theorem k_number (T : Tx K mg) : Cal P w K mg base 1 (He.ma K (He.ga K "Crossing") "number") T.fd_Crossing_number P_Crossing_number (spNumber K) := by
  refine ⟨T.fn_Crossing_number.ok sc_Crossing_number (fun vs H Q E h => ?_) (fun cdv A outer s H vs Q E hr h => ?_), T.fn_Crossing_number.kp, FunD.bindsN T.fn_Crossing_number fun _ _ _ _ _ _ us hl => match us, hl with | [_, _], _ => rfl⟩
  · obtain ⟨x, m, q1, q2, e, st, os, sa, oa, rfl, _⟩ := h
    rfl
  · obtain ⟨x, m, q1, q2, e, st, os, sa, oa, rfl, ⟨dx, a, b, hx, ha, hb, C⟩, m0, m1, k⟩ := h
    refine ⟨_, PSs.nox (pss_one (ps_ret (pe_op op_add (pe_fld (pv 0) rfl) (pe_op op_mulB (pv 1) (pe_fld (pv 0) rfl))))), ?_⟩
    have c1 := C.b1
    have c2 := C.c.pos
    exact ⟨.ref x, rfl, x, _, dx, _, .int sa, rfl, hx, T.c_Crossing, T.n_Crossing_start, rfl, .int m, rfl, .ref x, rfl, x, _, dx, _, .int st, rfl, hx, T.c_Crossing, T.n_Crossing_step, rfl, m, st, rfl, rfl, by walk_at "sc", sa, _, rfl, rfl, k⟩
theorem k_bounds (T : Tx K mg) : FnOk P w K mg base CX0 2 (He.ma K (He.ga K "Crossing") "bounds") T.fd_Crossing_bounds P_Crossing_bounds (spBounds K) := by
  have c_least_fit := k_fit (P := P) (w := w) (base := base) T
  refine T.fn_Crossing_bounds.ok sc_Crossing_bounds (fun vs H Q E h => ?_) (fun cdv A outer s H vs Q E hr h => ?_)
  · obtain ⟨x, l, vs', ps, q1, q2, e, st, os, sa, oa, rfl, _⟩ := h
    rfl
  · obtain ⟨x, l, vs', ps, q1, q2, e, st, os, sa, oa, rfl, ⟨dx, a, b, hx, ha, hb, C⟩, hl, hc, hlen, hbd, k⟩ := h
    refine ⟨_, PSs.nox (pss_cons (ps_if (pt_val (pe_fld (pv 0) rfl)) (pss_one (ps_ret (pe_tup (pa_cons pe_int (pa_cons pe_int pa_nil))))) pss_nil)
      (pss_one (ps_ret (pe_call c_least_fit.F (hr.mono (by decide)) (by rfl) T.g_least_fit c_least_fit.kp c_least_fit.b .nil pass0 (pa_cons (pe_lst (pa_cons (pe_tup (pa_cons (pe_fld (pv 0) rfl) (pa_cons (pe_fld (pv 0) rfl) pa_nil))) (StX.pa_star (pv 1) pa_nil))) pa_nil))))), ?_⟩
    refine ⟨.ref x, rfl, x, _, dx, _, .bl e, rfl, hx, T.c_Crossing, T.n_Crossing_is_empty, rfl, e, rfl, ite2 (fun he => ?_) (fun he => ?_)⟩
    · refine ⟨sz_of (show 2 ≤ 1000 by decide), fun t nt => k t 1 (some 0) _ (Same.new nt) nt upd_same ?_⟩
      unfold BndR
      rw [if_pos he]
      exact ⟨rfl, rfl⟩
    · refine ⟨.ref x, rfl, x, _, dx, _, .int oa, rfl, hx, T.c_Crossing, T.n_Crossing_other_start, rfl, .ref x, rfl, x, _, dx, _, .int os, rfl, hx, T.c_Crossing, T.n_Crossing_other_step, rfl, sz_of (show 2 ≤ 1000 by decide), fun u nu => ?_⟩
      have sm : Same H (upd H u (.tup [.int oa, .int os])) := Same.new nu
      have hu : (upd H u (.tup [.int oa, .int os])) u = some (.tup [.int oa, .int os]) := upd_same
      generalize upd H u (.tup [.int oa, .int os]) = H1 at sm hu ⊢
      have hl1 : SqT K H1 l vs' ∨ SqL K H1 l vs' := hl.elim (fun z => .inl (Same.tup sm z)) fun z => .inr (sm.seq z)
      refine ⟨.ref l, rfl, l, vs', rfl, hl1, ?_⟩
      have ea : V.ref u :: (vs' ++ []) = V.ref u :: vs' := by rw [List.append_nil]
      refine ⟨sz_of (show (V.ref u :: (vs' ++ [])).length ≤ 1000 by rw [ea, List.length_cons]; omega), fun v nv => ?_⟩
      have sm2 : Same H1 (upd H1 v (.lst (.ref u :: (vs' ++ [])))) := Same.new nv
      have hv : (upd H1 v (.lst (.ref u :: (vs' ++ [])))) v = some (.lst (.ref u :: (vs' ++ []))) := upd_same
      generalize upd H1 v (.lst (.ref u :: (vs' ++ []))) = H2 at sm2 hv ⊢
      rw [ea] at hv
      have cl : CList K H2 (.ref u :: vs') ((oa, os) :: ps) := by
        refine .cons ⟨u, rfl, SqT.of (sm2 _ _ hu)⟩ (Paired.mapP hc fun v x ⟨a, e, h⟩ => ⟨a, e, Same.tup (sm.trans sm2) h⟩)
      refine ⟨v, _, _, rfl, SqL.of hv, cl, fun x hx => ?_, fun t low high H3 sm3 nt ht F => k t low high H3 ((sm.trans sm2).trans sm3) ((sm.trans sm2).free nt) ht ?_⟩
      · rcases List.mem_cons.mp hx with rfl | hx
        · have := C.b2
          have := C.b3
          have := C.b4
          have := C.b5
          dsimp only
          omega
        · exact hbd x hx
      · unfold BndR
        rw [if_neg he]
        exact F
theorem make_crossing {H : Hp} {x dx a b : Addr} {q1 q2 : Ptr} {Q : VK} (nx : H x = none) (ndx : H dx = none) (ne : dx ≠ x) (ha : SqT K H a (wayV q1)) (hb : SqT K H b (wayV q2)) (o1 : q1.Ok) (o2 : q2.Ok)
    (k : ∀ (H' : Hp) (e : Bool) (st os sa oa : Int), Same H H' → CObj K H' x q1 q2 e st os sa oa → Q .non H') :
    spCInit K [.ref x, .ref a, .ref b] (upd (upd H dx (.own x)) x (.ins (He.ga K "Crossing") dx [])) Q E0 := by
  have s1 : Same H (upd (upd H dx (.own x)) x (.ins (He.ga K "Crossing") dx [])) := Same.mut (Same.new ndx) nx
  refine ⟨x, dx, a, b, q1, q2, rfl, upd_same, Same.tup s1 ha, Same.tup s1 hb, o1, o2, fun H' e st os sa oa B hx C => ?_⟩
  have s2 : Same H H' := fun c o hc => B c o (ne_of_none hc nx) (s1 c o hc)
  exact k H' e st os sa oa s2 ⟨dx, a, b, hx, Same.tup s2 ha, Same.tup s2 hb, C⟩
end
end KP

namespace KP
open PySem PySem.Spec PyProof.Rows L2
local macro_rules | `(tactic| walk_at "sc") => `(tactic| first | (show (0 : Int) < _; decide) | (show (0 : Int) < _; omega) | (refine ⟨?_, ?_, ?_, ?_⟩ <;> (first | omega | (unfold Big; omega))) | (refine ⟨?_, ?_, ?_⟩ <;> (first | omega | (unfold Big; omega))) | (refine ⟨?_, ?_⟩ <;> (first | omega | (unfold Big; omega))))
/-! ### two painters with great numbers -/
structure Ptr.Gt (q : Ptr) : Prop where
  nm : NameOk q.name
  d0 : 0 ≤ q.day
  d1 : q.day ≤ 10 ^ 30 - 10 ^ 20
  p0 : -(10 ^ 29) ≤ q.post
  p1 : q.post ≤ 10 ^ 29
  s0 : -(10 ^ 17) ≤ q.stride
  s1 : q.stride ≤ 10 ^ 17
  sn : q.stride ≠ 0
theorem Ptr.Gt.ok {q : Ptr} (h : q.Gt) : q.Ok := ⟨h.nm, h.d0, by have := h.d1; omega, by have := h.p0; omega, by have := h.p1; omega, by have := h.s0; omega, by have := h.s1; omega, h.sn⟩
def spGDuo (K : PySem.W.Frag) : Sp := fun vs H Q _ => ∃ (p : Pid) (b : Int), vs = [.ref p.a] ∧ Pen K H p b ∧ b < 10 ^ 9 ∧
  ∀ (t t1 t2 : Addr) (q1 q2 : Ptr) (hub : Int) (H' : Hp) (b' : Int), Ext p.a H H' → Pen K H' p b' → b' ≤ b + 4000 → H' t = some (.tup [.ref t1, .ref t2, .int hub]) → H' t1 = some (.tup (tupP q1)) → H' t2 = some (.tup (tupP q2)) → q1.Gt → q2.Gt → -(10 ^ 28) ≤ hub → hub ≤ 10 ^ 28 → Q (.ref t) H'
theorem mul_bd {a b A B : Int} (a0 : 0 ≤ a) (a1 : a ≤ A) (b0 : 0 ≤ b) (b1 : b ≤ B) : 0 ≤ a * b ∧ a * b ≤ A * B := by
  refine ⟨Int.mul_nonneg a0 b0, ?_⟩
  have h1 : a * b ≤ a * B := Int.mul_le_mul_of_nonneg_left b1 a0
  have h2 : a * B ≤ A * B := Int.mul_le_mul_of_nonneg_right a1 (by omega)
  omega
theorem mul_bd2 {a b A B : Int} (a0 : 0 ≤ a) (a1 : a ≤ A) (b0 : -B ≤ b) (b1 : b ≤ B) : -(A * B) ≤ a * b ∧ a * b ≤ A * B := by
  have h1 : a * b ≤ a * B := Int.mul_le_mul_of_nonneg_left b1 a0
  have h3 : a * (-B) ≤ a * b := Int.mul_le_mul_of_nonneg_left b0 a0
  have h2 : a * B ≤ A * B := Int.mul_le_mul_of_nonneg_right a1 (by omega)
  have h4 : a * (-B) = -(a * B) := Int.mul_neg ..
  omega
theorem mem2 {v : V} {x y : Int} (h : v ∈ [V.int x, V.int y]) : v = .int x ∨ v = .int y := by
  rcases List.mem_cons.mp h with h | h
  · exact .inl h
  · exact .inr (List.mem_singleton.mp h)
section
variable {P : Program} {w : World} {K : PySem.W.Frag} {mg : Str → Option Value} {base : Heap}
theorem k_great_duo (T : Tx K mg) : Cal P w K mg base 16 (He.ga K "_law_great_duo") T.fd_great_duo P_great_duo (spGDuo K) := by
  have c_draw := k_draw (P := P) (w := w) (base := base) T
  have c_pick := k_pick (P := P) (w := w) (base := base) T
  have c_great := k_great (P := P) (w := w) (base := base) T
  have c_names := k_names (P := P) (w := w) (base := base) T
  refine ⟨T.fn_great_duo.ok sc_great_duo (fun vs H Q E h => ?_) (fun cdv A outer s H vs Q E hr h => ?_), T.fn_great_duo.kp, FunD.bindsN T.fn_great_duo fun _ _ _ _ _ _ us hl => match us, hl with | [_], _ => rfl⟩
  · obtain ⟨p, b, rfl, _⟩ := h
    rfl
  · obtain ⟨p, b, rfl, hP, hb, k⟩ := h
    refine ⟨_, PSs.nox (pss_cons (ps_par3 (by rfl) sc_great_duo.nd (i := 1) (j := 2) (l := 3) rfl rfl rfl (by decide) (by decide) (by decide) rfl rfl rfl (pa_cons (pe_call c_names.F (hr.mono (by decide)) (by rfl) T.g_names c_names.kp c_names.b .nil pass0 (pa_cons (pv 0) (pa_cons pe_int pa_nil))) (pa_cons (pe_op op_mulB (pe_call c_great.F (hr.mono (by decide)) (by rfl) T.g_great c_great.kp c_great.b .nil pass0 (pa_cons (pv 0) (pa_cons pe_int pa_nil))) (pe_call c_pick.F (hr.mono (by decide)) (by rfl) T.g_pick c_pick.kp c_pick.b .nil pass0 (pa_cons (pv 0) (pa_cons (pe_lst (pa_cons pe_int (pa_cons (pe_un un_neg pe_int) pa_nil))) pa_nil)))) (pa_cons (pe_lst pa_nil) pa_nil))) (by rfl))
      (pss_cons (ps_par (by rfl) sc_great_duo.nd (i := 4) (j := 5) rfl rfl (by decide) rfl rfl (pa_cons (pe_op op_add pe_int (pe_call c_pick.F (hr.mono (by decide)) (by rfl) T.g_pick c_pick.kp c_pick.b .nil pass0 (pa_cons (pv 0) (pa_cons (pe_lst (pa_cons (pe_call c_draw.F (hr.mono (by decide)) (by rfl) T.g_draw c_draw.kp c_draw.b .nil pass0 (pa_cons (pv 0) (pa_cons pe_int pa_nil))) (pa_cons (pe_call c_great.F (hr.mono (by decide)) (by rfl) T.g_great c_great.kp c_great.b .nil pass0 (pa_cons (pv 0) (pa_cons pe_int pa_nil))) pa_nil))) pa_nil)))) (pa_cons (pe_op op_add (ppow (c := 1000000000000) (by decide) (by decide +kernel)) (pe_call c_great.F (hr.mono (by decide)) (by rfl) T.g_great c_great.kp c_great.b .nil pass0 (pa_cons (pv 0) (pa_cons pe_int pa_nil)))) pa_nil)) (by rfl))
      (pss_cons (ps_for PassesOwn.never rfl (pi_range1 (by rfl) T.b_range (pa_cons pe_int pa_nil)) (pg_name (i := 6) sc_great_duo.nd rfl (Or.inl rfl))
      (pss_cons (ps_set (i := 7) sc_great_duo.nd rfl (Or.inl rfl) (pe_op op_mulB (pe_op op_mulB (pv 4) (pe_op op_add pe_int (pe_call c_pick.F (hr.mono (by decide)) (by rfl) T.g_pick c_pick.kp c_pick.b .nil pass0 (pa_cons (pv 0) (pa_cons (pe_lst (pa_cons (pe_call c_draw.F (hr.mono (by decide)) (by rfl) T.g_draw c_draw.kp c_draw.b .nil pass0 (pa_cons (pv 0) (pa_cons pe_int pa_nil))) (pa_cons (pe_call c_great.F (hr.mono (by decide)) (by rfl) T.g_great c_great.kp c_great.b .nil pass0 (pa_cons (pv 0) (pa_cons pe_int pa_nil))) pa_nil))) pa_nil))))) (pe_call c_pick.F (hr.mono (by decide)) (by rfl) T.g_pick c_pick.kp c_pick.b .nil pass0 (pa_cons (pv 0) (pa_cons (pe_lst (pa_cons pe_int (pa_cons (pe_un un_neg pe_int) pa_nil))) pa_nil)))))
      (pss_cons (ps_set (i := 8) sc_great_duo.nd rfl (Or.inl rfl) (pe_call c_pick.F (hr.mono (by decide)) (by rfl) T.g_pick c_pick.kp c_pick.b .nil pass0 (pa_cons (pv 0) (pa_cons (pe_lst (pa_cons (pe_call c_draw.F (hr.mono (by decide)) (by rfl) T.g_draw c_draw.kp c_draw.b .nil pass0 (pa_cons (pv 0) (pa_cons pe_int pa_nil))) (pa_cons (pe_call c_great.F (hr.mono (by decide)) (by rfl) T.g_great c_great.kp c_great.b .nil pass0 (pa_cons (pv 0) (pa_cons pe_int pa_nil))) pa_nil))) pa_nil))))
      (pss_cons (ps_set (i := 9) sc_great_duo.nd rfl (Or.inl rfl) (pe_op op_sub (pe_op op_add (pv 5) (pe_call c_pick.F (hr.mono (by decide)) (by rfl) T.g_pick c_pick.kp c_pick.b .nil pass0 (pa_cons (pv 0) (pa_cons (pe_lst (pa_cons pe_int (pa_cons (pe_call c_draw.F (hr.mono (by decide)) (by rfl) T.g_draw c_draw.kp c_draw.b .nil pass0 (pa_cons (pv 0) (pa_cons pe_int pa_nil))) (pa_cons (pe_call c_great.F (hr.mono (by decide)) (by rfl) T.g_great c_great.kp c_great.b .nil pass0 (pa_cons (pv 0) (pa_cons pe_int pa_nil))) pa_nil)))) pa_nil)))) (pv 8)))
      (pss_one (ps_expr (pe_bm PySem.F.plainAttrs_list PySem.F.slot_list_append PySem.F.type_list_append mt_append (pv 3) (pa_cons (pe_tup (pa_cons (pe_ix ix_list (pv 1) (pv 6) (fun _ _ => rfl)) (pa_cons (pv 9) (pa_cons (pe_op op_sub (pv 2) (pe_op op_mulB (pv 8) (pv 7))) (pa_cons (pv 7) pa_nil))))) pa_nil))))))))
      (Evl.pss_cut (ps_if (pt_cmpR op_eq (pe_call c_draw.F (hr.mono (by decide)) (by rfl) T.g_draw c_draw.kp c_draw.b .nil pass0 (pa_cons (pv 0) (pa_cons pe_int pa_nil))) pe_int (nomark _)) (pss_one (ps_asg (pe_op op_catT (pe_op op_catT (pe_slice sl_tup (pe_ix ix_list (pv 3) pe_int (fun _ _ => rfl)) po_none (po_some pe_int)) (pe_tup (pa_cons (pe_op op_add (pe_op op_add (pe_ix ix_tup (pe_ix ix_list (pv 3) pe_int (fun _ _ => rfl)) pe_int (fun _ _ => rfl)) pe_int) (pe_call c_draw.F (hr.mono (by decide)) (by rfl) T.g_draw c_draw.kp c_draw.b .nil pass0 (pa_cons (pv 0) (pa_cons pe_int pa_nil)))) pa_nil))) (pe_slice sl_tup (pe_ix ix_list (pv 3) pe_int (fun _ _ => rfl)) (po_some pe_int) po_none)) (pg_sub (pv 3) pe_int set_list))) pss_nil)
      (pss_one (ps_ret (pe_tup (pa_cons (pe_ix ix_list (pv 3) pe_int (fun _ _ => rfl)) (pa_cons (pe_ix ix_list (pv 3) pe_int (fun _ _ => rfl)) (pa_cons (pv 2) pa_nil)))))))))), ?_⟩
    -- names, hub, found
    refine ⟨.ref p.a, rfl, p, 2, b, rfl, hP, by decide, by decide, by omega, fun ln zs H1 b1 e1 nln hP1 hb1 hln hzl hz _ => ?_⟩
    refine ⟨.ref p.a, rfl, p, 28, b1, rfl, hP1, by decide, by decide, by omega, fun g H2 b2 e2 hP2 hb2 g0 g1 => ?_⟩
    refine ⟨.ref p.a, rfl, _, rfl, sz_of (show 2 ≤ 1000 by decide), fun t nt => ?_⟩
    refine ⟨p, .ref t, [.int 1, .int (-1)], b2, rfl, hP2.new nt, .inl ⟨t, rfl, .inl (SqL.of upd_same)⟩, (fun z => nomatch z), (show 2 ≤ 1000 by decide), by omega, fun v hv H3 b3 e3 hP3 hb3 => ?_⟩
    have e13 : Ext p.a H H3 := e1.trans (e2.trans ((Ext.new hP2.is_ nt).trans e3))
    have hln3 : H3 ln = some (.lst (zs.map V.str)) := e3.at ((Ext.new hP2.is_ nt).at (e2.at hln fun _ z => nomatch z) fun _ z => nomatch z) fun _ z => nomatch z
    obtain ⟨sgn, rfl, hsg⟩ : ∃ x : Int, v = .int x ∧ (x = 1 ∨ x = -1) := (mem2 hv).elim (fun h => ⟨1, h, .inl rfl⟩) fun h => ⟨-1, h, .inr rfl⟩
    refine ⟨g, sgn, rfl, rfl, by walk_at "sc", Nat.zero_le _, fun l nl => ⟨_, _, _, rfl, ?_⟩⟩
    have hubB : -(10 ^ 28) ≤ g * sgn ∧ g * sgn ≤ 10 ^ 28 := by rcases hsg with rfl | rfl <;> omega
    have nlH : H l = none := e13.back nl
    have nll : ln ≠ l := ne_of_none hln3 nl
    have e4 : Ext p.a H3 (upd H3 l (.lst [])) := Ext.new hP3.is_ nl
    have hP4 := hP3.new (o := .lst []) nl
    have hl4 : (upd H3 l (.lst [])) l = some (.lst []) := upd_same
    have hln4 := e4.at hln3 fun _ z => nomatch z
    generalize upd H3 l (.lst []) = H4 at e4 hP4 hl4 hln4 ⊢
    -- lot, base
    refine ⟨.ref p.a, rfl, .ref p.a, rfl, p, 9, b3, rfl, hP4, by decide, by decide, by omega, fun r1 H5 b5 e5 hP5 hb5 r10 r11 => ?_⟩
    refine ⟨.ref p.a, rfl, p, 9, b5, rfl, hP5, by decide, by decide, by omega, fun r2 H6 b6 e6 hP6 hb6 r20 r21 => ?_⟩
    refine ⟨sz_of (show 2 ≤ 1000 by decide), fun t2 nt2 => ?_⟩
    refine ⟨p, .ref t2, [.int r1, .int r2], b6, rfl, hP6.new nt2, .inl ⟨t2, rfl, .inl (SqL.of upd_same)⟩, (fun z => nomatch z), (show 2 ≤ 1000 by decide), by omega, fun v hv H7 b7 e7 hP7 hb7 => ?_⟩
    obtain ⟨lo, rfl, lo0, lo1⟩ : ∃ x : Int, v = .int x ∧ 0 ≤ x ∧ x < 10 ^ 9 := (mem2 hv).elim (fun h => ⟨r1, h, r10, by omega⟩) fun h => ⟨r2, h, r20, r21⟩
    refine ⟨1, lo, rfl, rfl, .ref p.a, rfl, p, 29, b7, rfl, hP7, by decide, by decide, by omega, fun r3 H8 b8 e8 hP8 hb8 r30 r31 => ?_⟩
    refine ⟨1000000000000, r3, rfl, rfl, _, _, rfl, ?_⟩
    have e48 : Ext p.a H4 H8 := (e5.trans e6).trans (((Ext.new hP6.is_ nt2).trans e7).trans e8)
    have hl8 := e48.at hl4 fun _ z => nomatch z
    have hln8 := e48.at hln4 fun _ z => nomatch z
    have eA : Ext p.a H H8 := (e13.trans e4).trans e48
    -- the loop
    refine ⟨2, rfl, by decide, by decide, ?_⟩
    refine for_range (lo := 0) (n := 2) (fun i σ' H' => ∃ (y6 y7 y8 y9 : Option V) (vs : List V) (qs : List Ptr) (b' : Int), σ' = [some (.ref p.a), some (.ref ln), some (.int (g * sgn)), some (.ref l), some (.int (1 + lo)), some (.int (1000000000000 + r3)), y6, y7, y8, y9] ∧
      Ext p.a H H' ∧ Pen K H' p b' ∧ b' ≤ b8 + 1000 * i ∧ H' l = some (.lst vs) ∧ vs.length = i ∧ PList H' (fun q => q.Gt ∧ q.post ≤ 10 ^ 29 - 10 ^ 10) vs qs ∧ H' ln = some (.lst (zs.map V.str))) ?_ ?_ ?_
    · exact ⟨none, none, none, none, [], [], b8, rfl, eA, hP8, by omega, hl8, rfl, .nil, hln8⟩
    · rintro i σ' H' hi ⟨y6, y7, y8, y9, vs, qs, b', rfl, eH, hPH, hbH, hlH, hvl, hpl, hlnH⟩
      have hi2 : i < zs.length := by omega
      -- stride
      refine ⟨_, rfl, .ref p.a, rfl, .ref p.a, rfl, p, 6, b', rfl, hPH, by decide, by decide, by omega, fun d1 A1 c1 f1 hA1 hc1 d10 d11 => ?_⟩
      refine ⟨.ref p.a, rfl, p, 8, c1, rfl, hA1, by decide, by decide, by omega, fun d2 A2 c2 f2 hA2 hc2 d20 d21 => ?_⟩
      refine ⟨sz_of (show 2 ≤ 1000 by decide), fun u1 nu1 => ?_⟩
      refine ⟨p, .ref u1, [.int d1, .int d2], c2, rfl, hA2.new nu1, .inl ⟨u1, rfl, .inl (SqL.of upd_same)⟩, (fun z => nomatch z), (show 2 ≤ 1000 by decide), by omega, fun v hv A3 c3 f3 hA3 hc3 => ?_⟩
      obtain ⟨m, rfl, m0, m1⟩ : ∃ x : Int, v = .int x ∧ 0 ≤ x ∧ x < 10 ^ 8 := (mem2 hv).elim (fun h => ⟨d1, h, d10, by omega⟩) fun h => ⟨d2, h, d20, d21⟩
      have F3 : Ext p.a H' A3 := (f1.trans f2).trans ((Ext.new hA2.is_ nu1).trans f3)
      refine ⟨1, m, rfl, rfl, _, _, rfl, rfl, by walk_at "sc", .ref p.a, rfl, _, rfl, sz_of (show 2 ≤ 1000 by decide), fun u2 nu2 => ?_⟩
      refine ⟨p, .ref u2, [.int 1, .int (-1)], c3, rfl, hA3.new nu2, .inl ⟨u2, rfl, .inl (SqL.of upd_same)⟩, (fun z => nomatch z), (show 2 ≤ 1000 by decide), by omega, fun v hv A4 c4 f4 hA4 hc4 => ?_⟩
      obtain ⟨sn, rfl, hsn⟩ : ∃ x : Int, v = .int x ∧ (x = 1 ∨ x = -1) := (mem2 hv).elim (fun h => ⟨1, h, .inl rfl⟩) fun h => ⟨-1, h, .inr rfl⟩
      have F4 : Ext p.a H' A4 := F3.trans ((Ext.new hA3.is_ nu2).trans f4)
      have pr := mul_bd (A := 10 ^ 9) (B := 10 ^ 8) (show 0 ≤ 1 + lo by omega) (by omega) (show 0 ≤ 1 + m by omega) (by omega)
      have pr1 : 1 ≤ (1 + lo) * (1 + m) := by
        have := Int.mul_le_mul_of_nonneg_left (show (1 : Int) ≤ 1 + m by omega) (show (0 : Int) ≤ 1 + lo by omega)
        omega
      refine ⟨_, sn, rfl, rfl, by walk_at "sc", ?_⟩
      have stB : -(10 ^ 17) ≤ (1 + lo) * (1 + m) * sn ∧ (1 + lo) * (1 + m) * sn ≤ 10 ^ 17 ∧ (1 + lo) * (1 + m) * sn ≠ 0 := by
        rcases hsn with rfl | rfl
        · rw [Int.mul_one]
          omega
        · rw [show (1 + lo) * (1 + m) * (-1) = -((1 + lo) * (1 + m)) by rw [Int.mul_neg, Int.mul_one]]
          omega
      dsimp only
      generalize (1 + lo) * (1 + m) * sn = st at stB ⊢
      -- steps
      refine ⟨.ref p.a, rfl, .ref p.a, rfl, p, 9, c4, rfl, hA4, by decide, by decide, by omega, fun d3 A5 c5 f5 hA5 hc5 d30 d31 => ?_⟩
      refine ⟨.ref p.a, rfl, p, 11, c5, rfl, hA5, by decide, by decide, by omega, fun d4 A6 c6 f6 hA6 hc6 d40 d41 => ?_⟩
      refine ⟨sz_of (show 2 ≤ 1000 by decide), fun u3 nu3 => ?_⟩
      refine ⟨p, .ref u3, [.int d3, .int d4], c6, rfl, hA6.new nu3, .inl ⟨u3, rfl, .inl (SqL.of upd_same)⟩, (fun z => nomatch z), (show 2 ≤ 1000 by decide), by omega, fun v hv A7 c7 f7 hA7 hc7 => ?_⟩
      obtain ⟨stp, rfl, stp0, stp1⟩ : ∃ x : Int, v = .int x ∧ 0 ≤ x ∧ x < 10 ^ 11 := (mem2 hv).elim (fun h => ⟨d3, h, d30, by omega⟩) fun h => ⟨d4, h, d40, d41⟩
      have F7 : Ext p.a H' A7 := F4.trans ((f5.trans f6).trans ((Ext.new hA6.is_ nu3).trans f7))
      -- start
      refine ⟨_, rfl, .ref p.a, rfl, .ref p.a, rfl, p, 5, c7, rfl, hA7, by decide, by decide, by omega, fun d5 A8 c8 f8 hA8 hc8 d50 d51 => ?_⟩
      refine ⟨.ref p.a, rfl, p, 20, c8, rfl, hA8, by decide, by decide, by omega, fun d6 A9 c9 f9 hA9 hc9 d60 d61 => ?_⟩
      refine ⟨sz_of (show 3 ≤ 1000 by decide), fun u4 nu4 => ?_⟩
      refine ⟨p, .ref u4, [.int 0, .int d5, .int d6], c9, rfl, hA9.new nu4, .inl ⟨u4, rfl, .inl (SqL.of upd_same)⟩, (fun z => nomatch z), (show 3 ≤ 1000 by decide), by omega, fun v hv B1 c10 f10 hB1 hc10 => ?_⟩
      obtain ⟨ad, rfl, ad0, ad1⟩ : ∃ x : Int, v = .int x ∧ 0 ≤ x ∧ x < 10 ^ 20 := by
        rcases List.mem_cons.mp hv with h | hv
        · exact ⟨0, h, by decide, by decide⟩
        · exact (mem2 hv).elim (fun h => ⟨d5, h, d50, by omega⟩) fun h => ⟨d6, h, d60, d61⟩
      have FB1 : Ext p.a H' B1 := F7.trans ((f8.trans f9).trans ((Ext.new hA9.is_ nu4).trans f10))
      refine ⟨_, ad, rfl, rfl, .int stp, rfl, _, stp, rfl, rfl, ?_⟩
      have hlB := FB1.at hlH fun _ z => nomatch z
      have hlnB := FB1.at hlnH fun _ z => nomatch z
      have sb := mul_bd2 (A := 10 ^ 11) (B := 10 ^ 17) stp0 (by omega) stB.1 stB.2.1
      -- found.append
      refine ⟨.ref l, rfl, .inl ⟨rfl, _, .inl (.inl hlB)⟩, .ref ln, rfl, _, rfl, ln, _, _, .str zs[i], rfl, rfl, SqL.of hlnB, ?_, ?_⟩
      · rw [show (0 : Int) + (i : Int) = ((i : Nat) : Int) by omega]
        exact atI_nat (by rw [List.getElem?_map, List.getElem?_eq_getElem hi2]; rfl)
      refine ⟨_, rfl, _, rfl, .int stp, rfl, .int st, rfl, stp, st, rfl, rfl, by walk_at "sc", _, _, rfl, rfl, .int st, rfl, sz_of (show 4 ≤ 1000 by decide), fun t3 nt3 => ?_⟩
      have e12 : Ext p.a B1 (upd B1 t3 (.tup (tupP ⟨zs[i], 1000000000000 + r3 + ad - stp, g * sgn - stp * st, st⟩))) := Ext.new hB1.is_ nt3
      have hl9 := e12.at hlB fun _ z => nomatch z
      refine ⟨l, vs, .ref t3, rfl, rfl, hl9, Nat.lt_of_le_of_lt (show vs.length ≤ 2 by omega) (by rw [sizeLine_eq]; decide), ?_⟩
      refine ⟨_, _, _, _, vs ++ [.ref t3], qs ++ [⟨zs[i], 1000000000000 + r3 + ad - stp, g * sgn - stp * st, st⟩], c10, rfl, (eH.trans (FB1.trans e12)).mut nlH, (hB1.new nt3).mut hP nlH, by omega, upd_same, by rw [List.length_append]; simp; omega, ?_, ?_⟩
      · refine PList.mut (PList.snoc ⟨t3, rfl, upd_same, ⟨hz _ (List.getElem_mem hi2), ?_, ?_, ?_, ?_, ?_, ?_, ?_⟩, ?_⟩ ((hpl.ext FB1).ext e12)) hl9 <;> dsimp only <;> omega
      · rw [upd_ne nll]
        exact e12.at hlnB fun _ z => nomatch z
    · rintro σ' H' ⟨y6, y7, y8, y9, vs, qs, b', rfl, eH, hPH, hbH, hlH, hvl, hpl, hlnH⟩
      obtain ⟨t1, t2, q1, q2, rfl, h1, s1, h2, s2⟩ : ∃ t1 t2 q1 q2, vs = [.ref t1, .ref t2] ∧ H' t1 = some (.tup (tupP q1)) ∧ (q1.Gt ∧ q1.post ≤ 10 ^ 29 - 10 ^ 10) ∧ H' t2 = some (.tup (tupP q2)) ∧ (q2.Gt ∧ q2.post ≤ 10 ^ 29 - 10 ^ 10) := by
        match hpl with
        | .nil => simp at hvl
        | .cons _ .nil => simp at hvl
        | .cons ⟨t1, e1, h1, s1⟩ (.cons ⟨t2, e2, h2, s2⟩ .nil) => exact ⟨t1, t2, _, _, by rw [e1, e2], h1, s1, h2, s2⟩
        | .cons _ (.cons _ (.cons _ _)) =>
          simp at hvl
      refine ⟨fun σ2 H2 => ∃ (u2 : Addr) (r2 : Ptr) (b2 : Int), σ2 = [some (.ref p.a), some (.ref ln), some (.int (g * sgn)), some (.ref l), some (.int (1 + lo)), some (.int (1000000000000 + r3)), y6, y7, y8, y9] ∧ Ext p.a H H2 ∧ Pen K H2 p b2 ∧ b2 ≤ b8 + 2100 ∧ H2 l = some (.lst [.ref t1, .ref u2]) ∧ H2 t1 = some (.tup (tupP q1)) ∧ H2 u2 = some (.tup (tupP r2)) ∧ r2.Gt, ?_, ?_⟩
      · refine ⟨.ref p.a, rfl, p, 4, b', rfl, hPH, by decide, by decide, by omega, fun r A1 c1 f1 hA1 hc1 r0 r1 => ?_⟩
        have hlA := f1.at hlH fun _ z => nomatch z
        have h1A := f1.at h1 fun _ z => nomatch z
        have h2A := f1.at h2 fun _ z => nomatch z
        refine ⟨rfl, _, rfl, ite2 (fun e => ?_) (fun e => ?_)⟩
        · -- found[1][:2]
          refine ⟨.ref l, rfl, l, _, 1, .ref t2, rfl, rfl, SqL.of hlA, atI_nat (j := 1) rfl, 2, rfl, t2, _, rfl, SqT.of h2A, (show ¬(HT.sIx 4 0 none = 0 ∧ HT.sIx 4 4 (some 2) = 4) by decide), fun ta nta => ?_⟩
          have cut : cutV (tupP q2) none (some 2) = [.str q2.name, .int q2.day] := rfl
          rw [cut]
          have e6 : Ext p.a A1 (upd A1 ta (.tup [.str q2.name, .int q2.day])) := Ext.new hA1.is_ nta
          have hP6 := hA1.new (o := .tup [.str q2.name, .int q2.day]) nta
          have hta : (upd A1 ta (.tup [.str q2.name, .int q2.day])) ta = some (.tup [.str q2.name, .int q2.day]) := upd_same
          generalize upd A1 ta (.tup [.str q2.name, .int q2.day]) = A2 at e6 hP6 hta ⊢
          have hl2 := e6.at hlA fun _ z => nomatch z
          have h22 := e6.at h2A fun _ z => nomatch z
          -- (found[1][2] + 1 + draw,)
          refine ⟨.ref l, rfl, l, _, 1, .ref t2, rfl, rfl, SqL.of hl2, atI_nat (j := 1) rfl, t2, _, 2, .int q2.post, rfl, rfl, SqT.of h22, atI_nat (j := 2) rfl, _, _, rfl, rfl, .ref p.a, rfl, p, 9, c1, rfl, hP6, by decide, by decide, by omega, fun dd A3 c3 f3 hA3 hc3 dd0 dd1 => ?_⟩
          refine ⟨_, _, rfl, rfl, sz_of (show 1 ≤ 1000 by decide), fun tb ntb => ?_⟩
          have e7 : Ext p.a A3 (upd A3 tb (.tup [.int (q2.post + 1 + dd)])) := Ext.new hA3.is_ ntb
          have hP7 := hA3.new (o := .tup [.int (q2.post + 1 + dd)]) ntb
          have htb : (upd A3 tb (.tup [.int (q2.post + 1 + dd)])) tb = some (.tup [.int (q2.post + 1 + dd)]) := upd_same
          generalize upd A3 tb (.tup [.int (q2.post + 1 + dd)]) = A4 at e7 hP7 htb ⊢
          have hta4 := (f3.trans e7).at hta fun _ z => nomatch z
          refine ⟨ta, tb, _, _, rfl, rfl, SqT.of hta4, SqT.of htb, (fun z => nomatch z), sz_of (show 3 ≤ 1000 by decide), (fun z => nomatch z), fun _ tc ntc => ?_⟩
          have e8 : Ext p.a A4 (upd A4 tc (.tup ([.str q2.name, .int q2.day] ++ [.int (q2.post + 1 + dd)]))) := Ext.new hP7.is_ ntc
          have hP8 := hP7.new (o := .tup ([.str q2.name, .int q2.day] ++ [.int (q2.post + 1 + dd)])) ntc
          have htc : (upd A4 tc (.tup ([.str q2.name, .int q2.day] ++ [.int (q2.post + 1 + dd)]))) tc = some (.tup ([.str q2.name, .int q2.day] ++ [.int (q2.post + 1 + dd)])) := upd_same
          generalize upd A4 tc (.tup ([.str q2.name, .int q2.day] ++ [.int (q2.post + 1 + dd)])) = A5 at e8 hP8 htc ⊢
          have e15 : Ext p.a A2 A5 := (f3.trans e7).trans e8
          have hl5 := e15.at hl2 fun _ z => nomatch z
          have h25 := e15.at h22 fun _ z => nomatch z
          -- found[1][3:]
          refine ⟨.ref l, rfl, l, _, 1, .ref t2, rfl, rfl, SqL.of hl5, atI_nat (j := 1) rfl, 3, rfl, t2, _, rfl, SqT.of h25, (show ¬(HT.sIx 4 0 (some 3) = 0 ∧ HT.sIx 4 4 none = 4) by decide), fun td ntd => ?_⟩
          have cut2 : cutV (tupP q2) (some 3) none = [.int q2.stride] := rfl
          rw [cut2]
          have e9 : Ext p.a A5 (upd A5 td (.tup [.int q2.stride])) := Ext.new hP8.is_ ntd
          have hP9 := hP8.new (o := .tup [.int q2.stride]) ntd
          have htd : (upd A5 td (.tup [.int q2.stride])) td = some (.tup [.int q2.stride]) := upd_same
          generalize upd A5 td (.tup [.int q2.stride]) = A6 at e9 hP9 htd ⊢
          have htc6 := e9.at htc fun _ z => nomatch z
          refine ⟨tc, td, _, _, rfl, rfl, SqT.of htc6, SqT.of htd, (fun z => nomatch z), sz_of (show 4 ≤ 1000 by decide), (fun z => nomatch z), fun _ te nte => ?_⟩
          have e10 : Ext p.a A6 (upd A6 te (.tup (tupP ⟨q2.name, q2.day, q2.post + 1 + dd, q2.stride⟩))) := Ext.new hP9.is_ nte
          have hl10 := e10.at (e9.at hl5 fun _ z => nomatch z) fun _ z => nomatch z
          have e1A : Ext p.a A1 A6 := e6.trans (e15.trans e9)
          have h110 := e10.at (e1A.at h1A fun _ z => nomatch z) fun _ z => nomatch z
          refine ⟨.ref l, rfl, l, _, 1, 1, rfl, rfl, hl10, rfl, ?_⟩
          refine ⟨te, ⟨q2.name, q2.day, q2.post + 1 + dd, q2.stride⟩, c3, rfl, ((eH.trans f1).trans (e1A.trans e10)).mut nlH, (hP9.new nte).mut hP nlH, by omega, upd_same, ?_, ?_, ⟨s2.1.nm, s2.1.d0, s2.1.d1, ?_, ?_, s2.1.s0, s2.1.s1, s2.1.sn⟩⟩
          · rw [upd_ne (ne_of h110 hl10 fun z => nomatch z)]
            exact h110
          · rw [upd_ne (ne_of (upd_same (H := A6)) hl10 fun z => nomatch z)]
            exact upd_same
          · have := s2.1.p0
            dsimp only
            omega
          · have := s2.2
            dsimp only
            omega
        · exact ⟨t2, q2, c1, rfl, eH.trans f1, hA1, by omega, hlA, h1A, h2A, s2.1⟩
      · rintro σ2 H2 ⟨u2, r2, b2, rfl, eX, hPX, hbX, hlX, h1X, h2X, sX⟩
        refine ⟨.ref l, rfl, l, _, 0, .ref t1, rfl, rfl, SqL.of hlX, atI_nat (j := 0) rfl, .ref l, rfl, l, _, 1, .ref u2, rfl, rfl, SqL.of hlX, atI_nat (j := 1) rfl, _, rfl, sz_of (show 3 ≤ 1000 by decide), fun t nt => ?_⟩
        have e3 : Ext p.a H2 (upd H2 t (.tup [.ref t1, .ref u2, .int (g * sgn)])) := Ext.new hPX.is_ nt
        exact k t t1 u2 q1 r2 (g * sgn) _ b2 (eX.trans e3) (hPX.new nt) (by omega) upd_same (e3.at h1X fun _ z => nomatch z) (e3.at h2X fun _ z => nomatch z) s1.1 sX hubB.1 hubB.2
end
end KP

namespace KP
open PySem PySem.Spec PyProof.Rows L2
local macro_rules | `(tactic| walk_at "sc") => `(tactic| first | (show (0 : Int) < _; decide) | (show (0 : Int) < _; omega) | (refine ⟨?_, ?_, ?_, ?_⟩ <;> (first | omega | (unfold Big; omega))) | (refine ⟨?_, ?_, ?_⟩ <;> (first | omega | (unfold Big; omega))) | (refine ⟨?_, ?_⟩ <;> (first | omega | (unfold Big; omega))))
/-! ### the law's own remainders -/
def spLCommon (K : PySem.W.Frag) : Sp := fun vs H Q _ => ∃ (a b : Addr) (q1 q2 : Ptr), vs = [.ref a, .ref b] ∧ SqT K H a (tupP q1) ∧ SqT K H b (tupP q2) ∧ q1.Ok ∧ q2.Ok ∧
  (∀ H', Same H H' → (∀ k j, q1.post + k * q1.stride ≠ q2.post + j * q2.stride) → Q .non H') ∧
  ∀ (t : Addr) (st os sa oa : Int) (H' : Hp), Same H H' → H t = none → H' t = some (.tup [.int sa, .int st, .int oa, .int os]) → CrossB q1 q2 false st os sa oa → Q (.ref t) H'
theorem sgn_div {t : Int} (ht : t ≠ 0) : (t.natAbs : Int).fdiv t = if 0 < t then 1 else -1 := by
  rcases abs_cases t with ⟨h1, h2⟩ | ⟨h1, h2⟩
  · rw [h2, if_pos (by omega)]
    exact Int.fdiv_self ht
  · rw [h2, if_neg (by omega)]
    have := Int.mul_fdiv_cancel_left (-1) ht
    rw [show -t = t * -1 by omega]
    exact this
section
variable {P : Program} {w : World} {K : PySem.W.Frag} {mg : Str → Option Value} {base : Heap}
theorem k_lgcd (T : Tx K mg) : Cal P w K mg base 1 (He.ga K "_law_gcd") T.fd_lgcd P_lgcd spGcd := by
  refine ⟨T.fn_lgcd.ok sc_lgcd (fun vs H Q E h => ?_) (fun cdv A outer s H vs Q E hr h => ?_), T.fn_lgcd.kp, FunD.bindsN T.fn_lgcd fun _ _ _ _ _ _ us hl => match us, hl with | [_, _], _ => rfl⟩
  · obtain ⟨a, b, rfl, _⟩ := h
    rfl
  · obtain ⟨a, b, rfl, k⟩ := h
    refine ⟨_, PSs.nox (pss_cons (ps_par (by rfl) sc_lgcd.nd (i := 0) (j := 1) rfl rfl (by decide) rfl rfl (pa_cons (pe_callB call_abs (by rfl) T.b_abs (by decide +kernel) (pa_cons (pv 0) pa_nil)) (pa_cons (pe_callB call_abs (by rfl) T.b_abs (by decide +kernel) (pa_cons (pv 1) pa_nil)) pa_nil)) (by rfl))
      (pss_cons (ps_while PassesOwn.never (pt_cmpR op_gt (pv 1) pe_int (nomark _))
      (pss_one (ps_par (by rfl) sc_lgcd.nd (i := 0) (j := 1) rfl rfl (by decide) rfl rfl (pa_cons (pv 1) (pa_cons (pe_op op_mod (pe_callTy call_int1 (by rfl) T.b_int PyProof.Rows.boot_int (pa_cons (pv 0) pa_nil)) (pv 1)) pa_nil)) (by rfl))))
      (pss_one (ps_ret (pv 0))))), ?_⟩
    refine ⟨.int a, rfl, a, rfl, .int b, rfl, b, rfl, _, _, rfl, ?_⟩
    rw [ifabs, ifabs]
    refine ⟨fun m σ' H' => ∃ x y : Int, σ' = [some (.int x), some (.int y)] ∧ H' = H ∧ 0 ≤ x ∧ 0 ≤ y ∧ m = y.toNat ∧ Int.gcd x y = Int.gcd a b, ⟨_, _, _, rfl, rfl, by omega, by omega, rfl, rfl⟩, ?_⟩
    rintro m σ' H' ⟨x, y, rfl, rfl, x0, y0, rfl, hg⟩
    refine ⟨.int y, rfl, y, 0, rfl, rfl, _, rfl, ite2 (fun e => ?_) (fun e => ?_)⟩
    · have yp : 0 < y := of_decide_eq_true e
      have yn : y ≠ 0 := by omega
      refine ⟨fun σ2 H2 => ∃ x2 y2 : Int, σ2 = [some (.int x2), some (.int y2)] ∧ H2 = H' ∧ 0 ≤ x2 ∧ 0 ≤ y2 ∧ y2 < y ∧ Int.gcd x2 y2 = Int.gcd a b, ?_, ?_⟩
      · rintro σ2 H2 ⟨x2, y2, rfl, rfl, h1, h2, h3, h4⟩
        exact ⟨y2.toNat, by omega, x2, y2, rfl, rfl, h1, h2, rfl, h4⟩
      · refine ⟨.int y, rfl, .int x, rfl, .inl ⟨x, rfl, .int y, rfl, x, y, rfl, rfl, by walk_at "sc", _, _, rfl, y, x % y, rfl, rfl, y0, Int.emod_nonneg _ yn, Int.emod_lt_of_pos _ (by omega), ?_⟩⟩
        rw [← hg]
        exact gcd_mod x y
    · have yz : y = 0 := by
        have : ¬ 0 < y := of_decide_eq_false (Bool.eq_false_iff.mpr e)
        omega
      subst yz
      refine ⟨.int x, rfl, ?_⟩
      have : (Int.gcd a b : Int) = x := by
        rw [← hg, Int.gcd_zero_right]
        omega
      rw [this] at k
      exact k
theorem k_linverse (T : Tx K mg) : Cal P w K mg base 1 (He.ga K "_law_inverse") T.fd_linverse P_linverse spInv := by
  refine ⟨T.fn_linverse.ok sc_linverse (fun vs H Q E h => ?_) (fun cdv A outer s H vs Q E hr h => ?_), T.fn_linverse.kp, FunD.bindsN T.fn_linverse fun _ _ _ _ _ _ us hl => match us, hl with | [_, _], _ => rfl⟩
  · obtain ⟨n, m, rfl, _⟩ := h
    rfl
  · obtain ⟨n, m, rfl, m0, mb, hg, k⟩ := h
    refine ⟨_, PSs.nox (pss_cons (ps_asg (pe_tup (pa_cons (pe_op op_mod (pe_callTy call_int1 (by rfl) T.b_int PyProof.Rows.boot_int (pa_cons (pv 0) pa_nil)) (pv 1)) (pa_cons (pv 1) (pa_cons pe_int (pa_cons pe_int pa_nil))))) (pg_tup rfl (pgs_cons (pg_name (i := 2) sc_linverse.nd rfl (Or.inl rfl)) (pgs_cons (pg_name (i := 3) sc_linverse.nd rfl (Or.inl rfl)) (pgs_cons (pg_name (i := 4) sc_linverse.nd rfl (Or.inl rfl)) (pgs_cons (pg_name (i := 5) sc_linverse.nd rfl (Or.inl rfl)) pgs_nil))))))
      (pss_cons (ps_while PassesOwn.never (pt_cmpR op_gt (pv 3) pe_int (nomark _))
      (pss_cons (ps_set (i := 6) sc_linverse.nd rfl (Or.inl rfl) (pe_op op_fdivB (pv 2) (pv 3)))
      (pss_cons (ps_par (by rfl) sc_linverse.nd (i := 2) (j := 3) rfl rfl (by decide) rfl rfl (pa_cons (pv 3) (pa_cons (pe_op op_sub (pv 2) (pe_op op_mulB (pv 6) (pv 3))) pa_nil)) (by rfl))
      (pss_one (ps_par (by rfl) sc_linverse.nd (i := 4) (j := 5) rfl rfl (by decide) rfl rfl (pa_cons (pv 5) (pa_cons (pe_op op_sub (pv 4) (pe_op op_mulB (pv 6) (pv 5))) pa_nil)) (by rfl))))))
      (pss_one (ps_ret (pe_op op_mod (pe_callTy call_int1 (by rfl) T.b_int PyProof.Rows.boot_int (pa_cons (pv 4) pa_nil)) (pv 1)))))), ?_⟩
    refine ⟨.int n, rfl, .inl ⟨n, rfl, .int m, rfl, n, m, rfl, rfl, m0, .int m, rfl, sz_of (show 4 ≤ 1000 by decide), fun t nt => ?_⟩⟩
    refine ⟨t, _, rfl, SqT.of upd_same, rfl, _, _, rfl, _, _, rfl, _, _, rfl, _, _, rfl, rfl, ?_⟩
    have sm : Same H (upd H t (.tup [.int (n % m), .int m, .int 1, .int 0])) := Same.new nt
    generalize upd H t (.tup [.int (n % m), .int m, .int 1, .int 0]) = H1 at sm ⊢
    have nm0 := Int.emod_nonneg n (show m ≠ 0 by omega)
    have nm1 := Int.emod_lt_of_pos n m0
    refine ⟨fun c σ' H' => ∃ (x y f g : Int) (y6 : Option V), σ' = [some (.int n), some (.int m), some (.int x), some (.int y), some (.int f), some (.int g), y6] ∧ H' = H1 ∧ 0 ≤ x ∧ x ≤ m ∧ 0 ≤ y ∧ y ≤ m ∧ c = y.toNat ∧ Int.gcd x y = 1 ∧
      (f.natAbs : Int) * y + g.natAbs * x ≤ m ∧ (g = 0 ∨ 1 ≤ x) ∧ (∃ u, f * n = x + m * u) ∧ (∃ u, g * n = y + m * u), ⟨_, n % m, m, 1, 0, none, rfl, rfl, nm0, by omega, by omega, by omega, rfl, ?_, by simp, .inl rfl, ⟨n / m, ?_⟩, ⟨-1, by omega⟩⟩, ?_⟩
    · rw [Int.gcd_comm, gcd_mod]
      exact hg
    · have := Int.emod_add_mul_ediv n m
      omega
    rintro c σ' H' ⟨x, y, f, g, y6, rfl, rfl, x0, xm, y0, ym, rfl, hxy, hb, hgx, ⟨u, hu⟩, ⟨v, hv⟩⟩
    refine ⟨.int y, rfl, y, 0, rfl, rfl, _, rfl, ite2 (fun e => ?_) (fun e => ?_)⟩
    · have yp : 0 < y := of_decide_eq_true e
      have yn : y ≠ 0 := by omega
      have tq0 : 0 ≤ x / y := Int.ediv_nonneg x0 y0
      have tq1 : x / y ≤ x := Int.ediv_le_self y x0
      have fb : (f.natAbs : Int) ≤ m := by
        have h1 : (f.natAbs : Int) * 1 ≤ f.natAbs * y := Int.mul_le_mul_of_nonneg_left (by omega) (by omega)
        have h2 : 0 ≤ (g.natAbs : Int) * x := Int.mul_nonneg (by omega) x0
        omega
      have gb : (g.natAbs : Int) ≤ m := by
        rcases hgx with rfl | h1
        · simp
          omega
        · have h1 : (g.natAbs : Int) * 1 ≤ g.natAbs * x := Int.mul_le_mul_of_nonneg_left (by omega) (by omega)
          have h2 : 0 ≤ (f.natAbs : Int) * y := Int.mul_nonneg (by omega) y0
          omega
      have em := Int.emod_add_mul_ediv x y
      have r0 := Int.emod_nonneg x yn
      have r1 := Int.emod_lt_of_pos x (show 0 < y by omega)
      have cm : x / y * y = y * (x / y) := Int.mul_comm _ _
      refine ⟨_, fun σ2 H2 z => z, ?_⟩
      refine ⟨.int x, rfl, .int y, rfl, x, y, rfl, rfl, by walk_at "sc", ?_⟩
      refine ⟨.int y, rfl, .int x, rfl, .int (x / y), rfl, .int y, rfl, x / y, y, rfl, rfl, by walk_at "sc", x, _, rfl, rfl, _, _, rfl, ?_⟩
      refine ⟨.int g, rfl, .int f, rfl, .int (x / y), rfl, .int g, rfl, x / y, g, rfl, rfl, by walk_at "sc", f, _, rfl, rfl, _, _, rfl, ?_⟩
      refine ⟨(x % y).toNat, by omega, y, x - x / y * y, g, f - x / y * g, _, rfl, rfl, y0, ym, by omega, by omega, by congr 1; omega, ?_, inv_step hb (by omega) x0 rfl, .inr (by omega), ⟨v, hv⟩, ⟨u - x / y * v, by grind⟩⟩
      rw [show x - x / y * y = x % y by omega, gcd_mod]
      exact hxy
    · have yz : y = 0 := by
        have : ¬ 0 < y := of_decide_eq_false (Bool.eq_false_iff.mpr e)
        omega
      subst yz
      have x1 : x = 1 := by
        rw [Int.gcd_zero_right] at hxy
        omega
      subst x1
      refine ⟨.int f, rfl, .inl ⟨f, rfl, .int m, rfl, f, m, rfl, rfl, m0, k (f % m) (Int.emod_nonneg _ (by omega)) (Int.emod_lt_of_pos _ m0) ?_ _ sm⟩⟩
      rw [Int.mul_emod, Int.emod_emod, ← Int.mul_emod, Int.mul_comm n f, hu, Int.add_mul_emod_self_left]
theorem k_lcommon (T : Tx K mg) : Cal P w K mg base 2 (He.ga K "_law_common") T.fd_lcommon P_lcommon (spLCommon K) := by
  have c_lgcd := k_lgcd (P := P) (w := w) (base := base) T
  have c_linverse := k_linverse (P := P) (w := w) (base := base) T
  refine ⟨T.fn_lcommon.ok sc_lcommon (fun vs H Q E h => ?_) (fun cdv A outer s H vs Q E hr h => ?_), T.fn_lcommon.kp, FunD.bindsN T.fn_lcommon fun _ _ _ _ _ _ us hl => match us, hl with | [_, _], _ => rfl⟩
  · obtain ⟨a, b, q1, q2, rfl, _⟩ := h
    rfl
  · obtain ⟨a, b, q1, q2, rfl, ha, hb, ok1, ok2, kn, ks⟩ := h
    refine ⟨_, PSs.nox (pss_cons (ps_par (by rfl) sc_lcommon.nd (i := 2) (j := 3) rfl rfl (by decide) rfl rfl (pa_cons (pe_op op_sub (pe_ix ix_tup (pv 1) pe_int (fun _ _ => rfl)) (pe_ix ix_tup (pv 0) pe_int (fun _ _ => rfl))) (pa_cons (pe_call c_lgcd.F (hr.mono (by decide)) (by rfl) T.g_lgcd c_lgcd.kp c_lgcd.b .nil pass0 (pa_cons (pe_ix ix_tup (pv 0) pe_int (fun _ _ => rfl)) (pa_cons (pe_ix ix_tup (pv 1) pe_int (fun _ _ => rfl)) pa_nil))) pa_nil)) (by rfl))
      (pss_cons (ps_if (pt_cmpR op_ne (pe_op op_modN (pe_callTy call_int1 (by rfl) T.b_int PyProof.Rows.boot_int (pa_cons (pv 2) pa_nil)) (pv 3)) pe_int (nomark _)) (pss_one (ps_ret pe_non)) pss_nil)
      (pss_cons (ps_set (i := 4) sc_lcommon.nd rfl (Or.inl rfl) (pe_op op_fdivS (pe_callB call_abs (by rfl) T.b_abs (by decide +kernel) (pa_cons (pe_ix ix_tup (pv 1) pe_int (fun _ _ => rfl)) pa_nil)) (pv 3)))
      (pss_cons (ps_set (i := 5) sc_lcommon.nd rfl (Or.inl rfl) (pe_op op_modN (pe_callTy call_int1 (by rfl) T.b_int PyProof.Rows.boot_int (pa_cons (pe_op op_mulB (pe_op op_fdivS (pv 2) (pv 3)) (pe_call c_linverse.F (hr.mono (by decide)) (by rfl) T.g_linverse c_linverse.kp c_linverse.b .nil pass0 (pa_cons (pe_op op_fdivS (pe_ix ix_tup (pv 0) pe_int (fun _ _ => rfl)) (pv 3)) (pa_cons (pv 4) pa_nil)))) pa_nil)) (pv 4)))
      (pss_cons (ps_set (i := 6) sc_lcommon.nd rfl (Or.inl rfl) (pe_op op_fdivS (pe_op op_sub (pe_op op_add (pe_ix ix_tup (pv 0) pe_int (fun _ _ => rfl)) (pe_op op_mulB (pv 5) (pe_ix ix_tup (pv 0) pe_int (fun _ _ => rfl)))) (pe_ix ix_tup (pv 1) pe_int (fun _ _ => rfl))) (pe_ix ix_tup (pv 1) pe_int (fun _ _ => rfl))))
      (pss_one (ps_ret (pe_tup (pa_cons (pv 5) (pa_cons (pv 4) (pa_cons (pv 6) (pa_cons (pe_op op_mulB (pe_op op_fdivS (pe_ix ix_tup (pv 0) pe_int (fun _ _ => rfl)) (pv 3)) (pe_op op_fdivS (pe_callB call_abs (by rfl) T.b_abs (by decide +kernel) (pa_cons (pe_ix ix_tup (pv 1) pe_int (fun _ _ => rfl)) pa_nil)) (pe_ix ix_tup (pv 1) pe_int (fun _ _ => rfl)))) pa_nil)))))))))))), ?_⟩
    obtain ⟨n1, dd1, p1, s⟩ := q1
    obtain ⟨n2, dd2, p2, t⟩ := q2
    obtain ⟨_, _, _, p10, p11, s0, s1, sn⟩ := ok1
    obtain ⟨_, _, _, p20, p21, t0, t1, tn⟩ := ok2
    dsimp only at p10 p11 s0 s1 sn p20 p21 t0 t1 tn kn
    have ⟨g0, g1⟩ := gcd_le9 (s := s) tn t0 t1
    have tb := Int.gcd_le_natAbs_right s tn
    refine ⟨.ref b, rfl, b, _, 2, .int p2, rfl, rfl, hb, atI_nat (j := 2) rfl, .ref a, rfl, a, _, 2, .int p1, rfl, rfl, ha, atI_nat (j := 2) rfl, p2, p1, rfl, rfl, ?_⟩
    refine ⟨.ref a, rfl, a, _, 3, .int s, rfl, rfl, ha, atI_nat (j := 3) rfl, .ref b, rfl, b, _, 3, .int t, rfl, rfl, hb, atI_nat (j := 3) rfl, s, t, rfl, _, _, rfl, ?_⟩
    refine ⟨_, rfl, .inl ⟨_, rfl, _, rfl, _, _, rfl, rfl, (show (Int.gcd s t : Int) ≠ 0 by omega), rfl, _, rfl, ite2 (fun e => ?_) (fun e => ?_)⟩⟩
    · have hr : (p2 - p1).fmod (Int.gcd s t) ≠ 0 := fun z => by
        have e1 : (!decide (V.int ((p2 - p1).fmod (Int.gcd s t)) = V.int 0)) = true := e
        rw [z] at e1
        cases e1
      refine kn H (Same.refl H) fun k j e => hr ?_
      obtain ⟨x, hx⟩ := Int.gcd_dvd_left s t
      obtain ⟨y, hy⟩ := Int.gcd_dvd_right s t
      have : p2 - p1 = (Int.gcd s t : Int) * (k * x - j * y) := by grind
      rw [this]
      exact Int.mul_fmod_right _ _
    · have hr : (p2 - p1).fmod (Int.gcd s t) = 0 := Classical.byContradiction fun z => e (by
        show (!decide (V.int ((p2 - p1).fmod (Int.gcd s t)) = V.int 0)) = true
        simp [z])
      have estep : (if t < 0 then -t else t).fdiv (Int.gcd s t) = (t.natAbs : Int) / (Int.gcd s t : Int) := by rw [ifabs, Int.fdiv_eq_ediv_of_nonneg _ (by omega)]
      have es : s.fdiv (Int.gcd s t) = s / (Int.gcd s t : Int) := Int.fdiv_eq_ediv_of_nonneg _ (by omega)
      have gb := fdiv_le (g := (Int.gcd s t : Int)) (B := 10 ^ 31) (by omega) (show -(10 ^ 31) ≤ p2 - p1 by omega) (show p2 - p1 ≤ 10 ^ 31 by omega)
      have sb : 0 < (t.natAbs : Int) / (Int.gcd s t : Int) ∧ (t.natAbs : Int) / (Int.gcd s t : Int) ≤ 10 ^ 18 := by
        have h1 : 0 < (t.natAbs : Int) / (Int.gcd s t : Int) := Int.ediv_pos_of_pos_of_dvd (by omega) (by omega) (Int.dvd_natAbs.mpr (Int.gcd_dvd_right s t))
        have h2 := Int.ediv_le_self (Int.gcd s t : Int) (show 0 ≤ (t.natAbs : Int) by omega)
        exact ⟨h1, by omega⟩
      have sg := div_le (a := s) (B := 10 ^ 18) g0 s0 s1
      -- period
      refine ⟨.ref b, rfl, b, _, 3, .int t, rfl, rfl, hb, atI_nat (j := 3) rfl, t, rfl, _, rfl, _, _, rfl, rfl, ⟨by omega, by unfold Big; omega, by unfold Big; omega⟩, ?_⟩
      dsimp only
      rw [estep]
      -- k
      refine ⟨_, rfl, _, rfl, _, _, rfl, rfl, ⟨by omega, by unfold Big; omega, by unfold Big; omega⟩, .ref a, rfl, a, _, 3, .int s, rfl, rfl, ha, atI_nat (j := 3) rfl, _, rfl, _, _, rfl, rfl, ⟨by omega, by unfold Big; omega, by unfold Big; omega⟩, _, rfl, ?_⟩
      dsimp only
      rw [es]
      refine ⟨_, _, rfl, sb.1, by omega, gcd_abs tn, fun inv i0 i1 hinv H1 sm1 => ?_⟩
      have ha1 := Same.tup sm1 ha
      have hb1 := Same.tup sm1 hb
      refine ⟨_, _, rfl, rfl, by walk_at "sc", .inl ⟨_, rfl, _, rfl, _, _, rfl, rfl, (show (t.natAbs : Int) / (Int.gcd s t : Int) ≠ 0 by omega), ?_⟩⟩
      dsimp only
      rw [show ((p2 - p1).fdiv (Int.gcd s t) * inv).fmod ((t.natAbs : Int) / (Int.gcd s t : Int)) = ((p2 - p1).fdiv (Int.gcd s t) * inv) % ((t.natAbs : Int) / (Int.gcd s t : Int)) from Int.fmod_eq_emod_of_nonneg _ (by omega)]
      have c0 := Int.emod_nonneg ((p2 - p1).fdiv (Int.gcd s t) * inv) (show (t.natAbs : Int) / (Int.gcd s t : Int) ≠ 0 by omega)
      have c1 := Int.emod_lt_of_pos ((p2 - p1).fdiv (Int.gcd s t) * inv) sb.1
      generalize hsa : ((p2 - p1).fdiv (Int.gcd s t) * inv) % ((t.natAbs : Int) / (Int.gcd s t : Int)) = sa at c0 c1 ⊢
      have ms : -(10 ^ 36) ≤ sa * s ∧ sa * s ≤ 10 ^ 36 := by
        have a1 : sa * s ≤ sa * 10 ^ 18 := Int.mul_le_mul_of_nonneg_left s1 c0
        have a2 : sa * (-(10 ^ 18)) ≤ sa * s := Int.mul_le_mul_of_nonneg_left s0 c0
        omega
      -- j
      refine ⟨.ref a, rfl, a, _, 2, .int p1, rfl, rfl, ha1, atI_nat (j := 2) rfl, .int sa, rfl, .ref a, rfl, a, _, 3, .int s, rfl, rfl, ha1, atI_nat (j := 3) rfl, sa, s, rfl, rfl, by walk_at "sc", p1, _, rfl, rfl, .ref b, rfl, b, _, 2, .int p2, rfl, rfl, hb1, atI_nat (j := 2) rfl, _, p2, rfl, rfl, .ref b, rfl, b, _, 3, .int t, rfl, rfl, hb1, atI_nat (j := 3) rfl, _, t, rfl, rfl, ⟨tn, by unfold Big; omega, by unfold Big; omega⟩, ?_⟩
      have ob := fdiv_le (B := 10 ^ 40) tn (show -(10 ^ 40) ≤ p1 + sa * s - p2 by omega) (show p1 + sa * s - p2 ≤ 10 ^ 40 by omega)
      -- the tuple
      refine ⟨.int sa, rfl, _, rfl, _, rfl, .ref a, rfl, a, _, 3, .int s, rfl, rfl, ha1, atI_nat (j := 3) rfl, _, rfl, s, _, rfl, rfl, ⟨by omega, by unfold Big; omega, by unfold Big; omega⟩, .ref b, rfl, b, _, 3, .int t, rfl, rfl, hb1, atI_nat (j := 3) rfl, t, rfl, .ref b, rfl, b, _, 3, .int t, rfl, rfl, hb1, atI_nat (j := 3) rfl, _, t, rfl, rfl, ⟨tn, by unfold Big; omega, by unfold Big; omega⟩, ?_⟩
      dsimp only
      rw [ifabs, sgn_div tn, es]
      have sgb : (if 0 < t then (1 : Int) else -1) = 1 ∨ (if 0 < t then (1 : Int) else -1) = -1 := by split <;> simp
      refine ⟨_, _, rfl, rfl, ⟨by unfold Big; omega, by unfold Big; omega, by rcases sgb with h | h <;> rw [h] <;> unfold Big <;> omega, by rcases sgb with h | h <;> rw [h] <;> unfold Big <;> omega⟩, sz_of (show 4 ≤ 1000 by decide), fun u nu => ?_⟩
      have eo : s / (Int.gcd s t : Int) * (if 0 < t then (1 : Int) else -1) = if 0 < t then s / (Int.gcd s t : Int) else -(s / (Int.gcd s t : Int)) := by
        split
        · rw [Int.mul_one]
        · rw [Int.mul_neg, Int.mul_one]
      have C := cross_mk (p1 := p1) (p2 := p2) sn tn rfl rfl rfl rfl rfl hinv hsa.symm rfl
      rw [hr] at C
      refine ks u _ _ sa _ _ (sm1.trans (Same.new nu)) (sm1.free nu) upd_same ⟨?_, sb.2, ?_, ?_, ob.1, ob.2⟩
      · rw [eo]
        exact C
      · rw [eo]
        split <;> omega
      · rw [eo]
        split <;> omega
end
end KP

namespace KP
open PySem PySem.Spec PyProof.Rows L2
local macro_rules | `(tactic| walk_at "sc") => `(tactic| first | (show (0 : Int) < _; decide) | (show (0 : Int) < _; omega) | (refine ⟨?_, ?_, ?_, ?_⟩ <;> (first | omega | (unfold Big; omega))) | (refine ⟨?_, ?_, ?_⟩ <;> (first | omega | (unfold Big; omega))) | (refine ⟨?_, ?_⟩ <;> (first | omega | (unfold Big; omega))))
/-! ### the law's own numbers of posts -/
def spStepsTo (K : PySem.W.Frag) : Sp := fun vs H Q _ => ∃ (a : Addr) (x : Int) (q : Ptr), vs = [.ref a, .int x] ∧ SqT K H a (tupP q) ∧ q.Ok ∧ Q (if hasS q.post q.stride x = true then .int ((x - q.post).fdiv q.stride) else .non) H
section
variable {P : Program} {w : World} {K : PySem.W.Frag} {mg : Str → Option Value} {base : Heap}
theorem k_steps_to (T : Tx K mg) : Cal P w K mg base 1 (He.ga K "_law_steps_to") T.fd_steps_to P_steps_to (spStepsTo K) := by
  refine ⟨T.fn_steps_to.ok sc_steps_to (fun vs H Q E h => ?_) (fun cdv A outer s H vs Q E hr h => ?_), T.fn_steps_to.kp, FunD.bindsN T.fn_steps_to fun _ _ _ _ _ _ us hl => match us, hl with | [_, _], _ => rfl⟩
  · obtain ⟨a, x, q, rfl, _⟩ := h
    rfl
  · obtain ⟨a, x, q, rfl, ha, ok, k⟩ := h
    refine ⟨_, PSs.nox (pss_cons (ps_set (i := 2) sc_steps_to.nd rfl (Or.inl rfl) (pe_op op_fdivS (pe_op op_sub (pv 1) (pe_ix ix_tup (pv 0) pe_int (fun _ _ => rfl))) (pe_ix ix_tup (pv 0) pe_int (fun _ _ => rfl))))
      (pss_one (ps_ret (pe_ifExp (PW.pt (pw_and (pt_cmpR op_eq (pe_op op_modN (pe_callTy call_int1 (by rfl) T.b_int PyProof.Rows.boot_int (pa_cons (pe_op op_sub (pv 1) (pe_ix ix_tup (pv 0) pe_int (fun _ _ => rfl))) pa_nil)) (pe_ix ix_tup (pv 0) pe_int (fun _ _ => rfl))) pe_int (nomark _)) (pw_and1 (pt_cmpR op_ge (pv 2) pe_int (nomark _))))) (pv 2) pe_non)))), ?_⟩
    have s0 := ok.s0
    have s1 := ok.s1
    refine ⟨.int x, rfl, .ref a, rfl, a, _, 2, .int q.post, rfl, rfl, ha, atI_nat (j := 2) rfl, x, _, rfl, rfl, .ref a, rfl, a, _, 3, .int q.stride, rfl, rfl, ha, atI_nat (j := 3) rfl, _, _, rfl, rfl, ⟨ok.sn, by unfold Big; omega, by unfold Big; omega⟩, ?_⟩
    refine ⟨.int x, rfl, .ref a, rfl, a, _, 2, .int q.post, rfl, rfl, ha, atI_nat (j := 2) rfl, x, _, rfl, rfl, .inl ⟨_, rfl, .ref a, rfl, a, _, 3, .int q.stride, rfl, rfl, ha, atI_nat (j := 3) rfl, _, _, rfl, rfl, ok.sn, rfl, _, rfl, ite2 (fun e => ?_) (fun e => ?_)⟩⟩
    · have e1 : (x - q.post).fmod q.stride = 0 := V.int.inj (of_decide_eq_true e)
      refine ⟨_, rfl, _, 0, rfl, rfl, _, rfl, ite2 (fun e => ?_) (fun e => ?_)⟩
      · have e2 : 0 ≤ (x - q.post).fdiv q.stride := of_decide_eq_true e
        rw [if_pos (by unfold hasS; rw [decide_eq_true e1, decide_eq_true e2]; rfl)] at k
        exact ⟨_, rfl, k⟩
      · have e2 : ¬ 0 ≤ (x - q.post).fdiv q.stride := of_decide_eq_false (Bool.eq_false_iff.mpr e)
        rw [if_neg (by unfold hasS; rw [decide_eq_true e1, decide_eq_false e2]; simp)] at k
        exact k
    · have e1 : ¬ (x - q.post).fmod q.stride = 0 := fun z => e (decide_eq_true (congrArg V.int z))
      rw [if_neg (by unfold hasS; rw [decide_eq_false e1]; simp)] at k
      exact k
end
end KP

namespace KP
open PySem PySem.Spec PyProof.Rows L2
local macro_rules | `(tactic| walk_at "sc") => `(tactic| first | (show (0 : Int) < _; decide) | (show (0 : Int) < _; omega) | (refine ⟨?_, ?_, ?_, ?_⟩ <;> (first | omega | (unfold Big; omega))) | (refine ⟨?_, ?_, ?_⟩ <;> (first | omega | (unfold Big; omega))) | (refine ⟨?_, ?_⟩ <;> (first | omega | (unfold Big; omega))))
/-! ### the first block -/
def spNeedCount : Sp := fun vs H Q _ => ∃ v lim : Int, vs = [.int v, .int lim] ∧ 0 ≤ v ∧ v ≤ lim ∧ Q .non H
/-- a limit: none, or a number as counts are -/
def LimOk (lim : Option Int) : Prop := ∀ l, lim = some l → 0 ≤ l ∧ l ≤ 10 ^ 80
def spCFirst (K : PySem.W.Frag) : Sp := fun vs H Q _ => ∃ (x : Addr) (lim : Option Int) (ear : Bool) (q1 q2 : Ptr) (e : Bool) (st os sa oa : Int), vs = [.ref x, optV lim, .bl ear] ∧ CObj K H x q1 q2 e st os sa oa ∧ q1.Ok ∧ q2.Ok ∧ (∀ l, lim = some l → -(10 ^ 79) ≤ l ∧ l ≤ 10 ^ 79) ∧
  ∀ (r : Option Int) (H' : Hp), Same H H' → FB q1.day q1.post q1.stride q2.day q2.post q2.stride lim ear r → (∀ k, r = some k → -Big < k ∧ k < Big) → Q (optV r) H'
def spFirst (K : PySem.W.Frag) : Sp := fun vs H Q _ => ∃ (x y : Addr) (lim : Option Int) (ear : Bool) (q1 q2 : Ptr), vs = [.ref x, .ref y, optV lim, .bl ear] ∧ PObj K H x q1 ∧ PObj K H y q2 ∧ q1.Ok ∧ q2.Ok ∧ (∀ l, lim = some l → 0 ≤ l ∧ l ≤ 10 ^ 79) ∧
  ∀ (r : Option Int) (H' : Hp), Same H H' → FB q1.day q1.post q1.stride q2.day q2.post q2.stride lim ear r → (∀ k, r = some k → -Big < k ∧ k < Big) → Q (optV r) H'
section
variable {P : Program} {w : World} {K : PySem.W.Frag} {mg : Str → Option Value} {base : Heap}
theorem k_need_count (T : Tx K mg) : FnOk P w K mg base CX0 3 (He.ga K "need_count") T.fd_need_count P_need_count spNeedCount := by
  have c_is_between := k_is_between (P := P) (w := w) (base := base) T
  refine T.fn_need_count.ok sc_need_count (fun vs H Q E h => ?_) (fun cdv A outer s H vs Q E hr h => ?_)
  · obtain ⟨v, lim, rfl, _⟩ := h
    rfl
  · obtain ⟨v, lim, rfl, v0, v1, k⟩ := h
    refine ⟨_, PSs.nox (pss_one (ps_if (pt_not (pt_val (pe_call c_is_between.F (hr.mono (by decide)) (by rfl) T.g_is_between c_is_between.kp c_is_between.b .nil pass0 (pa_cons (pv 0) (pa_cons pe_int (pa_cons (pv 1) pa_nil)))))) (pss_one ps_never) pss_nil)), ?_⟩
    refine ⟨.int v, rfl, .int lim, rfl, v, 0, lim, rfl, _, rfl, ?_⟩
    rw [decide_eq_true v0, decide_eq_true v1]
    exact k
theorem k_CFirst (T : Tx K mg) : Cal P w K mg base 3 (He.ma K (He.ga K "Crossing") "first_block") T.fd_Crossing_first_block P_Crossing_first_block (spCFirst K) := by
  have c_Crossing_number := k_number (P := P) (w := w) (base := base) T
  obtain ⟨ds, vd, bd⟩ := FunD.binds1 (ps := P_Crossing_bounds) T.fn_Crossing_bounds 2 1 (fun z => nomatch z) rfl fun _ _ _ _ _ _ _ us its h1 h2 => match us, its, h1, h2 with | [_, _], [_], _, _ => ⟨_, rfl, rfl⟩
  obtain rfl : ds = [] := by
    cases vd
    rfl
  have c_Crossing_bounds : Cal P w K mg base 2 _ T.fd_Crossing_bounds P_Crossing_bounds (spBounds K) := ⟨k_bounds T, T.fn_Crossing_bounds.kp, bd⟩
  refine ⟨T.fn_Crossing_first_block.ok sc_Crossing_first_block (fun vs H Q E h => ?_) (fun cdv A outer s H vs Q E hr h => ?_), T.fn_Crossing_first_block.kp, FunD.bindsN T.fn_Crossing_first_block fun _ _ _ _ _ _ us hl => match us, hl with | [_, _, _], _ => rfl⟩
  · obtain ⟨x, lim, ear, q1, q2, e, st, os, sa, oa, rfl, _⟩ := h
    rfl
  · obtain ⟨x, lim, ear, q1, q2, e, st, os, sa, oa, rfl, hC, o1, o2, hlim, k⟩ := h
    refine ⟨_, PSs.nox (pss_cons (ps_set (i := 3) sc_Crossing_first_block.nd rfl (Or.inl rfl) (pe_op op_sub (pe_op op_sub (pe_op op_sub (pe_op op_add (pe_ix ix_tup (pe_fld (pv 0) rfl) pe_int (fun _ _ => rfl)) (pe_fld (pv 0) rfl)) (pe_ix ix_tup (pe_fld (pv 0) rfl) pe_int (fun _ _ => rfl))) (pe_fld (pv 0) rfl)) (pe_callTy call_int1 (by rfl) T.b_int PyProof.Rows.boot_int (pa_cons (pe_not (pv 2)) pa_nil))))
      (pss_cons (ps_set (i := 4) sc_Crossing_first_block.nd rfl (Or.inl rfl) (pe_lst (pa_cons (pe_tup (pa_cons (pv 3) (pa_cons (pe_op op_sub (pe_fld (pv 0) rfl) (pe_fld (pv 0) rfl)) pa_nil))) pa_nil)))
      (Evl.pss_cut (ps_if (pt_cmpR op_notN (pv 1) pe_non (nomark _)) (pss_one (ps_expr (pe_bm PySem.F.plainAttrs_list PySem.F.slot_list_append PySem.F.type_list_append mt_append (pv 4) (pa_cons (pe_tup (pa_cons (pe_op op_sub (pe_op op_sub (pv 1) pe_int) (pe_fld (pv 0) rfl)) (pa_cons (pe_un un_neg (pe_fld (pv 0) rfl)) pa_nil))) pa_nil)))) pss_nil)
      (pss_cons (ps_asg (pe_meth (pv 0) T.c_Crossing T.m_Crossing_bounds c_Crossing_bounds.F (hr.mono (by decide)) c_Crossing_bounds.b .nil pass0 (pa_cons (pv 4) pa_nil)) (pg_tup rfl (pgs_cons (pg_name (i := 5) sc_Crossing_first_block.nd rfl (Or.inl rfl)) (pgs_cons (pg_name (i := 6) sc_Crossing_first_block.nd rfl (Or.inl rfl)) pgs_nil))))
      (pss_one (ps_ret (pe_ifExp (PW.pt (pw_or (pt_cmpR op_isN (pv 6) pe_non (nomark _)) (pw_or1 (pt_cmpR op_le (pv 5) (pv 6) (nomark _))))) (pe_meth (pv 0) T.c_Crossing T.m_Crossing_number c_Crossing_number.F (hr.mono (by decide)) c_Crossing_number.b .nil pass0 (pa_cons (pv 5) pa_nil)) pe_non))))))), ?_⟩
    have hC' := hC
    obtain ⟨dx, a, b, hx, ha, hb, C⟩ := hC'
    have b1 := C.b1
    have b2 := C.b2
    have b3 := C.b3
    have b4 := C.b4
    have b5 := C.b5
    have c2 := C.c.pos
    have c3 := C.c.st0
    have c4 := C.c.st1
    have d1 := o1.d0
    have d2 := o1.d1
    have d3 := o2.d0
    have d4 := o2.d1
    -- late
    refine ⟨.ref x, rfl, x, _, dx, _, .ref a, rfl, hx, T.c_Crossing, T.n_Crossing_one, rfl, a, _, 0, .int q1.day, rfl, rfl, ha, atI_nat (j := 0) rfl, .ref x, rfl, x, _, dx, _, .int sa, rfl, hx, T.c_Crossing, T.n_Crossing_start, rfl, _, _, rfl, rfl, .ref x, rfl, x, _, dx, _, .ref b, rfl, hx, T.c_Crossing, T.n_Crossing_other, rfl, b, _, 0, .int q2.day, rfl, rfl, hb, atI_nat (j := 0) rfl, _, _, rfl, rfl, .ref x, rfl, x, _, dx, _, .int oa, rfl, hx, T.c_Crossing, T.n_Crossing_other_start, rfl, _, _, rfl, rfl, .bl ear, rfl, ear, rfl, .inr ⟨!ear, rfl, _, _, rfl, rfl, ?_⟩⟩
    have ne : (if (!ear) = true then (1 : Int) else 0) = notE ear := by cases ear <;> rfl
    have nb : 0 ≤ notE ear ∧ notE ear ≤ 1 := by cases ear <;> decide
    dsimp only
    rw [ne]
    -- more
    refine ⟨_, rfl, .ref x, rfl, x, _, dx, _, .int st, rfl, hx, T.c_Crossing, T.n_Crossing_step, rfl, .ref x, rfl, x, _, dx, _, .int os, rfl, hx, T.c_Crossing, T.n_Crossing_other_step, rfl, _, _, rfl, rfl, sz_of (show 2 ≤ 1000 by decide), fun u nu => ?_⟩
    have s1 : Same H (upd H u (.tup [.int (q1.day + sa - q2.day - oa - notE ear), .int (st - os)])) := Same.new nu
    have hu : (upd H u (.tup [.int (q1.day + sa - q2.day - oa - notE ear), .int (st - os)])) u = some (.tup [.int (q1.day + sa - q2.day - oa - notE ear), .int (st - os)]) := upd_same
    generalize upd H u (.tup [.int (q1.day + sa - q2.day - oa - notE ear), .int (st - os)]) = H1 at s1 hu ⊢
    refine ⟨sz_of (show 1 ≤ 1000 by decide), fun l nl => ?_⟩
    have s2 : Same H1 (upd H1 l (.lst [.ref u])) := Same.new nl
    have hl : (upd H1 l (.lst [.ref u])) l = some (.lst [.ref u]) := upd_same
    generalize upd H1 l (.lst [.ref u]) = H2 at s2 hl ⊢
    have s02 := s1.trans s2
    have hu2 := s2 _ _ hu
    have nlH : H l = none := s1.free nl
    -- if count is not None
    refine ⟨fun σ' H' => ∃ (y5 y6 : Option V) (vs : List V) (ps : List (Int × Int)), σ' = [some (.ref x), some (optV lim), some (.bl ear), some (.int (q1.day + sa - q2.day - oa - notE ear)), some (.ref l), y5, y6] ∧ Same H H' ∧ H' l = some (.lst vs) ∧ vs.length ≤ 2 ∧ CList K H' vs ps ∧ (oa, os) :: ps = blkPs q1.day q2.day st os sa oa lim ear, ?_, ?_⟩
    · refine ⟨optV lim, rfl, rfl, _, rfl, ?_⟩
      cases lim with
      | none => exact ⟨none, none, [.ref u], _, rfl, s02, hl, (show 1 ≤ 2 by decide), .cons ⟨u, rfl, SqT.of hu2⟩ .nil, rfl⟩
      | some c =>
        have hx2 := s02 _ _ hx
        refine ⟨.ref l, rfl, .inl ⟨rfl, _, .inl (.inl hl)⟩, .int c, rfl, c, 1, rfl, rfl, .ref x, rfl, x, _, dx, _, .int oa, rfl, hx2, T.c_Crossing, T.n_Crossing_other_start, rfl, _, _, rfl, rfl, .ref x, rfl, x, _, dx, _, .int os, rfl, hx2, T.c_Crossing, T.n_Crossing_other_step, rfl, os, rfl, sz_of (show 2 ≤ 1000 by decide), fun u2 nu2 => ?_⟩
        have s3 : Same H2 (upd H2 u2 (.tup [.int (c - 1 - oa), .int (-os)])) := Same.new nu2
        have hu3 : (upd H2 u2 (.tup [.int (c - 1 - oa), .int (-os)])) u2 = some (.tup [.int (c - 1 - oa), .int (-os)]) := upd_same
        have hl3 := s3 _ _ hl
        refine ⟨l, _, _, rfl, rfl, hl3, (show 1 < sizeLine by rw [sizeLine_eq]; decide), ?_⟩
        have tu : (upd (upd H2 u2 (.tup [.int (c - 1 - oa), .int (-os)])) l (.lst ([.ref u] ++ [.ref u2]))) u = some (.tup [.int (q1.day + sa - q2.day - oa - notE ear), .int (st - os)]) := by
          rw [upd_ne (ne_of (s3 _ _ hu2) hl3 fun z => nomatch z)]
          exact s3 _ _ hu2
        have tu2 : (upd (upd H2 u2 (.tup [.int (c - 1 - oa), .int (-os)])) l (.lst ([.ref u] ++ [.ref u2]))) u2 = some (.tup [.int (c - 1 - oa), .int (-os)]) := by
          rw [upd_ne (ne_of hu3 hl3 fun z => nomatch z)]
          exact hu3
        exact ⟨none, none, [.ref u, .ref u2], _, rfl, Same.mut (s02.trans s3) nlH, upd_same, (show 2 ≤ 2 by decide), .cons ⟨u, rfl, SqT.of tu⟩ (.cons ⟨u2, rfl, SqT.of tu2⟩ .nil), rfl⟩
    · rintro σ' H' ⟨y5, y6, vs, ps, rfl, sH, hlH, hvl, hcl, hps⟩
      have hCH := hC.same sH
      have hxH := sH _ _ hx
      have pb : ∀ z ∈ ps, -(10 ^ 80) ≤ z.1 ∧ z.1 ≤ 10 ^ 80 ∧ -(10 ^ 80) ≤ z.2 ∧ z.2 ≤ 10 ^ 80 := fun z hz => by
        have hz2 : z ∈ blkPs q1.day q2.day st os sa oa lim ear := by
          rw [← hps]
          exact List.mem_cons_of_mem _ hz
        unfold blkPs at hz2 hps
        injection hps with _ hps2
        rw [hps2] at hz
        rcases List.mem_cons.mp hz with rfl | hz
        · dsimp only
          omega
        · cases lim with
          | none => cases hz
          | some c =>
            have := hlim c rfl
            rw [List.mem_singleton.mp hz]
            dsimp only
            omega
      refine ⟨.ref x, rfl, x, dx, _, rfl, hxH, rfl, .ref l, rfl, ?_⟩
      refine ⟨x, l, vs, ps, q1, q2, e, st, os, sa, oa, rfl, hCH, .inr (SqL.of hlH), hcl, by omega, pb, fun t low high H4 s4 nt ht R => ?_⟩
      rw [hps] at R
      refine ⟨t, _, rfl, SqT.of ht, rfl, _, _, rfl, _, _, rfl, rfl, ?_⟩
      have s04 := sH.trans s4
      have hC4 := hC.same s04
      have hx4 := s04 _ _ hx
      have lb : 0 ≤ low ∧ low ≤ 10 ^ 90 := by
        unfold BndR at R
        split at R
        · obtain ⟨rfl, rfl⟩ := R
          exact ⟨by decide, by decide⟩
        · exact ⟨R.l0, R.l1⟩
      have some_ret : (∀ h, high = some h → low ≤ h) → Q (.int (sa + low * st)) H4 := fun hle => by
        have he : e = false := by
          unfold BndR at R
          split at R
          · obtain ⟨rfl, rfl⟩ := R
            exact absurd (hle 0 rfl) (by decide)
          · rename_i he
            exact Bool.eq_false_iff.mpr he
        subst he
        have F : FitR (blkPs q1.day q2.day st os sa oa lim ear) low high := R
        have a1 : low * st ≤ 10 ^ 90 * st := Int.mul_le_mul_of_nonneg_right lb.2 (by omega)
        have a0 : 0 ≤ low * st := Int.mul_nonneg lb.1 (by omega)
        exact k (some _) H4 s04 (fb_of C.c o2.sn F.fit hle) fun j ej => by
          injection ej with ej
          subst ej
          unfold Big
          omega
      refine ⟨optV high, rfl, rfl, _, rfl, ?_⟩
      cases high with
      | none => exact ⟨.ref x, rfl, x, dx, _, rfl, hx4, rfl, .int low, rfl, x, low, q1, q2, e, st, os, sa, oa, rfl, hC4, by omega, by omega, some_ret fun h e => nomatch e⟩
      | some h =>
        refine ⟨.int low, rfl, .int h, rfl, low, h, rfl, rfl, _, rfl, ite2 (fun z => ?_) (fun z => ?_)⟩
        · have le : low ≤ h := of_decide_eq_true z
          exact ⟨.ref x, rfl, x, dx, _, rfl, hx4, rfl, .int low, rfl, x, low, q1, q2, e, st, os, sa, oa, rfl, hC4, by omega, by omega, some_ret fun h' e => by injection e with e; omega⟩
        · have gt : ¬ low ≤ h := of_decide_eq_false (Bool.eq_false_iff.mpr z)
          refine k none H4 s04 (fb_none C.c o2.sn ?_) fun j ej => nomatch ej
          unfold BndR at R
          split at R
          · rename_i he
            exact .inl he
          · refine .inr fun m z => ?_
            have y := (R.fit m).mp z
            have := y.2 h rfl
            omega
theorem k_first_block (T : Tx K mg) : FnOk P w K mg base CX0 4 (He.ga K "first_block") T.fd_first_block P_first_block (spFirst K) := by
  have c_Crossing_init := k_Crossing_init (P := P) (w := w) (base := base) T
  have c_Painter_way := k_way (P := P) (w := w) (base := base) T
  have c_Crossing_first_block := k_CFirst (P := P) (w := w) (base := base) T
  obtain ⟨ds, vd, bd⟩ := FunD.binds1 (ps := P_need_count) T.fn_need_count 1 0 (fun z => nomatch z) rfl fun _ _ _ _ _ _ _ us its h1 h2 => match us, its, h1, h2 with | [_], [_], _, _ => ⟨_, rfl, rfl⟩
  have c_need_count : CalD P w K mg base 3 _ T.fd_need_count P_need_count spNeedCount _ ds := ⟨k_need_count T, T.fn_need_count.kp, bd, vd⟩
  refine T.fn_first_block.ok sc_first_block (fun vs H Q E h => ?_) (fun cdv A outer s H vs Q E hr h => ?_)
  · obtain ⟨x, y, lim, ear, q1, q2, rfl, _⟩ := h
    rfl
  · obtain ⟨x, y, lim, ear, q1, q2, rfl, h1, h2, o1, o2, hlim, k⟩ := h
    refine ⟨_, PSs.nox (Evl.pss_cut (ps_if (pt_cmpR op_notN (pv 2) pe_non (nomark _)) (pss_one (ps_expr (pe_call c_need_count.F (hr.mono (by decide)) (by rfl) T.g_need_count c_need_count.kp c_need_count.bd c_need_count.vd pass0 (pa_cons (pv 2) pa_nil)))) pss_nil)
      (pss_one (ps_ret (pe_meth (pe_make T.k_Crossing c_Crossing_init.F (hr.mono (by decide)) (by rfl) T.g_Crossing c_Crossing_init.b .nil pass0 (pa_cons (pe_prop (pv 0) T.c_Painter T.p_Painter_way (c_Painter_way.F) (hr.mono (by decide)) c_Painter_way.b .nil pass0 rfl) (pa_cons (pe_prop (pv 1) T.c_Painter T.p_Painter_way (c_Painter_way.F) (hr.mono (by decide)) c_Painter_way.b .nil pass0 rfl) pa_nil))) T.c_Crossing T.m_Crossing_first_block c_Crossing_first_block.F (hr.mono (by decide)) c_Crossing_first_block.b .nil pass0 (pa_cons (pv 2) (pa_cons (pv 3) pa_nil)))))), ?_⟩
    refine ⟨fun σ' H' => σ' = [some (.ref x), some (.ref y), some (optV lim), some (.bl ear)] ∧ H' = H, ?_, ?_⟩
    · refine ⟨optV lim, rfl, rfl, _, rfl, ?_⟩
      cases lim with
      | none => exact ⟨rfl, rfl⟩
      | some c =>
        have := hlim c rfl
        exact ⟨.int c, rfl, c, 10 ^ 80, rfl, by omega, by omega, rfl, rfl⟩
    · rintro σ' H' ⟨rfl, rfl⟩
      have h1' := h1
      obtain ⟨dx1, t1, hx1, ht1⟩ := h1'
      refine ⟨.ref x, rfl, x, dx1, _, rfl, hx1, x, q1, rfl, h1, fun a na => ?_⟩
      have s1 : Same H' (upd H' a (.tup (wayV q1))) := Same.new na
      have ha : (upd H' a (.tup (wayV q1))) a = some (.tup (wayV q1)) := upd_same
      generalize upd H' a (.tup (wayV q1)) = H1 at s1 ha ⊢
      have h2' := h2.same s1
      have h2'' := h2'
      obtain ⟨dx2, t2, hx2, ht2⟩ := h2''
      refine ⟨.ref y, rfl, y, dx2, _, rfl, hx2, y, q2, rfl, h2', fun b nb => ?_⟩
      have s2 : Same H1 (upd H1 b (.tup (wayV q2))) := Same.new nb
      have hb : (upd H1 b (.tup (wayV q2))) b = some (.tup (wayV q2)) := upd_same
      generalize upd H1 b (.tup (wayV q2)) = H2 at s2 hb ⊢
      refine fun c dc nc ndc nec => make_crossing nc ndc nec (SqT.of (s2 _ _ ha)) (SqT.of hb) o1 o2 fun H3 e st os sa oa s3 hC => ⟨rfl, ?_⟩
      have s03 : Same H' H3 := (s1.trans s2).trans s3
      have hC' := hC
      obtain ⟨dxc, a3, b3, hc3, _⟩ := hC'
      refine ⟨c, dxc, _, rfl, hc3, rfl, optV lim, rfl, .bl ear, rfl, ?_⟩
      exact ⟨c, lim, ear, q1, q2, e, st, os, sa, oa, rfl, hC, o1, o2, fun l e => by have := hlim l e; omega, fun r H4 s4 F rb => k r H4 (s03.trans s4) F rb⟩
end
end KP

namespace KP
open PySem PySem.Spec PyProof.Rows L2
local macro_rules | `(tactic| walk_at "sc") => `(tactic| first | (show (0 : Int) < _; decide) | (show (0 : Int) < _; omega) | (refine ⟨?_, ?_, ?_, ?_⟩ <;> (first | omega | (unfold Big; omega))) | (refine ⟨?_, ?_, ?_⟩ <;> (first | omega | (unfold Big; omega))) | (refine ⟨?_, ?_⟩ <;> (first | omega | (unfold Big; omega))))
/-! ### the first block from remainders, and the law -/
def spBlockG (K : PySem.W.Frag) : Sp := fun vs H Q _ => ∃ (a b : Addr) (lim : Option Int) (ear : Bool) (q1 q2 : Ptr), vs = [.ref a, .ref b, optV lim, .bl ear] ∧ SqT K H a (tupP q1) ∧ SqT K H b (tupP q2) ∧ q1.Ok ∧ q2.Ok ∧ (∀ l, lim = some l → 0 ≤ l ∧ l ≤ 10 ^ 79) ∧
  ∀ (r : Option Int) (H' : Hp), Same H H' → FB q1.day q1.post q1.stride q2.day q2.post q2.stride lim ear r → Q (optV r) H'
def spIsBlock (K : PySem.W.Frag) : Sp := fun vs H Q _ => ∃ (a b : Addr) (n : Int) (lim : Option Int) (ear : Bool) (q1 q2 : Ptr), vs = [.ref a, .ref b, .int n, optV lim, .bl ear] ∧ SqT K H a (tupP q1) ∧ SqT K H b (tupP q2) ∧ q1.Ok ∧ q2.Ok ∧ -Big < n ∧ n < Big ∧
  ∀ z : Bool, (z = true ↔ Blk q1.day q1.post q1.stride q2.day q2.post q2.stride lim ear n) → Q (.bl z) H
def spLaw (K : PySem.W.Frag) : Sp := fun vs H Q _ => ∃ (a : Addr) (ns : List Int), vs = [.ref a] ∧ SqL K H a (ns.map V.int) ∧ ns.length ≤ 63 ∧ ∀ H', Q (.bl true) H'
/-- the bounds of the law's own look -/
def BList (K : PySem.W.Frag) (H : Hp) : List V → List (Int × Int) → Prop := Paired fun v x => ∃ a, v = .ref a ∧ SqT K H a [.int x.2, .int x.1]
def optD : Option Int → PyData
  | none => .none
  | some i => .int i
theorem dp_opt {K : PySem.W.Frag} {H : Hp} : ∀ r : Option Int, Dp K H (optV r) (optD r)
  | none => .non
  | some i => .int i
theorem shw_opt2 {r : Option Int} (h : ∀ k, r = some k → -Big < k ∧ k < Big) : (optD r).showable = true ∧ (optD r).hasDict = false ∧ (optD r).depth < 50 ∧ (optD r).shown.length ≤ 1000000 := by
  have key : Shw 1000 0 (optD r) := by
    cases r with
    | none => exact shw_none.up (by decide) (by decide)
    | some i => exact shw_int (h i rfl).1 (h i rfl).2
  exact ⟨key.s, key.h, Nat.lt_of_le_of_lt key.d (by decide), Nat.le_trans key.l (by decide)⟩
section
variable {P : Program} {w : World} {K : PySem.W.Frag} {mg : Str → Option Value} {base : Heap}
theorem BList.at {H : Hp} {v : V} : ∀ {vs : List V} {ps : List (Int × Int)} {i : Nat}, BList K H vs ps → vs[i]? = some v → ∃ x a, ps[i]? = some x ∧ v = .ref a ∧ SqT K H a [.int x.2, .int x.1]
  | _, _, _, .nil, h => by simp at h
  | _, _, 0, .cons ⟨a, e, ha⟩ r, h => by
    simp at h
    subst h
    exact ⟨_, a, rfl, e, ha⟩
  | _, _, i + 1, .cons x r, h => by
    obtain ⟨q, a, h1, h2⟩ := BList.at (i := i) r (by simpa using h)
    exact ⟨q, a, by simpa using h1, h2⟩
theorem k_block (T : Tx K mg) : Cal P w K mg base 3 (He.ga K "_law_block") T.fd_block P_block (spBlockG K) := by
  have c_lcommon := k_lcommon (P := P) (w := w) (base := base) T
  refine ⟨T.fn_block.ok sc_block (fun vs H Q E h => ?_) (fun cdv A outer s H vs Q E hr h => ?_), T.fn_block.kp, FunD.bindsN T.fn_block fun _ _ _ _ _ _ us hl => match us, hl with | [_, _, _, _], _ => rfl⟩
  · obtain ⟨a, b, lim, ear, q1, q2, rfl, _⟩ := h
    rfl
  · obtain ⟨a, b, lim, ear, q1, q2, rfl, ha, hb, o1, o2, hlim, k⟩ := h
    refine ⟨_, PSs.nox (pss_cons (ps_set (i := 4) sc_block.nd rfl (Or.inl rfl) (pe_call c_lcommon.F (hr.mono (by decide)) (by rfl) T.g_lcommon c_lcommon.kp c_lcommon.b .nil pass0 (pa_cons (pv 0) (pa_cons (pv 1) pa_nil))))
      (pss_cons (ps_if (pt_cmpR op_isN (pv 4) pe_non (nomark _)) (pss_one (ps_ret pe_non)) pss_nil)
      (pss_cons (ps_asg (pv 4) (pg_tup rfl (pgs_cons (pg_name (i := 5) sc_block.nd rfl (Or.inl rfl)) (pgs_cons (pg_name (i := 6) sc_block.nd rfl (Or.inl rfl)) (pgs_cons (pg_name (i := 7) sc_block.nd rfl (Or.inl rfl)) (pgs_cons (pg_name (i := 8) sc_block.nd rfl (Or.inl rfl)) pgs_nil))))))
      (pss_cons (ps_set (i := 9) sc_block.nd rfl (Or.inl rfl) (pe_lst (pa_cons (pe_tup (pa_cons (pv 8) (pa_cons (pv 7) pa_nil))) (pa_cons (pe_tup (pa_cons (pe_op op_sub (pv 6) (pv 8)) (pa_cons (pe_op op_sub (pe_op op_sub (pe_op op_sub (pe_op op_add (pe_ix ix_tup (pv 0) pe_int (fun _ _ => rfl)) (pv 5)) (pe_ix ix_tup (pv 1) pe_int (fun _ _ => rfl))) (pv 7)) (pe_callTy call_int1 (by rfl) T.b_int PyProof.Rows.boot_int (pa_cons (pe_not (pv 3)) pa_nil))) pa_nil))) pa_nil))))
      (Evl.pss_cut (ps_if (pt_cmpR op_notN (pv 2) pe_non (nomark _)) (pss_one (ps_expr (pe_bm PySem.F.plainAttrs_list PySem.F.slot_list_append PySem.F.type_list_append mt_append (pv 9) (pa_cons (pe_tup (pa_cons (pe_op op_sub pe_int (pv 8)) (pa_cons (pe_op op_sub (pe_op op_sub (pv 2) pe_int) (pv 7)) pa_nil))) pa_nil)))) pss_nil)
      (pss_cons (ps_asg (pe_tup (pa_cons pe_int (pa_cons pe_non pa_nil))) (pg_tup rfl (pgs_cons (pg_name (i := 10) sc_block.nd rfl (Or.inl rfl)) (pgs_cons (pg_name (i := 11) sc_block.nd rfl (Or.inl rfl)) pgs_nil))))
      (pss_cons (ps_for PassesOwn.never rfl (pi_list (pv 9)) (pg_tup rfl (pgs_cons (pg_name (i := 12) sc_block.nd rfl (Or.inl rfl)) (pgs_cons (pg_name (i := 13) sc_block.nd rfl (Or.inl rfl)) pgs_nil)))
      (pss_cons (ps_if (pcutT (PW.pt (pw_and (pt_cmpR op_eq (pv 12) pe_int (nomark _)) (pw_and1 (pt_cmpR op_lt (pv 13) pe_int (nomark _)))))) (pss_one (ps_ret pe_non)) pss_nil)
      (Evl.pss_cut (ps_if (pt_cmpR op_gt (pv 12) pe_int (nomark _)) (pss_one (ps_set (i := 10) sc_block.nd rfl (Or.inl rfl) (pe_callB (call_max2 rfl) (by rfl) T.b_max (by decide +kernel) (pa_cons (pv 10) (pa_cons (pe_op op_sub pe_int (pe_op op_fdivS (pv 13) (pv 12))) pa_nil))))) pss_nil)
      (pss_one (ps_if (pcutT (PW.pt (pw_and (pt_cmpR op_lt (pv 12) pe_int (nomark _)) (pw_and1 (PW.pt (pw_or (pt_cmpR op_isN (pv 11) pe_non (nomark _)) (pw_or1 (pt_cmpR op_lt (pe_op op_fdivS (pv 13) (pe_op op_sub pe_int (pv 12))) (pv 11) (nomark _))))))))) (pss_one (ps_set (i := 11) sc_block.nd rfl (Or.inl rfl) (pe_op op_fdivS (pv 13) (pe_op op_sub pe_int (pv 12))))) pss_nil)))))
      (pss_one (ps_ret (pe_ifExp (PW.pt (pw_or (pt_cmpR op_isN (pv 11) pe_non (nomark _)) (pw_or1 (pt_cmpR op_le (pv 10) (pv 11) (nomark _))))) (pe_op op_add (pv 5) (pe_op op_mulB (pv 10) (pv 6))) pe_non)))))))))), ?_⟩
    have d10 := o1.d0
    have d11 := o1.d1
    have d20 := o2.d0
    have d21 := o2.d1
    refine ⟨.ref a, rfl, .ref b, rfl, a, b, q1, q2, rfl, ha, hb, o1, o2, fun H1 sm non => ?_, fun t st os sa oa H1 sm nt ht C => ?_⟩
    · refine ⟨.non, rfl, rfl, _, rfl, ?_⟩
      exact k none H1 sm fun z ⟨_, j, _, e, _⟩ => non z j e
    · refine ⟨.ref t, rfl, rfl, _, rfl, ?_⟩
      refine ⟨.ref t, rfl, t, _, rfl, SqT.of ht, rfl, _, _, rfl, _, _, rfl, _, _, rfl, _, _, rfl, rfl, ?_⟩
      have ha1 := Same.tup sm ha
      have hb1 := Same.tup sm hb
      have c1 := C.b1
      have c2 := C.b2
      have c3 := C.b3
      have c4 := C.b4
      have c5 := C.b5
      have c6 := C.c.pos
      have c7 := C.c.st0
      have c8 := C.c.st1
      refine ⟨.int os, rfl, .int oa, rfl, sz_of (show 2 ≤ 1000 by decide), fun x1 nx1 => ?_⟩
      have s2 : Same H1 (upd H1 x1 (.tup [.int os, .int oa])) := Same.new nx1
      have g1 : (upd H1 x1 (.tup [.int os, .int oa])) x1 = some (.tup [.int os, .int oa]) := upd_same
      generalize upd H1 x1 (.tup [.int os, .int oa]) = H2 at s2 g1 ⊢
      refine ⟨.int st, rfl, .int os, rfl, st, os, rfl, rfl, .ref a, rfl, a, _, 1, .int q1.day, rfl, rfl, Same.tup s2 ha1, atI_nat (j := 1) rfl, .int sa, rfl, q1.day, sa, rfl, rfl, .ref b, rfl, b, _, 1, .int q2.day, rfl, rfl, Same.tup s2 hb1, atI_nat (j := 1) rfl, _, _, rfl, rfl, .int oa, rfl, _, oa, rfl, rfl, .bl ear, rfl, ear, rfl, .inr ⟨!ear, rfl, ?_⟩⟩
      have en : (if (!ear) = true then (1 : Int) else 0) = notE ear := by cases ear <;> rfl
      rw [en]
      refine ⟨_, _, rfl, rfl, sz_of (show 2 ≤ 1000 by decide), fun x2 nx2 => ?_⟩
      have s3 : Same H2 (upd H2 x2 (.tup [.int (st - os), .int (q1.day + sa - q2.day - oa - notE ear)])) := Same.new nx2
      have g2 : (upd H2 x2 (.tup [.int (st - os), .int (q1.day + sa - q2.day - oa - notE ear)])) x2 = some (.tup [.int (st - os), .int (q1.day + sa - q2.day - oa - notE ear)]) := upd_same
      generalize upd H2 x2 (.tup [.int (st - os), .int (q1.day + sa - q2.day - oa - notE ear)]) = H3 at s3 g2 ⊢
      refine ⟨sz_of (show 2 ≤ 1000 by decide), fun l nl => ?_⟩
      have s13 := s2.trans s3
      have nl1 : H1 l = none := s13.free nl
      have s4 : Same H3 (upd H3 l (.lst [.ref x1, .ref x2])) := Same.new nl
      have g3 : (upd H3 l (.lst [.ref x1, .ref x2])) l = some (.lst [.ref x1, .ref x2]) := upd_same
      generalize upd H3 l (.lst [.ref x1, .ref x2]) = H4 at s4 g3 ⊢
      have s14 := s13.trans s4
      have e4 : notE ear = 0 ∨ notE ear = 1 := by cases ear <;> simp [notE]
      generalize hps : blkPs q1.day q2.day st os sa oa lim ear = ps
      -- the third bound
      refine ⟨fun σ' H' => ∃ (xs : List V) (y10 y11 y12 y13 : Option V), σ' = [some (.ref a), some (.ref b), some (optV lim), some (.bl ear), some (.ref t), some (.int sa), some (.int st), some (.int oa), some (.int os), some (.ref l), y10, y11, y12, y13] ∧ Same H1 H' ∧ H' l = some (.lst xs) ∧ BList K H' xs ps, ?_, ?_⟩
      · refine ⟨optV lim, rfl, rfl, _, rfl, ?_⟩
        cases lim with
        | none =>
          refine ⟨_, none, none, none, none, rfl, s14, g3, ?_⟩
          rw [← hps]
          exact .cons ⟨x1, rfl, SqT.of (s4 _ _ (s3 _ _ g1))⟩ (.cons ⟨x2, rfl, SqT.of (s4 _ _ g2)⟩ .nil)
        | some c =>
          refine ⟨.ref l, rfl, .inl ⟨rfl, _, .inl (.inl g3)⟩, .int os, rfl, 0, os, rfl, rfl, .int c, rfl, c, 1, rfl, rfl, .int oa, rfl, _, oa, rfl, rfl, sz_of (show 2 ≤ 1000 by decide), fun x3 nx3 => ?_⟩
          have s5 : Same H4 (upd H4 x3 (.tup [.int (0 - os), .int (c - 1 - oa)])) := Same.new nx3
          have g4 : (upd H4 x3 (.tup [.int (0 - os), .int (c - 1 - oa)])) x3 = some (.tup [.int (0 - os), .int (c - 1 - oa)]) := upd_same
          generalize upd H4 x3 (.tup [.int (0 - os), .int (c - 1 - oa)]) = H5 at s5 g4 ⊢
          have hl5 := s5 _ _ g3
          refine ⟨l, [.ref x1, .ref x2], .ref x3, rfl, rfl, hl5, Nat.lt_of_le_of_lt (show 2 ≤ 2 by decide) (by rw [sizeLine_eq]; decide), ?_⟩
          have n1 : x1 ≠ l := fun z => by
            have := s5 _ _ (s4 _ _ (s3 _ _ g1))
            rw [z, hl5] at this
            cases this
          have n2 : x2 ≠ l := fun z => by
            have := s5 _ _ (s4 _ _ g2)
            rw [z, hl5] at this
            cases this
          have n3 : x3 ≠ l := fun z => by
            rw [z, hl5] at g4
            cases g4
          refine ⟨_, none, none, none, none, rfl, Same.mut (s14.trans s5) nl1, upd_same, ?_⟩
          rw [← hps]
          refine .cons ⟨x1, rfl, SqT.of ?_⟩ (.cons ⟨x2, rfl, SqT.of ?_⟩ (.cons ⟨x3, rfl, SqT.of ?_⟩ .nil))
          · rw [upd_ne n1]
            exact s5 _ _ (s4 _ _ (s3 _ _ g1))
          · rw [upd_ne n2]
            exact s5 _ _ (s4 _ _ g2)
          · rw [upd_ne n3, g4, Int.zero_sub]
      rintro σ' H' ⟨xs, y10, y11, y12, y13, rfl, s1', hl, hB⟩
      have pb : ∀ x ∈ ps, -(10 ^ 80) ≤ x.1 ∧ x.1 ≤ 10 ^ 80 ∧ -(10 ^ 80) ≤ x.2 ∧ x.2 ≤ 10 ^ 80 := by
        intro x hx
        rw [← hps] at hx
        unfold blkPs at hx
        rcases List.mem_cons.mp hx with rfl | hx
        · dsimp only
          omega
        rcases List.mem_cons.mp hx with rfl | hx
        · dsimp only
          omega
        cases lim with
        | none => cases hx
        | some c =>
          have hx2 := List.mem_singleton.mp hx
          subst hx2
          have := hlim c rfl
          dsimp only
          omega
      refine ⟨sz_of (show 2 ≤ 1000 by decide), fun t0 nt0 => ?_⟩
      refine ⟨t0, _, rfl, SqT.of upd_same, rfl, _, _, rfl, _, _, rfl, rfl, ?_⟩
      have s6 : Same H' (upd H' t0 (.tup [.int 0, .non])) := Same.new nt0
      generalize upd H' t0 (.tup [.int 0, .non]) = H6 at s6 ⊢
      have hl6 := s6 _ _ hl
      have s16 := s1'.trans s6
      have hB6 : BList K H6 xs ps := Paired.mapP hB fun v x ⟨a, e, h⟩ => ⟨a, e, Same.tup s6 h⟩
      have lens : xs.length = ps.length := Paired.length hB
      refine ⟨.ref l, rfl, l, rfl, ⟨_, SqL.of hl6⟩, ?_⟩
      have fn : (∀ m, ¬ (0 ≤ m ∧ ∀ x ∈ ps, 0 ≤ x.1 + m * x.2)) → Q .non H6 := fun h => by
        rw [← hps] at h
        exact k none H6 (sm.trans s16) (fb_none C.c o2.sn (.inr h))
      refine for_list (K := K) (xs := xs) (fun i σ' H' => ∃ (low : Int) (high : Option Int) (y12 y13 : Option V), σ' = [some (.ref a), some (.ref b), some (optV lim), some (.bl ear), some (.ref t), some (.int sa), some (.int st), some (.int oa), some (.int os), some (.ref l), some (.int low), some (optV high), y12, y13] ∧ H' = H6 ∧ FitI (ps.take i) low high) ?_ ?_ ?_ ?_
      · exact ⟨0, none, _, _, rfl, rfl, ⟨fun m => ⟨fun z => ⟨z.1, fun h e => nomatch e⟩, fun z => ⟨z.1, fun x hx => nomatch hx⟩⟩, fun _ x hx => (nomatch hx), fun _ => rfl, by decide, by decide, fun h e => (nomatch e)⟩⟩
      · rintro i σ' H' _ ⟨low, high, _, _, rfl, rfl, _⟩
        exact SqL.of hl6
      · rintro i v σ' H' hv ⟨low, high, z12, z13, rfl, rfl, F⟩
        obtain ⟨⟨b0, g⟩, x, hp, rfl, hx⟩ := hB6.at hv
        have hm := List.mem_of_getElem? hp
        obtain ⟨b1, b2, gg1, gg2⟩ := pb _ hm
        rw [show ps.take (i + 1) = ps.take i ++ [(b0, g)] from take_mem hp]
        refine ⟨x, _, rfl, hx, rfl, _, _, rfl, _, _, rfl, rfl, ?_⟩
        refine ⟨fun z H2 => H2 = H' ∧ (z = true ↔ g = 0 ∧ b0 < 0), ?_, ?_⟩
        · refine ⟨.int g, rfl, rfl, _, rfl, ite2 (fun e => ?_) (fun e => ?_)⟩
          · have g0 : g = 0 := V.int.inj (of_decide_eq_true e)
            refine ⟨.int b0, rfl, b0, 0, rfl, rfl, _, rfl, rfl, ?_⟩
            rw [decide_eq_true_iff]
            exact ⟨fun h => ⟨g0, h⟩, fun h => h.2⟩
          · have g0 : ¬ g = 0 := fun z => e (decide_eq_true (congrArg V.int z))
            exact ⟨rfl, ⟨fun h => (nomatch h), fun h => absurd h.1 g0⟩⟩
        rintro z H2 ⟨rfl, hz⟩
        refine ite2 (fun e => ?_) (fun e => ?_)
        · obtain ⟨rfl, bn⟩ := hz.mp e
          refine fn fun m z => ?_
          have := z.2 _ hm
          simp at this
          omega
        have notz : ¬ (g = 0 ∧ b0 < 0) := fun h => e (hz.mpr h)
        refine ⟨fun σ' H' => (∃ low', σ' = [some (.ref a), some (.ref b), some (optV lim), some (.bl ear), some (.ref t), some (.int sa), some (.int st), some (.int oa), some (.int os), some (.ref l), some (.int low'), some (optV high), some (.int g), some (.int b0)] ∧ low' = if 0 < g then (if -(b0 / g) > low then -(b0 / g) else low) else low) ∧ H' = H2, ?_, ?_⟩
        · refine ⟨.int g, rfl, g, 0, rfl, rfl, _, rfl, ite2 (fun e => ?_) (fun e => ?_)⟩
          · have g0 : 0 < g := of_decide_eq_true e
            refine ⟨.int low, rfl, .int b0, rfl, .int g, rfl, b0, g, rfl, rfl, ⟨by omega, by unfold Big; omega, by unfold Big; omega⟩, 0, _, rfl, rfl, low, _, rfl, ?_⟩
            refine ⟨⟨_, rfl, ?_⟩, rfl⟩
            rw [if_pos g0, Int.fdiv_eq_ediv_of_nonneg _ (show 0 ≤ g by omega), Int.zero_sub]
          · have g0 : ¬ 0 < g := of_decide_eq_false (Bool.eq_false_iff.mpr e)
            exact ⟨⟨low, rfl, by rw [if_neg g0]⟩, rfl⟩
        rintro σ' H3' ⟨⟨low', rfl, hlow⟩, rfl⟩
        have fe : g < 0 → b0.fdiv (0 - g) = b0 / -g := fun h => by rw [Int.fdiv_eq_ediv_of_nonneg _ (by omega), Int.zero_sub]
        have scd : g < 0 → CBs b0 (0 - g) := fun h => ⟨by omega, by unfold Big; omega, by unfold Big; omega⟩
        refine ⟨fun z H2 => H2 = H3' ∧ (z = true ↔ g < 0 ∧ ∀ h, high = some h → b0 / -g < h), ?_, ?_⟩
        · refine ⟨.int g, rfl, g, 0, rfl, rfl, _, rfl, ite2 (fun e => ?_) (fun e => ?_)⟩
          · have g0 : g < 0 := of_decide_eq_true e
            refine ⟨optV high, rfl, rfl, _, rfl, ?_⟩
            cases high with
            | none => exact ⟨rfl, ⟨fun _ => ⟨g0, fun h e => (nomatch e)⟩, fun _ => rfl⟩⟩
            | some h =>
              refine ⟨.int b0, rfl, .int g, rfl, 0, g, rfl, rfl, b0, _, rfl, rfl, scd g0, .int h, rfl, _, h, rfl, rfl, _, rfl, rfl, ?_⟩
              rw [decide_eq_true_iff, fe g0]
              exact ⟨fun x => ⟨g0, fun h e => by injection e with e; omega⟩, fun x => x.2 h rfl⟩
          · have g0 : ¬ g < 0 := of_decide_eq_false (Bool.eq_false_iff.mpr e)
            exact ⟨rfl, ⟨fun h => (nomatch h), fun h => absurd h.1 g0⟩⟩
        rintro z H4' ⟨rfl, hz⟩
        refine ite2 (fun e => ?_) (fun e => ?_)
        · obtain ⟨g0, hh⟩ := hz.mp e
          refine ⟨.int b0, rfl, .int g, rfl, 0, g, rfl, rfl, b0, _, rfl, rfl, scd g0, ?_⟩
          dsimp only
          rw [fe g0]
          have e1 : low' = low := by rw [hlow, if_neg (by omega)]
          subst e1
          have D := F.down g0 b1 b2
          have e2 : lowH high (b0 / -g) = b0 / -g := by
            cases high with
            | none => rfl
            | some h => exact if_pos (hh h rfl)
          rw [e2] at D
          exact ⟨_, some _, _, _, rfl, rfl, D⟩
        · refine ⟨_, high, _, _, rfl, rfl, ?_⟩
          by_cases g0 : 0 < g
          · rw [hlow, if_pos g0]
            exact F.up g0 b1 b2
          · rw [hlow, if_neg g0]
            by_cases gn : g < 0
            · have D := F.down gn b1 b2
              cases high with
              | none => exact absurd (hz.mpr ⟨gn, fun h e => (nomatch e)⟩) e
              | some h =>
                have nh : ¬ b0 / -g < h := fun z => e (hz.mpr ⟨gn, fun h e => by injection e with e; omega⟩)
                have e2 : lowH (some h) (b0 / -g) = h := if_neg nh
                rw [e2] at D
                exact D
            · have gz : g = 0 := by omega
              subst gz
              exact F.flat (by omega)
      · rintro σ' H' ⟨low, high, z12, z13, rfl, rfl, F⟩
        rw [lens, List.take_length] at F
        have l0 := F.l0
        have l1 := F.l1
        have some_ret : (∀ h, high = some h → low ≤ h) → Q (.int (sa + low * st)) H' := fun hle => by
          have F' := F.fit
          rw [← hps] at F'
          exact k (some _) H' (sm.trans s16) (fb_of C.c o2.sn F' hle)
        refine ⟨optV high, rfl, rfl, _, rfl, ?_⟩
        cases high with
        | none =>
          exact ⟨.int sa, rfl, .int low, rfl, .int st, rfl, low, st, rfl, rfl, by walk_at "sc", sa, _, rfl, rfl, some_ret fun h e => nomatch e⟩
        | some h =>
          refine ⟨.int low, rfl, .int h, rfl, low, h, rfl, rfl, _, rfl, ite2 (fun e => ?_) (fun e => ?_)⟩
          · have le : low ≤ h := of_decide_eq_true e
            exact ⟨.int sa, rfl, .int low, rfl, .int st, rfl, low, st, rfl, rfl, by walk_at "sc", sa, _, rfl, rfl, some_ret fun h e => by injection e with e; omega⟩
          · have gt : ¬ low ≤ h := of_decide_eq_false (Bool.eq_false_iff.mpr e)
            refine fn fun m z => ?_
            have := (F.fit m).mp z
            have := this.2 h rfl
            omega
theorem k_is_block (T : Tx K mg) : Cal P w K mg base 2 (He.ga K "_law_is_block") T.fd_is_block P_is_block (spIsBlock K) := by
  have c_steps_to := k_steps_to (P := P) (w := w) (base := base) T
  refine ⟨T.fn_is_block.ok sc_is_block (fun vs H Q E h => ?_) (fun cdv A outer s H vs Q E hr h => ?_), T.fn_is_block.kp, FunD.bindsN T.fn_is_block fun _ _ _ _ _ _ us hl => match us, hl with | [_, _, _, _, _], _ => rfl⟩
  · obtain ⟨a, b, n, lim, ear, q1, q2, rfl, _⟩ := h
    rfl
  · obtain ⟨a, b, n, lim, ear, q1, q2, rfl, ha, hb, o1, o2, n0, n1, k⟩ := h
    refine ⟨_, PSs.nox (pss_cons (ps_set (i := 5) sc_is_block.nd rfl (Or.inl rfl) (pe_call c_steps_to.F (hr.mono (by decide)) (by rfl) T.g_steps_to c_steps_to.kp c_steps_to.b .nil pass0 (pa_cons (pv 1) (pa_cons (pe_op op_add (pe_ix ix_tup (pv 0) pe_int (fun _ _ => rfl)) (pe_op op_mulB (pv 2) (pe_ix ix_tup (pv 0) pe_int (fun _ _ => rfl)))) pa_nil))))
      (pss_cons (ps_if (pcutT (PW.pt (pw_or (pt_cmpR op_lt (pv 2) pe_int (nomark _)) (pw_or (pt_cmpR op_isN (pv 5) pe_non (nomark _)) (pw_or1 (PW.pt (pw_and (pt_cmpR op_notN (pv 3) pe_non (nomark _)) (pw_and1 (pt_cmpR op_ge (pv 5) (pv 3) (nomark _)))))))))) (pss_one (ps_ret pe_bl)) pss_nil)
      (pss_cons (ps_set (i := 6) sc_is_block.nd rfl (Or.inl rfl) (pe_op op_sub (pe_op op_sub (pe_op op_add (pe_ix ix_tup (pv 0) pe_int (fun _ _ => rfl)) (pv 2)) (pe_ix ix_tup (pv 1) pe_int (fun _ _ => rfl))) (pv 5)))
      (pss_one (ps_ret (pe_or (pe_cmpR op_gt (pv 6) pe_int (nomark _)) (pe_one (pe_and (pe_cmpR op_eq (pv 6) pe_int (nomark _)) (pe_one (pv 4)))))))))), ?_⟩
    have c1 := o1.s0
    have c2 := o1.s1
    refine ⟨.ref b, rfl, .ref a, rfl, a, _, 2, .int q1.post, rfl, rfl, ha, atI_nat (j := 2) rfl, .int n, rfl, .ref a, rfl, a, _, 3, .int q1.stride, rfl, rfl, ha, atI_nat (j := 3) rfl, n, _, rfl, rfl, ⟨n0, n1, by unfold Big; omega, by unfold Big; omega⟩, _, _, rfl, rfl, b, _, q2, rfl, hb, o2, ?_⟩
    dsimp only
    by_cases hs : hasS q2.post q2.stride (q1.post + n * q1.stride) = true
    · rw [if_pos hs]
      by_cases nn : n < 0
      · refine ⟨fun z H2 => H2 = H ∧ z = true, ⟨.int n, rfl, n, 0, rfl, rfl, _, rfl, ite2 (fun e => ⟨rfl, rfl⟩) (fun e => absurd (decide_eq_true nn) e)⟩, ?_⟩
        rintro z H2 ⟨rfl, rfl⟩
        exact k false ⟨fun h => (nomatch h), fun h => absurd h.1 (by omega)⟩
      have ba := blk_at (d1 := q1.day) (d2 := q2.day) (lim := lim) (ear := ear) o2.sn (show 0 ≤ n by omega) hs
      generalize (q1.post + n * q1.stride - q2.post).fdiv q2.stride = j at ba ⊢
      refine ⟨fun z H2 => H2 = H ∧ (z = true ↔ ¬ ∀ l, lim = some l → j < l), ⟨.int n, rfl, n, 0, rfl, rfl, _, rfl, ite2 (fun e => absurd (of_decide_eq_true e) nn) (fun e => ?_)⟩, ?_⟩
      · refine ⟨.int j, rfl, rfl, false, rfl, optV lim, rfl, rfl, _, rfl, ?_⟩
        cases lim with
        | none => exact ⟨rfl, ⟨fun h => (nomatch h), fun h => absurd (fun l e => (nomatch e)) h⟩⟩
        | some c =>
          refine ⟨.int j, rfl, .int c, rfl, j, c, rfl, rfl, _, rfl, rfl, ?_⟩
          rw [decide_eq_true_iff]
          exact ⟨fun h z => absurd (z c rfl) (by omega), fun h => Classical.byContradiction fun z => h fun l e => by injection e with e; omega⟩
      rintro z H2 ⟨rfl, hz⟩
      refine ite2 (fun e => ?_) (fun e => ?_)
      · exact k false ⟨fun h => (nomatch h), fun h => absurd (ba.mp h).1 (hz.mp e)⟩
      have hl : ∀ l, lim = some l → j < l := Classical.byContradiction fun z => e (hz.mpr z)
      refine ⟨.ref a, rfl, a, _, 1, .int q1.day, rfl, rfl, ha, atI_nat (j := 1) rfl, .int n, rfl, _, _, rfl, rfl, .ref b, rfl, b, _, 1, .int q2.day, rfl, rfl, hb, atI_nat (j := 1) rfl, _, _, rfl, rfl, .int j, rfl, _, j, rfl, rfl, ?_⟩
      dsimp only
      generalize hg : q1.day + n - q2.day - j = gap at ba ⊢
      refine ⟨.int gap, rfl, gap, 0, rfl, rfl, _, rfl, ite2 (fun e => ?_) (fun e => ?_)⟩
      · exact k true ⟨fun _ => ba.mpr ⟨hl, .inl (of_decide_eq_true e)⟩, fun _ => rfl⟩
      · have g1 : ¬ 0 < gap := of_decide_eq_false (Bool.eq_false_iff.mpr e)
        refine ⟨.int gap, rfl, rfl, _, rfl, ite2 (fun e => ?_) (fun e => ?_)⟩
        · have g2 : gap = 0 := V.int.inj (of_decide_eq_true e)
          exact ⟨.bl ear, rfl, k ear ⟨fun h => ba.mpr ⟨hl, .inr ⟨g2, h⟩⟩, fun h => (ba.mp h).2.elim (fun x => absurd x g1) fun x => x.2⟩⟩
        · have g2 : ¬ gap = 0 := fun z => e (decide_eq_true (congrArg V.int z))
          exact k false ⟨fun h => (nomatch h), fun h => (ba.mp h).2.elim (fun x => absurd x g1) fun x => absurd x.1 g2⟩
    · rw [if_neg hs]
      refine ⟨fun z H2 => H2 = H ∧ z = true, ⟨.int n, rfl, n, 0, rfl, rfl, _, rfl, ite2 (fun e => ⟨rfl, rfl⟩) (fun e => ?_)⟩, ?_⟩
      · exact ⟨.non, rfl, rfl, true, rfl, rfl, rfl⟩
      rintro z H2 ⟨rfl, rfl⟩
      exact k false ⟨fun h => (nomatch h), fun h => absurd h (blk_no o2.sn hs)⟩
theorem k_law (T : Tx K mg) : FnG P w K mg base 17 (He.ga K "law") T.fd_law P_law (spLaw K) := by
  have c_pen := k_pen (P := P) (w := w) (base := base) T
  have c_pick := k_pick (P := P) (w := w) (base := base) T
  have c_great := k_great (P := P) (w := w) (base := base) T
  have c_great_duo := k_great_duo (P := P) (w := w) (base := base) T
  have c_made := k_made (P := P) (w := w) (base := base) T
  have c_steps_to := k_steps_to (P := P) (w := w) (base := base) T
  have c_lgcd := k_lgcd (P := P) (w := w) (base := base) T
  have c_block := k_block (P := P) (w := w) (base := base) T
  have c_is_block := k_is_block (P := P) (w := w) (base := base) T
  obtain ⟨ds, vd, bd⟩ := FunD.binds0 (ps := P_first_block) T.fn_first_block 2 (fun z => nomatch z) rfl fun D _ _ _ _ _ us ks h1 h2 => match us, ks, h1, h2 with | [_, _], [_, _], _, _ => ⟨_, _, _, _, _, _, rfl, rfl, _, _, _, _, _, _, rfl, rfl, rfl⟩
  have c_first_block : CalD P w K mg base 4 _ T.fd_first_block P_first_block (spFirst K) _ ds := ⟨k_first_block T, T.fn_first_block.kp, bd, vd⟩
  obtain ⟨mv1, kb_first_block_count_is_earlier⟩ := FunD.kbinds0 (ps := P_first_block) T.fn_first_block 2 ["count", "is_earlier"] [] (fun us _ ws => us ++ ws) (fun z => nomatch z) (fun q hq => nomatch hq) (fun a _ c => a.append c) fun D _ _ _ _ _ us mv ws h1 h2 h3 => match us, mv, ws, h1, h2, h3 with | [_, _], [], [_, _], _, _, _ => rfl
  refine FnG.mk' T.fn_law sc_law (fun vs H Q E h => ?_) (fun cdv A outer s H vs Q E gd hr h => ?_)
  · obtain ⟨a, ns, rfl, _⟩ := h
    rfl
  · obtain ⟨a, ns, rfl, hS, hn, k⟩ := h
    have hgd : (A.deeper (envOfC "law" (defScope s_law) s.heap.objs.size (He.ga K "law") cdv)).guards = some [] := gd
    refine ⟨_, PSs.nox (pss_cons (ps_set (i := 1) sc_law.nd rfl (Or.inl rfl) (pe_call c_pen.F (hr.mono (by decide)) (by rfl) T.g_pen c_pen.kp c_pen.b .nil pass0 (pa_cons (pv 0) pa_nil)))
      (pss_cons (ps_for PassesOwn.never rfl (pi_range1 (by rfl) T.b_range (pa_cons (pe_op op_add pe_int (pe_callB (call_min2 rfl) (by rfl) T.b_min (by decide +kernel) (pa_cons pe_int (pa_cons (pe_callB call_len_seq (by rfl) T.b_len PySem.boot_len (pa_cons (pv 0) pa_nil)) pa_nil)))) pa_nil)) (pg_name (i := 2) sc_law.nd rfl (Or.inl rfl))
      (pss_cons (ps_asg (pe_call c_great_duo.F (hr.mono (by decide)) (by rfl) T.g_great_duo c_great_duo.kp c_great_duo.b .nil pass0 (pa_cons (pv 1) pa_nil)) (pg_tup rfl (pgs_cons (pg_name (i := 3) sc_law.nd rfl (Or.inl rfl)) (pgs_cons (pg_name (i := 4) sc_law.nd rfl (Or.inl rfl)) (pgs_cons (pg_name (i := 5) sc_law.nd rfl (Or.inl rfl)) pgs_nil)))))
      (pss_one (ps_for PassesOwn.never rfl (pi_list (pe_lst (pa_cons (pe_tup (pa_cons (pv 3) (pa_cons (pv 4) pa_nil))) (pa_cons (pe_tup (pa_cons (pv 4) (pa_cons (pv 3) pa_nil))) pa_nil)))) (pg_tup rfl (pgs_cons (pg_name (i := 6) sc_law.nd rfl (Or.inl rfl)) (pgs_cons (pg_name (i := 7) sc_law.nd rfl (Or.inl rfl)) pgs_nil)))
      (pss_cons (ps_par3 (by rfl) sc_law.nd (i := 8) (j := 9) (l := 10) rfl rfl rfl (by decide) (by decide) (by decide) rfl rfl rfl (pa_cons (pe_call c_made.F (hr.mono (by decide)) (by rfl) T.g_made c_made.kp c_made.b .nil pass0 (pa_cons (pv 6) pa_nil)) (pa_cons (pe_call c_made.F (hr.mono (by decide)) (by rfl) T.g_made c_made.kp c_made.b .nil pass0 (pa_cons (pv 7) pa_nil)) (pa_cons (pe_call c_steps_to.F (hr.mono (by decide)) (by rfl) T.g_steps_to c_steps_to.kp c_steps_to.b .nil pass0 (pa_cons (pv 7) (pa_cons (pv 5) pa_nil))) pa_nil))) (by rfl))
      (pss_cons (ps_set (i := 11) sc_law.nd rfl (Or.inl rfl) (pcutE (pe_ifExp (pt_cmpR op_isN (pv 10) pe_non (nomark _)) pe_int (pv 10))))
      (pss_cons (ps_set (i := 12) sc_law.nd rfl (Or.inl rfl) (pe_lst (pa_cons pe_non (pa_cons pe_non (pa_cons (pv 11) (pa_cons (pe_op op_add (pv 11) pe_int) (pa_cons (pe_op op_add (pv 11) pe_int) (pa_cons pe_int (pa_cons pe_int (pa_cons (pe_call c_great.F (hr.mono (by decide)) (by rfl) T.g_great c_great.kp c_great.b .nil pass0 (pa_cons (pv 1) (pa_cons pe_int pa_nil))) (pa_cons (pe_call c_great.F (hr.mono (by decide)) (by rfl) T.g_great c_great.kp c_great.b .nil pass0 (pa_cons (pv 1) (pa_cons pe_int pa_nil))) pa_nil)))))))))))
      (pss_one (ps_for PassesOwn.never rfl (pi_list (pe_lst (pa_cons (pe_call c_pick.F (hr.mono (by decide)) (by rfl) T.g_pick c_pick.kp c_pick.b .nil pass0 (pa_cons (pv 1) (pa_cons (pv 12) pa_nil))) (pa_cons (pe_call c_pick.F (hr.mono (by decide)) (by rfl) T.g_pick c_pick.kp c_pick.b .nil pass0 (pa_cons (pv 1) (pa_cons (pv 12) pa_nil))) (pa_cons pe_non pa_nil))))) (pg_name (i := 13) sc_law.nd rfl (Or.inl rfl))
      (pss_one (ps_for PassesOwn.never rfl (pi_tup (pe_tup (pa_cons pe_bl (pa_cons pe_bl pa_nil)))) (pg_name (i := 14) sc_law.nd rfl (Or.inl rfl))
      (pss_cons (ps_set (i := 15) sc_law.nd rfl (Or.inl rfl) (pe_callN c_first_block.F (hr.mono (by decide)) (by rfl) T.g_first_block c_first_block.kp kb_first_block_count_is_earlier pass0 (pa_cons (pv 8) (pa_cons (pv 9) pa_nil)) (pk_cons (pv 13) (pk_cons (pv 14) pk_nil))))
      (pss_cons (ps_if (pt_cmpR op_ne (pe_callB (call_reprD hgd hr.units) (by rfl) T.b_repr (by decide +kernel) (pa_cons (pv 15) pa_nil)) (pe_callB (call_reprD hgd hr.units) (by rfl) T.b_repr (by decide +kernel) (pa_cons (pe_call c_block.F (hr.mono (by decide)) (by rfl) T.g_block c_block.kp c_block.b .nil pass0 (pa_cons (pv 6) (pa_cons (pv 7) (pa_cons (pv 13) (pa_cons (pv 14) pa_nil))))) pa_nil)) (nomark _)) (pss_one (ps_ret pe_bl)) pss_nil)
      (pss_one (ps_if (pt_cmpR op_notN (pv 15) pe_non (nomark _)) (pss_cons (ps_set (i := 16) sc_law.nd rfl (Or.inl rfl) (pe_op op_fdivB (pe_callB call_abs (by rfl) T.b_abs (by decide +kernel) (pa_cons (pe_ix ix_tup (pv 7) pe_int (fun _ _ => rfl)) pa_nil)) (pe_call c_lgcd.F (hr.mono (by decide)) (by rfl) T.g_lgcd c_lgcd.kp c_lgcd.b .nil pass0 (pa_cons (pe_ix ix_tup (pv 6) pe_int (fun _ _ => rfl)) (pa_cons (pe_ix ix_tup (pv 7) pe_int (fun _ _ => rfl)) pa_nil)))))
      (pss_cons (ps_if (pt_not (pt_val (pe_call c_is_block.F (hr.mono (by decide)) (by rfl) T.g_is_block c_is_block.kp c_is_block.b .nil pass0 (pa_cons (pv 6) (pa_cons (pv 7) (pa_cons (pv 15) (pa_cons (pv 13) (pa_cons (pv 14) pa_nil)))))))) (pss_one (ps_ret pe_bl)) pss_nil)
      (pss_one (ps_if (pt_val (pe_call c_is_block.F (hr.mono (by decide)) (by rfl) T.g_is_block c_is_block.kp c_is_block.b .nil pass0 (pa_cons (pv 6) (pa_cons (pv 7) (pa_cons (pe_op op_sub (pv 15) (pv 16)) (pa_cons (pv 13) (pa_cons (pv 14) pa_nil))))))) (pss_one (ps_ret pe_bl)) pss_nil)))) pss_nil)))))))))))))))
      (pss_one (ps_ret pe_bl)))), ?_⟩
    refine ⟨.ref a, rfl, a, ns, rfl, hS, fun p H1 s1 np hP => ?_⟩
    have hS1 := s1.seq hS
    have nb : (4 + if (((ns.map V.int).length : Nat) : Int) < 6 then (((ns.map V.int).length : Nat) : Int) else 6) ≤ 10 ∧ 0 ≤ (4 + if (((ns.map V.int).length : Nat) : Int) < 6 then (((ns.map V.int).length : Nat) : Int) else 6) := by split <;> omega
    refine ⟨.ref a, rfl, a, _, rfl, .inl hS1, 6, _, rfl, 4, _, rfl, rfl, _, rfl, by omega, by omega, ?_⟩
    refine for_range (lo := 0) (fun i σ' H' => ∃ (ys : List (Option V)) (b' : Int), ys.length = 15 ∧ σ' = some (.ref a) :: some (.ref p.a) :: ys ∧ Pen K H' p b' ∧ b' ≤ 5000 * i) ?_ ?_ ?_
    · exact ⟨_, 0, rfl, rfl, hP, by omega⟩
    · rintro i σ' H' hi ⟨ys, b', hys, rfl, hPH, hbH⟩
      obtain ⟨y2, y3, y4, y5, y6, y7, y8, y9, y10, y11, y12, y13, y14, y15, y16, rfl⟩ : ∃ y2 y3 y4 y5 y6 y7 y8 y9 y10 y11 y12 y13 y14 y15 y16, ys = [y2, y3, y4, y5, y6, y7, y8, y9, y10, y11, y12, y13, y14, y15, y16] := by
        match ys, hys with
        | [_, _, _, _, _, _, _, _, _, _, _, _, _, _, _], _ => exact ⟨_, _, _, _, _, _, _, _, _, _, _, _, _, _, _, rfl⟩
      have bn := hPH.nn
      have hi2 : i ≤ 10 := by omega
      refine ⟨.ref p.a, rfl, p, b', rfl, hPH, by omega, fun l t1 t2 q1 q2 hub H2 b2 e2 hP2 hb2 hl h1 h2 sm1 sm2 hub0 hub1 => ?_⟩
      refine ⟨l, _, rfl, SqT.of hl, rfl, _, _, rfl, _, _, rfl, _, _, rfl, rfl, ?_⟩
      -- [(one, other), (other, one)]
      refine ⟨_, rfl, _, rfl, sz_of (show 2 ≤ 1000 by decide), fun c1 nc1 => ⟨_, rfl, _, rfl, sz_of (show 2 ≤ 1000 by decide), fun c2 nc2 => ⟨sz_of (show 2 ≤ 1000 by decide), fun l2 nl2 => ?_⟩⟩⟩
      have s3 : Same H2 (upd H2 c1 (.tup [.ref t1, .ref t2])) := Same.new nc1
      have g1 : (upd H2 c1 (.tup [.ref t1, .ref t2])) c1 = some (.tup [.ref t1, .ref t2]) := upd_same
      generalize upd H2 c1 (.tup [.ref t1, .ref t2]) = H3 at s3 g1 nc2 nl2 ⊢
      have s4 : Same H3 (upd H3 c2 (.tup [.ref t2, .ref t1])) := Same.new nc2
      have g2 : (upd H3 c2 (.tup [.ref t2, .ref t1])) c2 = some (.tup [.ref t2, .ref t1]) := upd_same
      generalize upd H3 c2 (.tup [.ref t2, .ref t1]) = H4 at s4 g2 nl2 ⊢
      have s5 : Same H4 (upd H4 l2 (.lst [.ref c1, .ref c2])) := Same.new nl2
      have g3 : (upd H4 l2 (.lst [.ref c1, .ref c2])) l2 = some (.lst [.ref c1, .ref c2]) := upd_same
      generalize upd H4 l2 (.lst [.ref c1, .ref c2]) = H5 at s5 g3 ⊢
      have s25 := s3.trans (s4.trans s5)
      have hP5 := hP2.same s25
      refine ⟨l2, rfl, ⟨_, SqL.of g3⟩, ?_⟩
      refine for_list (K := K) (xs := [.ref c1, .ref c2]) (fun j σ2 H' => ∃ (y6 y7 y8 y9 y10 y11 y12 y13 y14 y15 y16 : Option V) (bj : Int), σ2 = [some (.ref a), some (.ref p.a), some (.int (0 + (i : Int))), some (.ref t1), some (.ref t2), some (.int hub), y6, y7, y8, y9, y10, y11, y12, y13, y14, y15, y16] ∧ Ext p.a H5 H' ∧ Pen K H' p bj ∧ bj ≤ b2 + 300 * j) ?_ ?_ ?_ ?_
      · exact ⟨y6, y7, y8, y9, y10, y11, y12, y13, y14, y15, y16, b2, rfl, Ext.refl hP5.is_, hP5, by omega⟩
      · rintro j σ2 H' _ ⟨_, _, _, _, _, _, _, _, _, _, _, _, _, eH, _⟩
        exact eH.l (SqL.of g3)
      · rintro j v σ2 H' hv ⟨z6, z7, z8, z9, z10, z11, z12, z13, z14, z15, z16, bj, rfl, eH, hPj, hbj⟩
        have hj : j < 2 := (List.getElem?_eq_some_iff.mp hv).1
        obtain ⟨c, u1, u2, qa, qb, rfl, hc, hu1, hu2, sa, sb⟩ : ∃ c u1 u2 qa qb, v = .ref c ∧ H' c = some (.tup [.ref u1, .ref u2]) ∧ H' u1 = some (.tup (tupP qa)) ∧ H' u2 = some (.tup (tupP qb)) ∧ qa.Gt ∧ qb.Gt := by
          have k1 := eH.at (s25 _ _ h1) fun _ z => nomatch z
          have k2 := eH.at (s25 _ _ h2) fun _ z => nomatch z
          have k3 := eH.at (s5 _ _ (s4 _ _ g1)) fun _ z => nomatch z
          have k4 := eH.at (s5 _ _ g2) fun _ z => nomatch z
          match j, hj, hv with
          | 0, _, hv => exact ⟨c1, t1, t2, q1, q2, (Option.some.inj hv).symm, k3, k1, k2, sm1, sm2⟩
          | 1, _, hv => exact ⟨c2, t2, t1, q2, q1, (Option.some.inj hv).symm, k4, k2, k1, sm2, sm1⟩
        refine ⟨c, _, rfl, SqT.of hc, rfl, _, _, rfl, _, _, rfl, rfl, ?_⟩
        -- mine, yours, steps
        refine ⟨.ref u1, rfl, u1, qa, rfl, hu1, sa.ok, fun x H6 s6 nx hx => ?_⟩
        refine ⟨.ref u2, rfl, u2, qb, rfl, s6 _ _ hu2, sb.ok, fun y H7 s7 ny hy => ?_⟩
        have s67 := s6.trans s7
        have hx7 := hx.same s7
        have ha7 := s67 _ _ hu1
        have hb7 := s67 _ _ hu2
        have hP7 := hPj.same s67
        refine ⟨.ref u2, rfl, .int hub, rfl, u2, hub, qb, rfl, SqT.of hb7, sb.ok, _, _, _, rfl, ?_⟩
        -- near
        have p0 := sb.p0
        have p1 := sb.p1
        have fb := fdiv_le (a := hub - qb.post) (g := qb.stride) (B := 10 ^ 40) sb.sn (by omega) (by omega)
        refine ⟨fun v H8 => (∃ near : Int, v = .int near ∧ 0 ≤ near ∧ near ≤ 10 ^ 40) ∧ H8 = H7, ?_, ?_⟩
        · by_cases hs : hasS qb.post qb.stride hub = true
          · rw [if_pos hs]
            have nn : 0 ≤ (hub - qb.post).fdiv qb.stride := by
              unfold hasS at hs
              rw [Bool.and_eq_true] at hs
              exact of_decide_eq_true hs.2
            exact ⟨_, rfl, rfl, false, rfl, _, rfl, ⟨_, rfl, nn, fb.2⟩, rfl⟩
          · rw [if_neg hs]
            exact ⟨.non, rfl, rfl, true, rfl, ⟨0, rfl, by decide, by decide⟩, rfl⟩
        rintro v H8 ⟨⟨near, rfl, near0, near1⟩, rfl⟩
        -- limits
        refine ⟨.int near, rfl, .int near, rfl, near, 1, rfl, rfl, .int near, rfl, near, 2, rfl, rfl, ?_⟩
        refine ⟨.ref p.a, rfl, p, 12, bj, rfl, hP7, by decide, by decide, by omega, fun r1 H9 b9 e9 hP9 hb9 r10 r11 => ?_⟩
        refine ⟨.ref p.a, rfl, p, 30, b9, rfl, hP9, by decide, by decide, by omega, fun r2 H10 b10 e10 hP10 hb10 r20 r21 => ?_⟩
        refine ⟨sz_of (show 9 ≤ 1000 by decide), fun ll nll => ?_⟩
        have eL := Ext.new (o := .lst [.non, .non, .int near, .int (near + 1), .int (near + 2), .int 0, .int 1, .int r1, .int r2]) hP10.is_ nll
        have hPL := hP10.new (o := .lst [.non, .non, .int near, .int (near + 1), .int (near + 2), .int 0, .int 1, .int r1, .int r2]) nll
        have gL : (upd H10 ll (.lst [.non, .non, .int near, .int (near + 1), .int (near + 2), .int 0, .int 1, .int r1, .int r2])) ll = some (.lst [.non, .non, .int near, .int (near + 1), .int (near + 2), .int 0, .int 1, .int r1, .int r2]) := upd_same
        generalize upd H10 ll (.lst [.non, .non, .int near, .int (near + 1), .int (near + 2), .int 0, .int 1, .int r1, .int r2]) = H11 at eL hPL gL ⊢
        have lim_of : ∀ v ∈ [V.non, .non, .int near, .int (near + 1), .int (near + 2), .int 0, .int 1, .int r1, .int r2], ∃ lim : Option Int, v = optV lim ∧ ∀ l, lim = some l → 0 ≤ l ∧ l ≤ 10 ^ 79 := by
          have some_ : ∀ x : Int, 0 ≤ x → x ≤ 10 ^ 79 → ∀ l, some x = some l → 0 ≤ l ∧ l ≤ 10 ^ 79 := fun x h1 h2 l e => by
            injection e with e
            omega
          intro v hv
          simp only [List.mem_cons, List.mem_nil_iff, or_false] at hv
          rcases hv with rfl | rfl | rfl | rfl | rfl | rfl | rfl | rfl | rfl
          · exact ⟨none, rfl, fun l e => nomatch e⟩
          · exact ⟨none, rfl, fun l e => nomatch e⟩
          · exact ⟨some near, rfl, some_ _ near0 (by omega)⟩
          · exact ⟨some (near + 1), rfl, some_ _ (by omega) (by omega)⟩
          · exact ⟨some (near + 2), rfl, some_ _ (by omega) (by omega)⟩
          · exact ⟨some 0, rfl, some_ _ (by decide) (by decide)⟩
          · exact ⟨some 1, rfl, some_ _ (by decide) (by decide)⟩
          · exact ⟨some r1, rfl, some_ _ r10 (by omega)⟩
          · exact ⟨some r2, rfl, some_ _ r20 (by omega)⟩
        -- [pick, pick, None]
        refine ⟨.ref p.a, rfl, .ref ll, rfl, p, .ref ll, _, b10, rfl, hPL, .inl ⟨ll, rfl, .inl (SqL.of gL)⟩, (fun z => nomatch z), (show 9 ≤ 1000 by decide), by omega, fun v1 hv1 H12 b12 e12 hP12 hb12 => ?_⟩
        refine ⟨.ref p.a, rfl, .ref ll, rfl, p, .ref ll, _, b12, rfl, hP12, .inl ⟨ll, rfl, .inl (e12.l (SqL.of gL))⟩, (fun z => nomatch z), (show 9 ≤ 1000 by decide), by omega, fun v2 hv2 H13 b13 e13 hP13 hb13 => ?_⟩
        refine ⟨sz_of (show 3 ≤ 1000 by decide), fun l3 nl3 => ?_⟩
        have e14 := Ext.new (o := .lst [v1, v2, .non]) hP13.is_ nl3
        have hP14 := hP13.new (o := .lst [v1, v2, .non]) nl3
        have g14 : (upd H13 l3 (.lst [v1, v2, .non])) l3 = some (.lst [v1, v2, .non]) := upd_same
        generalize upd H13 l3 (.lst [v1, v2, .non]) = H14 at e14 hP14 g14 ⊢
        have e714 : Ext p.a H8 H14 := (e9.trans e10).trans ((eL.trans e12).trans (e13.trans e14))
        have hx14 := hx7.ext e714
        have hy14 := hy.ext e714
        have ha14 := e714.at ha7 fun _ z => nomatch z
        have hb14 := e714.at hb7 fun _ z => nomatch z
        obtain ⟨lim1, rfl, hlim1⟩ := lim_of v1 hv1
        obtain ⟨lim2, rfl, hlim2⟩ := lim_of v2 hv2
        refine ⟨l3, rfl, ⟨_, SqL.of g14⟩, ?_⟩
        refine for_list (K := K) (xs := [optV lim1, optV lim2, .non]) (fun n σ2 H' => ∃ (w10 y13 y14 y15 y16 : Option V), σ2 = [some (.ref a), some (.ref p.a), some (.int (0 + (i : Int))), some (.ref t1), some (.ref t2), some (.int hub), some (.ref u1), some (.ref u2), some (.ref x), some (.ref y), w10, some (.int near), some (.ref ll), y13, y14, y15, y16] ∧ Same H14 H') ?_ ?_ ?_ ?_
        · exact ⟨_, z13, z14, z15, z16, rfl, Same.refl _⟩
        · rintro n σ2 H' _ ⟨_, _, _, _, _, _, sH⟩
          exact SqL.of (sH _ _ g14)
        · rintro n v σ2 H' hv ⟨w10, x13, x14, x15, x16, rfl, sH⟩
          have hn3 : n < 3 := (List.getElem?_eq_some_iff.mp hv).1
          obtain ⟨lim, rfl, hlim⟩ : ∃ lim : Option Int, v = optV lim ∧ ∀ l, lim = some l → 0 ≤ l ∧ l ≤ 10 ^ 79 := by
            match n, hn3, hv with
            | 0, _, hv => exact ⟨lim1, (Option.some.inj hv).symm, hlim1⟩
            | 1, _, hv => exact ⟨lim2, (Option.some.inj hv).symm, hlim2⟩
            | 2, _, hv => exact ⟨none, (Option.some.inj hv).symm, fun l e => nomatch e⟩
          -- for flag in (False, True)
          refine ⟨sz_of (show 2 ≤ 1000 by decide), fun tt ntt => ?_⟩
          have s15 : Same H' (upd H' tt (.tup [.bl false, .bl true])) := Same.new ntt
          have g15 : (upd H' tt (.tup [.bl false, .bl true])) tt = some (.tup [.bl false, .bl true]) := upd_same
          generalize upd H' tt (.tup [.bl false, .bl true]) = H15 at s15 g15 ⊢
          refine ⟨tt, rfl, ⟨_, SqT.of g15⟩, ?_⟩
          refine for_tup (K := K) (xs := [.bl false, .bl true]) (fun n σ2 H' => ∃ (y14 y15 y16 : Option V), σ2 = [some (.ref a), some (.ref p.a), some (.int (0 + (i : Int))), some (.ref t1), some (.ref t2), some (.int hub), some (.ref u1), some (.ref u2), some (.ref x), some (.ref y), w10, some (.int near), some (.ref ll), some (optV lim), y14, y15, y16] ∧ Same H15 H') ?_ ?_ ?_ ?_
          · exact ⟨x14, x15, x16, rfl, Same.refl _⟩
          · rintro n σ2 H' _ ⟨_, _, _, _, sH⟩
            exact SqT.of (sH _ _ g15)
          · rintro n v σ2 H16 hv ⟨u14, u15, u16, rfl, s16⟩
            have hn2 : n < 2 := (List.getElem?_eq_some_iff.mp hv).1
            obtain ⟨f, rfl⟩ : ∃ f, v = .bl f := by
              match n, hn2, hv with
              | 0, _, hv => exact ⟨false, (Option.some.inj hv).symm⟩
              | 1, _, hv => exact ⟨true, (Option.some.inj hv).symm⟩
            have sA := sH.trans (s15.trans s16)
            refine ⟨.ref x, rfl, .ref y, rfl, optV lim, rfl, .bl f, rfl, rfl, rfl, x, y, lim, f, qa, qb, rfl, hx14.same sA, hy14.same sA, sa.ok, sb.ok, hlim, fun r H17 s17 F rb => ?_⟩
            have sB := sA.trans s17
            have haB := SqT.of (K := K) (sB _ _ ha14)
            have hbB := SqT.of (K := K) (sB _ _ hb14)
            obtain ⟨r1, r2, r3, r4⟩ := shw_opt2 rb
            refine ⟨optV r, rfl, optV r, optD r, rfl, dp_opt r, r1, r2, r3, r4, ?_⟩
            refine ⟨.ref u1, rfl, .ref u2, rfl, optV lim, rfl, .bl f, rfl, u1, u2, lim, f, qa, qb, rfl, haB, hbB, sa.ok, sb.ok, hlim, fun r' H18 s18 F' => ?_⟩
            have er : r' = r := F'.inj F
            subst er
            refine ⟨optV r', optD r', rfl, dp_opt r', r1, r2, r3, r4, rfl, _, rfl, ?_⟩
            rw [decide_eq_true rfl]
            have haC := Same.tup s18 haB
            have hbC := Same.tup s18 hbB
            refine ⟨optV r', rfl, rfl, _, rfl, ?_⟩
            cases r' with
            | none => exact ⟨_, _, u16, rfl, (s16.trans s17).trans s18⟩
            | some n0 =>
              obtain ⟨nb0, nb1⟩ := rb n0 rfl
              obtain ⟨B, least⟩ := F
              have t0 := sb.s0
              have t1' := sb.s1
              have ⟨gg0, gg1⟩ := gcd_le9 (s := qa.stride) sb.sn sb.ok.s0 sb.ok.s1
              refine ⟨.ref u2, rfl, u2, _, 3, .int qb.stride, rfl, rfl, hbC, atI_nat (j := 3) rfl, qb.stride, rfl, .ref u1, rfl, u1, _, 3, .int qa.stride, rfl, rfl, haC, atI_nat (j := 3) rfl, .ref u2, rfl, u2, _, 3, .int qb.stride, rfl, rfl, hbC, atI_nat (j := 3) rfl, qa.stride, qb.stride, rfl, ?_⟩
              rw [ifabs]
              refine ⟨_, _, rfl, rfl, ⟨gg0, by unfold Big; omega⟩, ?_⟩
              have pp : 0 < (qb.stride.natAbs : Int) / (Int.gcd qa.stride qb.stride : Int) := Int.ediv_pos_of_pos_of_dvd (by have := sb.sn; omega) (by omega) (Int.dvd_natAbs.mpr (Int.gcd_dvd_right qa.stride qb.stride))
              have pq := Int.ediv_le_self (Int.gcd qa.stride qb.stride : Int) (show 0 ≤ (qb.stride.natAbs : Int) by omega)
              refine ⟨.ref u1, rfl, .ref u2, rfl, .int n0, rfl, optV lim, rfl, .bl f, rfl, u1, u2, n0, lim, f, qa, qb, rfl, haC, hbC, sa.ok, sb.ok, nb0, nb1, fun z hz => ?_⟩
              have hz1 : z = true := hz.mpr B
              subst hz1
              refine ⟨true, rfl, ?_⟩
              have n00 := B.1
              refine ⟨.ref u1, rfl, .ref u2, rfl, .int n0, rfl, _, rfl, n0, _, rfl, rfl, optV lim, rfl, .bl f, rfl, u1, u2, _, lim, f, qa, qb, rfl, haC, hbC, sa.ok, sb.ok, by unfold Big; omega, by omega, fun z hz => ?_⟩
              have hz1 : z = false := Bool.eq_false_iff.mpr fun e => by
                have := least _ (hz.mp e)
                omega
              subst hz1
              exact ⟨false, rfl, _, _, _, rfl, (s16.trans s17).trans s18⟩
          · rintro σ2 H16 ⟨u14, u15, u16, rfl, s16⟩
            exact ⟨_, _, _, _, _, rfl, sH.trans (s15.trans s16)⟩
        · rintro σ2 H15 ⟨w10, x13, x14, x15, x16, rfl, sH⟩
          exact ⟨_, _, _, _, _, _, _, _, _, _, _, b13, rfl, eH.trans ((Ext.same hPj.is_ s67).trans (e714.trans (Ext.same hP14.is_ sH))), hP14.same sH, by omega⟩
      · rintro σ2 H' ⟨z6, z7, z8, z9, z10, z11, z12, z13, z14, z15, z16, bj, rfl, eH, hPj, hbj⟩
        exact ⟨_, bj, rfl, rfl, hPj, by simp at hbj; omega⟩
    · rintro σ' H' ⟨ys, b', hys, rfl, _⟩
      exact k H'
end
end KP

open PySem PySem.W PySem.Calls PyProof.Rows
set_option maxHeartbeats 0 in
theorem PySem.Challenge.cw_paintposts_k11_first_block_of_great_numb_holds : PySem.Challenge.rw_paintposts_k11_first_block_of_great_numb.Holds := by
  w_on; o_law
  refine HandSHeadRun.head_any (r := OpenLaw.row PySem.Challenge.rw_paintposts_k11_first_block_of_great_numb) (q := KP.qq) (H := KP.hk) (ob := KP.obh) (M := 20000) (loose := KP.loo) (d := HandSHeadRun.topDef (OpenLaw.row PySem.Challenge.rw_paintposts_k11_first_block_of_great_numb).prog 44) (kwd := []) KP.obh_eq (by kernel_rfl) (fun s => by kernel_rfl) KP.runh
    (by kernel_rfl) (by kernel_rfl) (by kernel_rfl) (by rfl) (by first | assumption | decide +kernel) (by decide +kernel) ⟨rfl, rfl, rfl, rfl, rfl, by decide +kernel⟩ ?hw ?hc
  case hw => w_witness2
  case hc =>
    refine KP.law_end (l := PySem.Challenge.rw_paintposts_k11_first_block_of_great_numb) (k := 17) (x := "_law_script") rfl (by kernel_rfl) ⟨rfl, by decide, by decide⟩ ?_
    intro w mg fa h Y G hmg0
    obtain ⟨K, KX, c⟩ := Y
    obtain ⟨T⟩ := KP.tx_of KX G c
    have hmg : mg ("law" : PySem.Str) = some (.ref fa) := by
      have e : (HandSHeadRun.topDef (OpenLaw.row PySem.Challenge.rw_paintposts_k11_first_block_of_great_numb).prog 44).name = ("law" : PySem.Str) := by kernel_rfl
      rw [← e]
      exact hmg0
    have e := hmg.symm.trans T.g_law
    cases e
    have bb := L2.FunD.bindsA (ps := ["_law_script"]) T.fn_law fun _ _ _ _ _ _ us hl => match us, hl with | [_], _ => rfl
    exact ⟨K, T.fd_law, KP.spLaw K, KX, fun s v => bb s [v] rfl, fun H a ns hl _ hS => ⟨a, ns, rfl, hS, hl, fun _ => rfl⟩, fun base _ _ => KP.k_law T⟩
