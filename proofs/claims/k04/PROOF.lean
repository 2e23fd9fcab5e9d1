import PyProof.Rows.All
import Wide.All
import OpenK.AllK
import Wide.FinOn
import KE.KStateDown
import KE.DatumIndex
import Lean
import HandS.ForMost
import HandS.Wide
import HandS.Evl
import HandS.NoneIn
import HandS.Style
import HandS.MakeKwOnly
import HandS.WideBits
import HandS.Property
import HandS.IsInst
import HandS.Defaults
import HandS.Star
import HandS.FStr
import HandS.RaiseMore
import HandS.EndBits
import HandS.HeadEnd
import HandS.Head0
import HandS.Head1
import HandS.Head2
import HandS.HeadHook1
import HandS.HeadHook2
import HandS.HeadHook3
import HandS.HeadNt
import KE.KExcSuper
import PyProof.Rows.FactsExc_KeyError
import HandS.ExcField
import HandS.ExcIs
import KE.KIsAll
import HandS.ClsMeth
import HandS.HeadHook4
import HandS.EndTab
import HandS.ForExc
import HandS.CallSlots
import HandS.TupAny
import HandS.SortInts
import PyProof.Draws
import PyProof.EnumMake
import PyProof.TupleIter
import HandS.DictComp
import HandS.Conv
import KE.DatumOrd
import HandS.SortKw
import OpenK.KMeth
import OpenK.KOps
import HandS.OwnEq
import HandS.Nested
import PyProof.LongRange
import HandS.SortRule
import PyProof.NeKinds
import HandS.SetFor
import KE.KRevSl
import HandS.Zip
import HandS.Deep
import HandS.TupLe
import KE.KUnpack
import PyProof.CollectIter
import PyProof.WalksMore
import HandS.TryMany
import KE.KExcIs
import PySem.Challenge.RW_paintposts_k04_whole_painters_moved_comp
set_option Elab.async false
set_option linter.all false
set_option maxRecDepth 100000
set_option maxHeartbeats 4000000
namespace KP
open PySem PySem.Spec PyProof.Rows L2
section
variable {X : Cx}
/-! ### numbers within a plain bound -/
abbrev Big : Int := 10 ^ 200
def CB2 (i j : Int) : Prop := -Big < i ∧ i < Big ∧ -Big < j ∧ j < Big
def CBd (_ j : Int) : Prop := 0 < j ∧ j < Big
def CBs (_ j : Int) : Prop := j ≠ 0 ∧ -Big < j ∧ j < Big
theorem big_lt {i : Int} (a : -Big < i) (b : i < Big) : i.natAbs < 2 ^ 700 := by
  have h : (10 : Int) ^ 200 < 2 ^ 700 := by decide +kernel
  have e : (2 : Nat) ^ 700 = ((2 : Int) ^ 700).toNat := by decide +kernel
  unfold Big at a b
  omega
theorem op_mulB : OpR X (binaryOp .Mult) (rI CB2 fun i j => .int (i * j)) := fun pins s σ H x y v u Q I rx ry h => by
  obtain ⟨i, j, ex, ey, ⟨c1, c2, c3, c4⟩, q⟩ := h
  exact op_mulW pins s σ H x y v u Q I rx ry ⟨i, j, ex, ey, wide_mul (big_lt c1 c2) (big_lt c3 c4) (by decide) (by decide) (by decide), q⟩
theorem op_fdivB : OpR X (binaryOp .FloorDiv) (rI CBd fun i j => .int (i / j)) := fun pins s σ H x y v u Q I rx ry h => by
  obtain ⟨i, j, ex, ey, ⟨c1, c2⟩, q⟩ := h
  exact op_fdivW pins s σ H x y v u Q I rx ry ⟨i, j, ex, ey, wide_div c1 (big_lt (by unfold Big; omega) c2) (by decide) (by decide), q⟩
theorem op_fdivS : OpR X (binaryOp .FloorDiv) (rI CBs fun i j => .int (i.fdiv j)) := opI fun i j _ _ _ _ _ hc q =>
  floordiv_int hc.1 q (.inl (PyProof.noPylong_of_log2 (Nat.lt_of_lt_of_le (PySem.Flt.log2_lt_of (by decide) (big_lt hc.2.1 hc.2.2)) (by decide))))
/-- a power of two written numbers -/
theorem ppow {a b c : Int} {j1 j2 : Nat} {p1 p2 pos : Pos} (h0 : (0 ≤ b ∧ b ≤ 1000000 ∧ a.natAbs < 2 ^ 64)) (h : a ^ b.toNat = c) : PE X (.BinOp (.Constant (.int a) j1 p1) .Pow (.Constant (.int b) j2 p2) pos) (tC (.int c)) := by
  subst h
  have z : PE X (.BinOp (.Constant (.int a) j1 p1) .Pow (.Constant (.int b) j2 p2) pos) (tOp (rI CPow fun i j => .int (i ^ j.toNat)) (tC (.int a)) (tC (.int b))) := pe_op op_pow pe_int pe_int
  exact ⟨fun pins s σ H Q I q => z.run pins s σ H Q I ⟨a, b, rfl, rfl, h0, q⟩⟩
/-! ### globals -/
theorem pglobI {x : Str} {i : Int} {pos : Pos} (hg : Gl X x) (h : ∃ t, X.mg x = some (.int i t)) (hd : (x == ("__debug__" : Str)) = false := by decide) : PE X (.Name x pos) (tC (.int i)) := by
  obtain ⟨t, e⟩ := h
  exact pe_glob hg e ⟨t, rfl⟩ hd
theorem pglobS {x z : Str} {pos : Pos} (hg : Gl X x) (h : ∃ t, X.mg x = some (.str z t)) (hd : (x == ("__debug__" : Str)) = false := by decide) : PE X (.Name x pos) (tC (.str z)) := by
  obtain ⟨t, e⟩ := h
  exact pe_glob hg e ⟨t, rfl⟩ hd
/-! ### a value told by what holds of it: what follows is shown once -/
def tCutE (t : TE) : TE := fun σ H Q => ∃ M : V → Hp → Prop, t σ H M ∧ ∀ v H', M v H' → Q v H'
theorem pcutE {e : Expr} {t : TE} (h : PE X e t) : PE X e (tCutE t) := ⟨fun pins s σ H Q I ⟨M, h1, h2⟩ => thn (h.run pins s σ H M I h1) fun u s2 ⟨v, H2, I2, r, m⟩ => ⟨v, H2, I2, r, h2 v H2 m⟩⟩
/-! ### repr and str of data -/
def rReprD (K : PySem.W.Frag) : List V → Hp → VK → Prop := fun xs H Q => ∃ (x : V) (d : PyData), xs = [x] ∧ Dp K H x d ∧ d.showable = true ∧ d.hasDict = false ∧ d.depth < 50 ∧ d.shown.length ≤ 1000000 ∧ Q (.str d.shown) H
theorem call_reprD (hg : X.A.guards = some []) (hu : X.A.units + 64 < cLine) : CallR X (.builtin "repr") (rReprD X.K) := by
  intro pins s σ H xs us Q I r h
  obtain ⟨x, d, rfl, hd, sh, nd, dp, sz, q⟩ := h
  obtain ⟨u, rfl, rx⟩ := vals1 r
  have szL : d.shown.length ≤ sizeLine := Nat.le_trans sz (by rw [sizeLine_eq]; decide)
  have fin : ∀ (h' : Heap) (tk : Nat), (∀ b o, s.heap.get? b = some o → h'.get? b = some o) → ∀ t, EP X pins σ Q (.str d.shown t) { s with heap := h', toks := tk } := fun h' tk hk t =>
    ⟨.str d.shown, H, I.kept hk, ⟨t, rfl⟩, q⟩
  obtain ⟨as, rd⟩ := Dp.reads I d x u hd rx
  have noD : d.hasDict = true → sysModules ∉ as := fun e => by
    rw [nd] at e
    cases e
  cases rd with
  | none => exact PySem.P.repr_of_none (fin _ _ (fun _ _ e => e) _)
  | bool b => exact PySem.P.repr_of_bool (fin _ _ (fun _ _ e => e) _)
  | int i t => exact PySem.P.repr_of_int (of_decide_eq_true (show decide (i.natAbs.log2 < 1920) = true from sh)) (fin _ _ (fun _ _ e => e) _)
  | str z t => exact PySem.P.repr_of_str (fin _ _ (fun _ _ e => e) _) szL
  | list a1 a2 a3 a4 => exact repr_of_reads' (.list a1 a2 a3 a4) sh noD hg (by omega) (fun _ _ e => e) (fun h' t tk hk => fin h' tk hk t) szL
  | tuple a1 a2 a3 a4 => exact repr_of_reads' (.tuple a1 a2 a3 a4) sh noD hg (by omega) (fun _ _ e => e) (fun h' t tk hk => fin h' tk hk t) szL
  | dict _ _ _ _ _ => cases nd
end
/-! ### loops and comprehensions over anything that goes n turns -/
section
variable {J : It} {n : Nat} {g : TG} {tt : TT} {te : TE} {tb : TS} {vs : List Nat} {σ : L2.St} {H H1 : Hp} {Dl : Addr} {Qd : Hp → Prop} {D : Ends}
theorem lc_by (Pv : Nat → Hp → Prop) (h0 : Pv 0 (upd H1 Dl (.lst []))) (hgo : ∀ i H, i < n → Pv i H → J.go i H) (hst : ∀ H, Pv n H → J.stop n H)
    (hs : ∀ i H x H', i < n → Pv i H → J.yld i H x H' → g x (wipe σ vs) H' fun σ2 H2 => wipe σ2 vs = wipe σ vs ∧ tt σ2 H2 fun b H3 => if b = true then te σ2 H3 fun y H4 => ∃ acc, H4 Dl = some (.lst acc) ∧ acc.length < sizeLine ∧ Pv (i + 1) (upd H4 Dl (.lst (acc ++ [y]))) else Pv (i + 1) H3)
    (hd : ∀ H, Pv n H → Qd H) : ∃ W : Nat → Nat → Hp → Prop, (∃ m, W 0 m (upd H1 Dl (.lst []))) ∧ ∀ i m H, W i m H → (J.stop i H ∧ Qd H) ∨ (J.go i H ∧ ∃ Nx : Hp → Prop, (∀ H', Nx H' → ∃ m', m' < m ∧ W (i + 1) m' H') ∧
      ∀ x H', J.yld i H x H' → g x (wipe σ vs) H' fun σ2 H2 => wipe σ2 vs = wipe σ vs ∧ tt σ2 H2 fun b H3 => if b = true then te σ2 H3 fun y H4 => ∃ acc, H4 Dl = some (.lst acc) ∧ acc.length < sizeLine ∧ Nx (upd H4 Dl (.lst (acc ++ [y]))) else Nx H3) := by
  refine ⟨fun i m H => m = n - i ∧ i ≤ n ∧ Pv i H, ⟨n, by omega, Nat.zero_le _, h0⟩, fun i m H ⟨hm, hi, pv⟩ => ?_⟩
  by_cases lt : i < n
  · exact .inr ⟨hgo i H lt pv, Pv (i + 1), fun H' z => ⟨n - (i + 1), by omega, rfl, lt, z⟩, fun x H' y => hs i H x H' lt pv y⟩
  · have e : i = n := by omega
    subst e
    exact .inl ⟨hst H pv, hd H pv⟩
theorem for_by (Pv : Nat → L2.St → Hp → Prop) (h0 : Pv 0 σ H) (hgo : ∀ i σ H, i < n → Pv i σ H → J.go i H) (hst : ∀ σ H, Pv n σ H → J.stop n H)
    (hs : ∀ i σ H x H', i < n → Pv i σ H → J.yld i H x H' → g x σ H' fun σ2 H2 => tb { D with nx := Pv (i + 1), ct := Pv (i + 1), bk := D.nx } σ2 H2) (hd : ∀ σ H, Pv n σ H → D.nx σ H) :
    ∃ W : Nat → Nat → L2.St → Hp → Prop, (∃ m, W 0 m σ H) ∧ ∀ i m σ H, W i m σ H → (J.stop i H ∧ D.nx σ H) ∨ (J.go i H ∧ ∃ N : L2.St → Hp → Prop, (∀ σ' H', N σ' H' → ∃ m', m' < m ∧ W (i + 1) m' σ' H') ∧
      ∀ x H', J.yld i H x H' → g x σ H' fun σ2 H2 => tb { D with nx := N, ct := N, bk := D.nx } σ2 H2) := by
  refine ⟨fun i m σ H => m = n - i ∧ i ≤ n ∧ Pv i σ H, ⟨n, by omega, Nat.zero_le _, h0⟩, fun i m σ H ⟨hm, hi, pv⟩ => ?_⟩
  by_cases lt : i < n
  · exact .inr ⟨hgo i σ H lt pv, Pv (i + 1), fun σ' H' z => ⟨n - (i + 1), by omega, rfl, lt, z⟩, fun x H' y => hs i σ H x H' lt pv y⟩
  · have e : i = n := by omega
    subst e
    exact .inl ⟨hst σ H pv, hd σ H pv⟩
end
/-! ### promises kept where no repr is under way -/
structure FnG (P : Program) (w : World) (K : PySem.W.Frag) (mg : Str → Option Value) (base : Heap) (k : Nat) (f : Addr) (fd : FuncData) (ps : List Str) (sp : Sp) : Prop where
  lenG : ∀ vs H Q E, sp vs H Q E → vs.length = ps.length
  runG : ∀ (A : Around) (out : List Env) (s : Shared) (H : Hp) (ar : Args) (us : List Value) (vs : List V) (Q : VK) (E : XK), A.guards = some [] → Room k A → Env0 P w K mg base A out s H →
    BindsTo s fd ar (ps.zip us) → Vals vs us → sp vs H Q E → codeAny (model P w) A (.call (.ref f) ar) (CR CX0 out P w H s Q E) s
section
variable {P : Program} {w : World} {K : PySem.W.Frag} {mg : Str → Option Value} {base : Heap} {k : Nat} {f : Addr} {fd : FuncData} {ps : List Str} {sp : Sp}
theorem FnG.of (F : FnOk P w K mg base CX0 k f fd ps sp) : FnG P w K mg base k f fd ps sp := ⟨F.len, fun A o s H ar us vs Q E _ => F.run A o s H ar us vs Q E⟩
/-- the law's def at its one caller -/
theorem law_end {l : PySem.W.OpenLaw} {k : Nat} {q : Program} {loose : List Str} {XP : (Str → Option Value) → Heap → Prop} {YP : World → Heap → Prop} {d : DefRec} {x : Str} (hn : l.most = some 63) (hdf : d.params.defaults = []) (hr : Room k callerA)
    (F : ∀ (w : World) (mg : Str → Option Value) (fa : Addr) (h : Heap), YP w h → h.Ns mainGlobals mg → mg d.name = some (.ref fa) →
      ∃ (K : PySem.W.Frag) (fd : FuncData) (sp : Sp), K.In h ∧ (∀ (s : Shared) (u : Value), BindsTo s fd ⟨[u], []⟩ [(x, u)]) ∧
        (∀ (H : Hp) (a : Addr) (ns : List Int), ns.length ≤ 63 → (∀ z ∈ ns, Builtin.Int.intBits z ≤ 1048576) → SqL K H a (ns.map V.int) → sp [.ref a] H (fun v _ => v = .bl true) fun _ _ _ => False) ∧
        ∀ base : Heap, K.In base → base.Ns mainGlobals mg → FnG l.prog w K mg base k fa fd [x] sp) : PySem.W.WalkO q loose XP YP l.row.toRowW d [] (fun f vs => PySem.call f vs) := by
  refine Att.attach_callB hn hdf fun w s₀ s₁ mg mb fa o pm cd doc a vs ns G Y ho hd hcd hmg hobj hints hlen hbits hg => ?_
  obtain ⟨K, fd, sp, KX, hbind, hsp, hF⟩ := F w mg fa _ Y G.T.g hmg
  have rv := vals_ints hints
  have lenV := hints.length
  have lenS : ns.length ≤ sizeLine := Nat.le_trans hlen (by rw [sizeLine_eq]; decide)
  have main : ∀ H : Hp, Only H → SqL K H a (ns.map V.int) → HOk l.prog w H s₁.heap → (∀ b, H b ≠ none → b = a) → (H a ≠ none → K.lookup a = none) →
      codeAny (model l.prog w) callerA (.call (.ref fa) ⟨[.ref a], []⟩) (fun r s' => r = .ok (.ret (.bool true)) ∧ OldK s₁.heap s'.heap ∧ s'.os = s₁.os ∧ AllBare s'.gens) s₁ := by
    intro H onl sq hok only look
    have free : ∀ b, b ≠ a → H b = none := fun b nb => by
      cases z : H b with
      | none => rfl
      | some u => exact absurd (only b (by rw [z]; exact fun y => nomatch y)) nb
    have ns1 : ∀ {b : Addr} {m : Str → Option Value}, s₁.heap.Ns b m → (hidT s₁.heap H).Ns b m := fun {b m} ⟨ob, es, ep, e, dd, r⟩ =>
      ⟨ob, es, ep, hidT_get e (free b fun z => by
        subst z
        rw [hobj] at e
        cases e
        cases dd), dd, r⟩
    have Kb : K.In (hidT s₁.heap H) := fun b ob e => hidT_get (KX b ob e) (by
      cases z : H b with
      | none => rfl
      | some u =>
        have eb := only b (by rw [z]; exact fun y => nomatch y)
        subst eb
        have e3 := (look (by rw [z]; exact fun y => nomatch y)).symm.trans e
        cases e3)
    have md : Mod K mg (hidT s₁.heap H) := ⟨Kb, ns1 G.T.g, ⟨mb, ns1 G.T.b, G.T.builtins⟩, let ⟨mc, l1, l2⟩ := G.T.nolimit; ⟨mc, ns1 l1, l2⟩⟩
    have en : Env0 l.prog w K mg (hidT s₁.heap H) callerA [] s₁ H := ⟨rfl, md, fun b o e => of_hidT e, Nat.le_of_eq (hidT_size _ _), trivial, fun b hb => (List.not_mem_nil hb).elim, hok, .of_eq hg⟩
    refine codeAny_mono ((hF _ Kb (ns1 G.T.g)).runG callerA [] s₁ H ⟨[.ref a], []⟩ [.ref a] [.ref a] _ _ rfl hr en (hbind s₁ (.ref a)) (.cons rfl .nil) (hsp H a ns hlen hbits sq)) fun r s2 z => ?_
    cases r with
    | error e => exact z.elim
    | ok fl =>
      cases fl with
      | ret u =>
        obtain ⟨v, H2, os2, bare2, un2, hok2, r2, q2⟩ := z
        obtain rfl : v = .bl true := q2
        obtain rfl : u = Value.bool true := r2
        refine ⟨rfl, OldK.of_keep fun b o e => ?_, os2, bare2⟩
        cases hb : H b with
        | none => exact un2.keep b o e hb (fun y => (List.not_mem_nil y).elim) (fun y => (List.not_mem_nil y).elim)
        | some u =>
          rcases onl b with y | ⟨ob, xs, y⟩
          · rw [hb] at y
            cases y
          · obtain ⟨e1, _⟩ := hok b _ y
            obtain ⟨e2, _⟩ := hok2 b _ (un2.frzs b ob _ y)
            rw [e] at e1
            cases e1
            exact e2
      | next => exact z.elim
      | brk => exact z.elim
      | cont => exact z.elim
  cases hk : K.lookup a with
  | some ob =>
    have e := KX a ob hk
    rw [hobj] at e
    cases e
    exact main (fun _ => none) (fun _ => .inl rfl) (.inr ⟨_, vs.toArray, _, hk, rfl, rfl, rfl, by rw [List.size_toArray, lenV]; exact lenS, by simpa using rv⟩) (fun b u z => nomatch z) (fun b z => (z rfl).elim) fun z => (z rfl).elim
  | none =>
    refine main (fun b => if b = a then some (.frz { cls := .type "list", data := .seq vs.toArray } (.lst (ns.map V.int))) else none) (fun b => ?_) (.inl (.inr ⟨_, if_pos rfl⟩)) (fun b u z => ?_) (fun b z => Classical.byContradiction fun nb => z (if_neg nb)) fun _ => hk
    · by_cases hb : b = a
      · exact .inr ⟨_, _, if_pos hb⟩
      · exact .inl (if_neg hb)
    · by_cases hb : b = a
      · subst hb
        have y := (if_pos rfl).symm.trans z
        cases y
        exact ⟨hobj, by rw [List.length_map]; exact lenS, vs, _, rv, hobj⟩
      · exact nomatch (if_neg hb).symm.trans z
end
end KP

namespace KP
open PySem PySem.Spec PyProof.Rows L2
/-! ### the head's facts: any look that answers true or false, and defs at any address -/
abbrev Fct := PySem.W.Frag → Bool
def obsM (ex : List Fct) (fn : List He5.DefA) (K : PySem.W.Frag) : He.AlD := (ex.all (fun f => f K) && fn.all (fun d => d.ok K), fn.map fun d => He5.fnA K (d.at_ K))
def valM (fn : List He5.DefA) : He.AlD := (true, fn.map He5.DefA.val)
def SaysM (ex : List Fct) (fn : List He5.DefA) (K : PySem.W.Frag) : Prop := obsM ex fn K = valM fn
section
variable {ex : List Fct} {fn : List He5.DefA} {K : PySem.W.Frag}
theorem SaysM.fact (c : SaysM ex fn K) (i : Nat) {f : Fct} (h : ex[i]? = some f := by rfl) : f K = true :=
  List.all_eq_true.mp (He.ba (congrArg (fun z : He.AlD => z.1) c)).1 f (List.mem_of_getElem? h)
theorem SaysM.fn_ (c : SaysM ex fn K) (i : Nat) {d : He5.DefA} (h : fn[i]? = some d := by rfl) : ∃ fd, FunD K d.name d.qual d.params d.body d.scope (d.dvs K) (d.kws K) (d.at_ K) fd := by
  have e1 : fn.map (fun d => He5.fnA K (d.at_ K)) = fn.map He5.DefA.val := congrArg (fun z : He.AlD => z.2) c
  have e2 := congrArg (fun l => l[i]?) e1
  simp only [List.getElem?_map, h, Option.map_some, Option.some.injEq] at e2
  exact He5.DefA.funD e2 (List.all_eq_true.mp (He.ba (congrArg (fun z : He.AlD => z.1) c)).2 d (List.mem_of_getElem? h))
end
/-! ### a property's getter -/
def pgA (K : PySem.W.Frag) (C : Addr) (f : Str) : Addr := match PySem.W.recIn K (He.ma K C f) "property" with
  | some (.ref g :: _) => g
  | _ => 0
def propB (C f : Str) : Fct := fun K => He.eqO (PySem.W.findIn K (.ref (He.ga K C)) f) (some (some (.ref (He.ma K (He.ga K C) f)))) &&
  (He.eqO (PySem.W.specialIn K (.ref (He.ma K (He.ga K C) f)) "__get__") (some (some (.builtin "property.__get__"))) && (decide (PySem.W.takesIn K (.ref (He.ma K (He.ga K C) f)) = some true) &&
    (match PySem.W.recIn K (He.ma K (He.ga K C) f) "property" with
      | some (.ref _ :: _) => true
      | _ => false)))
theorem propB_ok {K : PySem.W.Frag} {C f : Str} (h : propB C f K = true) : PropOf K (He.ga K C) f (He.ma K (He.ga K C) f) (pgA K (He.ga K C) f) := by
  obtain ⟨h1, h⟩ := He.ba h
  obtain ⟨h2, h⟩ := He.ba h
  obtain ⟨h3, h4⟩ := He.ba h
  refine ⟨He.eqO_ok h1, He.eqO_ok h2, of_decide_eq_true h3, ?_⟩
  unfold pgA
  cases e : PySem.W.recIn K (He.ma K (He.ga K C) f) "property" with
  | none =>
    rw [e] at h4
    cases h4
  | some l =>
    rw [e] at h4
    cases l with
    | nil => cases h4
    | cons v r =>
      cases v with
      | ref g => exact ⟨r, rfl⟩
      | _ => cases h4
/-- a def, as its callers want it -/
structure Cal (P : Program) (w : World) (K : PySem.W.Frag) (mg : Str → Option Value) (base : Heap) (k : Nat) (f : Addr) (fd : FuncData) (ps : List Str) (sp : Sp) : Prop where
  F : FnOk P w K mg base CX0 k f fd ps sp
  kp : PySem.W.keepIn K (.ref f) = true
  b : Binds K fd ps []
/-- the same for a call that leaves out defaults -/
structure CalD (P : Program) (w : World) (K : PySem.W.Frag) (mg : Str → Option Value) (base : Heap) (k : Nat) (f : Addr) (fd : FuncData) (ps : List Str) (sp : Sp) (dvs : List V) (ds : List Value) : Prop where
  F : FnOk P w K mg base CX0 k f fd ps sp
  kp : PySem.W.keepIn K (.ref f) = true
  bd : Binds K fd ps ds
  vd : Vals dvs ds
/-- the class constant's fact -/
theorem con_of {K : PySem.W.Frag} {C f : Str} {i : Int} (h : He.conB K C f (.int i) = true) (hc : PySem.W.copiedNames.contains f = false := by decide) : ∃ u, Con K (He.ga K C) f (.int i) u := He.conB_ok h hc
/-! ### heaps: all but the pen is kept -/
structure Ext (p : Addr) (H H' : Hp) : Prop where
  was : ∃ kvs, H p = some (.dK kvs)
  is_ : ∃ kvs, H' p = some (.dK kvs)
  keep : ∀ a o, a ≠ p → H a = some o → H' a = some o
section
variable {p q a : Addr} {H H1 H2 H' : Hp} {K : PySem.W.Frag} {xs : List V} {o : HO}
theorem Ext.trans (a : Ext p H H1) (b : Ext p H1 H2) : Ext p H H2 := ⟨a.was, b.is_, fun x o n h => b.keep x o n (a.keep x o n h)⟩
theorem Ext.refl (h : ∃ kvs, H p = some (.dK kvs)) : Ext p H H := ⟨h, h, fun _ _ _ h => h⟩
theorem Ext.at (e : Ext p H H') (h : H a = some o) (n : ∀ kvs, o ≠ .dK kvs) : H' a = some o := by
  obtain ⟨kvs, hp⟩ := e.was
  exact e.keep a o (ne_of h hp (n kvs)) h
theorem Ext.l (e : Ext p H H') (h : SqL K H a xs) : SqL K H' a xs := by
  rcases h with (h | ⟨o, h⟩) | h
  · exact .inl (.inl (e.at h fun _ z => nomatch z))
  · exact .inl (.inr ⟨o, e.at h fun _ z => nomatch z⟩)
  · exact .inr h
theorem Ext.t (e : Ext p H H') (h : SqT K H a xs) : SqT K H' a xs := by
  rcases h with (h | ⟨o, h⟩) | h
  · exact .inl (.inl (e.at h fun _ z => nomatch z))
  · exact .inl (.inr ⟨o, e.at h fun _ z => nomatch z⟩)
  · exact .inr h
theorem Ext.ins {C dx : Addr} {fs : List (Str × V)} (e : Ext p H H') (h : H a = some (.ins C dx fs)) : H' a = some (.ins C dx fs) := e.at h fun _ z => nomatch z
theorem Ext.new (w : ∃ kvs, H p = some (.dK kvs)) (h : H q = none) : Ext p H (upd H q o) := by
  obtain ⟨kvs, hp⟩ := w
  have n : p ≠ q := ne_of_none hp h
  exact ⟨⟨kvs, hp⟩, ⟨kvs, by rw [upd_ne n]; exact hp⟩, fun b u _ hb => by rw [upd_ne (ne_of_none hb h)]; exact hb⟩
theorem Ext.put {kvs kvs' : List (Key × V)} (h : H p = some (.dK kvs)) : Ext p H (upd H p (.dK kvs')) := ⟨⟨_, h⟩, ⟨_, upd_same⟩, fun b u n hb => by rw [upd_ne n]; exact hb⟩
theorem Ext.back (e : Ext p H H') (h : H' q = none) : H q = none := by
  cases z : H q with
  | none => rfl
  | some u =>
    by_cases n : q = p
    · obtain ⟨kvs, hp⟩ := e.is_
      rw [n, hp] at h
      cases h
    · rw [e.keep q u n z] at h
      cases h
/-- an object that H does not know may change -/
theorem Ext.mut (e : Ext p H H') (h : H q = none) : Ext p H (upd H' q o) := by
  obtain ⟨kvs, hp⟩ := e.was
  obtain ⟨kvs', hp'⟩ := e.is_
  have n : p ≠ q := ne_of_none hp h
  exact ⟨⟨kvs, hp⟩, ⟨kvs', by rw [upd_ne n]; exact hp'⟩, fun b u nb hb => by rw [upd_ne (ne_of_none hb h)]; exact e.keep b u nb hb⟩
theorem Ext.same (w : ∃ kvs, H p = some (.dK kvs)) (s : Same H H') : Ext p H H' := by
  obtain ⟨kvs, hp⟩ := w
  exact ⟨⟨kvs, hp⟩, ⟨kvs, s _ _ hp⟩, fun b u _ hb => s b u hb⟩
theorem Same.new (h : H q = none) : Same H (upd H q o) := fun b u hb => by
  rw [upd_ne (ne_of_none hb h)]
  exact hb
theorem Same.mut (e : Same H H') (h : H q = none) : Same H (upd H' q o) := fun b u hb => by
  rw [upd_ne (ne_of_none hb h)]
  exact e b u hb
theorem Same.tup (e : Same H H') (h : SqT K H a xs) : SqT K H' a xs := by
  rcases h with (h | ⟨o, h⟩) | h
  · exact .inl (.inl (e _ _ h))
  · exact .inl (.inr ⟨o, e _ _ h⟩)
  · exact .inr h
end
/-! ### the pen -/
def penO (c : Addr) (b r : Int) : HO := .dK [(.inr "cells", .ref c), (.inr "begun", .int b), (.inr "rest", .int r)]
/-- a pen: where it stands, where its cells stand, what they are -/
structure Pid where
  a : Addr
  c : Addr
  cs : List Int
def Pen (K : PySem.W.Frag) (H : Hp) (p : Pid) (b : Int) : Prop := ∃ r : Int, H p.a = some (penO p.c b r) ∧ SqL K H p.c (p.cs.map V.int) ∧ p.cs.length ≤ 63 ∧ 0 ≤ b ∧ 0 ≤ r
section
variable {K : PySem.W.Frag} {H H' H1 : Hp} {p c : Addr} {b b1 r : Int} {π : Pid}
theorem Pen.is_ (h : Pen K H π b) : ∃ kvs, H π.a = some (.dK kvs) := let ⟨_, e, _⟩ := h; ⟨_, e⟩
theorem Pen.nn (h : Pen K H π b) : 0 ≤ b := let ⟨_, _, _, _, e, _⟩ := h; e
/-- what keeps all tracked things keeps the pen -/
theorem Pen.same (h : Pen K H π b) (s : Same H H') : Pen K H' π b := by
  obtain ⟨r, e, l, x⟩ := h
  exact ⟨r, s _ _ e, s.seq l, x⟩
theorem Pen.new {q : Addr} {o : HO} (h : Pen K H π b) (n : H q = none) : Pen K (upd H q o) π b := h.same (Same.new n)
/-- a thing that came behind an older state of the pen may change -/
theorem Pen.mut {q : Addr} {o : HO} (h : Pen K H π b) (h1 : Pen K H1 π b1) (n : H1 q = none) : Pen K (upd H q o) π b := by
  obtain ⟨r, e, l, x⟩ := h
  obtain ⟨r1, e1, l1, x1⟩ := h1
  refine ⟨r, by rw [upd_ne (ne_of_none e1 n)]; exact e, ?_, x⟩
  rcases l1 with (l1 | ⟨o1, l1⟩) | l1
  · have nq := ne_of_none l1 n
    rcases l with (l | ⟨o2, l⟩) | l
    · exact .inl (.inl (by rw [upd_ne nq]; exact l))
    · exact .inl (.inr ⟨o2, by rw [upd_ne nq]; exact l⟩)
    · exact .inr l
  · have nq := ne_of_none l1 n
    rcases l with (l | ⟨o2, l⟩) | l
    · exact .inl (.inl (by rw [upd_ne nq]; exact l))
    · exact .inl (.inr ⟨o2, by rw [upd_ne nq]; exact l⟩)
    · exact .inr l
  · exact .inr l1
theorem pen_cells (h : H p = some (penO c b r)) : DGet H p (.str "cells") (some (.ref c)) := DGet.k (k := Sum.inr "cells") h
theorem pen_begun (h : H p = some (penO c b r)) : DGet H p (.str "begun") (some (.int b)) := DGet.k (k := Sum.inr "begun") h
theorem pen_rest (h : H p = some (penO c b r)) : DGet H p (.str "rest") (some (.int r)) := DGet.k (k := Sum.inr "rest") h
theorem put_begun (h : H p = some (penO c b r)) (x : Int) : DPut H p (.str "begun") (.int x) (upd H p (penO c x r)) := DPut.k (k := Sum.inr "begun") h (show 3 < sizeLine by rw [sizeLine_eq]; decide)
theorem put_rest (h : H p = some (penO c b r)) (x : Int) : DPut H p (.str "rest") (.int x) (upd H p (penO c b x)) := DPut.k (k := Sum.inr "rest") h (show 3 < sizeLine by rw [sizeLine_eq]; decide)
end
end KP

namespace KP
open PySem PySem.Spec PyProof.Rows L2
/-! ### constants read off a class -/
structure IsC (K : PySem.W.Frag) (C : Addr) : Prop where
  ha : PySem.W.findIn K (.ref C) "__class__" = some (some (.builtin "object.__class__"))
  hn : PySem.W.specialIn K (.builtin "object.__class__") "__get__" = some (some (.builtin "getset_descriptor.__get__"))
  htk : PySem.W.takesIn K (.builtin "object.__class__") = some true
  hm : PySem.W.mroIn K C (.type "object") = some true
  ic : ((PySem.W.clsIn K C).isSome && PySem.W.typeIn K (.ref C) == some (.type "type")) = true
def isCB (C : Str) : Fct := fun K => He.eqO (PySem.W.findIn K (.ref (He.ga K C)) "__class__") (some (some (.builtin "object.__class__"))) && (He.eqO (PySem.W.specialIn K (.builtin "object.__class__") "__get__") (some (some (.builtin "getset_descriptor.__get__"))) &&
  (PySem.W.takesIn K (.builtin "object.__class__") == some true && (PySem.W.mroIn K (He.ga K C) (.type "object") == some true && ((PySem.W.clsIn K (He.ga K C)).isSome && PySem.W.typeIn K (.ref (He.ga K C)) == some (.type "type")))))
theorem isCB_ok {K : PySem.W.Frag} {C : Str} (h : isCB C K = true) : IsC K (He.ga K C) := by
  obtain ⟨h1, h⟩ := He.ba h
  obtain ⟨h2, h⟩ := He.ba h
  obtain ⟨h3, h⟩ := He.ba h
  obtain ⟨h4, h5⟩ := He.ba h
  exact ⟨He.eqO_ok h1, He.eqO_ok h2, beq_iff_eq.mp h3, beq_iff_eq.mp h4, h5⟩
def subB (c2 c1 : Str) : Fct := fun K => PySem.W.subIn K (.ref (He.ga K c2)) (.ref (He.ga K c1)) == some false && !(Value.ref (He.ga K c1) == Value.ref (He.ga K c2))
theorem subB_ok {K : PySem.W.Frag} {c2 c1 : Str} (h : subB c2 c1 K = true) : PySem.W.subIn K (.ref (He.ga K c2)) (.ref (He.ga K c1)) = some false ∧ (Value.ref (He.ga K c1) == Value.ref (He.ga K c2)) = false := by
  obtain ⟨h1, h2⟩ := He.ba h
  exact ⟨beq_iff_eq.mp h1, by simpa using h2⟩
end KP

/-! The program's own errors: made by super().__init__(v); self.f = v. The model's side. -/
namespace ErM
open PySem PySem.W PySem.Calls PySem.HandSPX
open PyProof.Rows hiding wpAt wpAt_bind wpAt_stack
/-- what is known of the built-in class B, from which an own error comes; its __new__ is Bn's -/
structure EBase (B Bn newId initId : String) (tl : List Value) : Prop where
  new : ∃ inI bmB, ExcBaseFacts Bn newId inI bmB
  initPlain : plainId initId = true
  initEntry : entryFor table initId = some Builtin.«BaseException.__init__»
  initKind : builtinKind initId = some .slot
  initRow : Manifest.signature? initId = some ⟨.positional, "*", B, .self, [⟨"args", .varPos, false⟩]⟩
  star : (B != "*") = true
  kx : KxsFacts B initId
  along : ∀ K, alongIn K "__init__" tl = some (some (.builtin initId))
  hBn : tl.contains (.type Bn) = true
  hB : tl.contains (.type B) = true
  hA : tl.contains (.type "AttributeError") = false
  hN : tl.contains (.type "NameError") = false
  hO : tl.contains (.type "object") = true
  pass : ∀ self, refuseLoop self "__setattr__" tl = pure ()
abbrev tlV : List Value := [.type "ValueError", .type "Exception", .type "BaseException", .type "object"]
abbrev tlO : List Value := [.type "OverflowError", .type "ArithmeticError", .type "Exception", .type "BaseException", .type "object"]
abbrev tlK : List Value := [.type "KeyError", .type "LookupError", .type "Exception", .type "BaseException", .type "object"]
theorem kxs_KeyE : KxsFacts "KeyError" "KeyError.__init__" := by
  constructor
  · show builtinType _ = _
    rw [builtinType_eq_fast]
    kernel_rfl
  · first | kernel_rfl | rfl
theorem ebV : EBase "ValueError" "ValueError" "ValueError.__new__" "ValueError.__init__" tlV :=
  ⟨⟨_, _, F.excBase_ValueError⟩, F.excBase_ValueError.init.plain, F.excBase_ValueError.initEntry, F.excBase_ValueError.initKind, F.excBase_ValueError.initRow, by decide +kernel, kxs_ValueError, fun K => by kernel_rfl, by decide +kernel, by decide +kernel, by decide +kernel, by decide +kernel, by decide +kernel, fun self => by kernel_rfl⟩
theorem ebO : EBase "OverflowError" "OverflowError" "OverflowError.__new__" "OverflowError.__init__" tlO :=
  ⟨⟨_, _, F.excBase_OverflowError⟩, F.excBase_OverflowError.init.plain, F.excBase_OverflowError.initEntry, F.excBase_OverflowError.initKind, F.excBase_OverflowError.initRow, by decide +kernel, kxs_OverflowError, fun K => by kernel_rfl, by decide +kernel, by decide +kernel, by decide +kernel, by decide +kernel, by decide +kernel, fun self => by kernel_rfl⟩
theorem ebK : EBase "KeyError" "LookupError" "LookupError.__new__" "KeyError.__init__" tlK :=
  ⟨⟨_, _, F.excBase_LookupError⟩, PyProof.Rows.excClass_KeyError.init.plain, PyProof.Rows.excClass_KeyError.initEntry, PyProof.Rows.excClass_KeyError.initKind, by kernel_rfl, by decide +kernel, kxs_KeyE, fun K => by kernel_rfl, by decide +kernel, by decide +kernel, by decide +kernel, by decide +kernel, by decide +kernel, fun self => by kernel_rfl⟩
section
variable {prog : Program} {w : World} {A : Around} {E : Value → Shared → Prop} {R : Result → Shared → Prop} {h : Heap} {g : Array GenState} {d : Drawn} {t : Nat} {os : OsState}
variable {nm q : Str} {C N : Addr} {bs tl bmB : List Value} {hdct : Bool} {sn : List Str} {sub : List Value} {ab : Bool} {col : Option Bool} {dd : Option Addr} {k0 k1 k2 k3 k5 : Option Value} {B Bn newId initId inI : String}
theorem chkNew (F : ExcBaseFacts Bn newId inI bmB) (hB : tl.contains (.type Bn) = true) {M : Model} {rest : List Value} {Q : Unit → Shared → Prop}
    (hC : h.get? C = some (excClassObj nm q C N bs tl hdct sn sub ab col dd k0 k1 k2 k3 k5 newId)) (hq : Q () ⟨h, g, d, t, os⟩) : wpAny M A (checkBuiltinCall newId ⟨.ref C :: rest, []⟩) Q E ⟨h, g, d, t, os⟩ := by
  have c1 : (Value.ref C :: tl).contains (.type Bn) = true := by rw [List.contains_cons, hB, Bool.or_true]
  have c2 := F.noStar
  simp only [checkBuiltinCall, F.newKind, F.newSplit, F.newRow]
  repeat' (first | (refine wpAny_isSubtype_exc hC ?_; rw [c1]) | refine wpAny_loadPart_at hC ?_ | refine wpAny_madeBy_exc hC ?_ | refine wpAny_staticBase_exc hC ?_ | simp only [Bool.false_eq_true, if_false, bne_self_eq_false] | wp_step)
  exact hq
theorem newE (F : ExcBaseFacts Bn newId inI bmB) (hB : tl.contains (.type Bn) = true) (hA : tl.contains (.type "AttributeError") = false) (hN : tl.contains (.type "NameError") = false) {rest : List Value} (hz : rest.length ≤ sizeLine)
    (hC : h.get? C = some (excClassObj nm q C N bs tl hdct sn sub ab col dd k0 k1 k2 k3 k5 newId))
    (hq : R (.ok (.ret (.ref (h.objs.size + 1)))) ⟨(h.push (kdv_tup rest)).push (excO C h.objs.size), g, d, t, os⟩) : codeAny (model prog w) A (.builtin newId ⟨.ref C :: rest, []⟩) R ⟨h, g, d, t, os⟩ := by
  have c0 := F.ends
  have c1 : (Value.ref C :: tl).contains (.type Bn) = true := by rw [List.contains_cons, hB, Bool.or_true]
  have c2 : (Value.ref C :: tl).contains (.type "AttributeError") = false := by rw [List.contains_cons, hA]; rfl
  have c3 : (Value.ref C :: tl).contains (.type "NameError") = false := by rw [List.contains_cons, hN]; rfl
  refine codeAny_builtinAt F.entry ?_
  unfold Builtin.«BaseException.__new__»
  refine wpAt_bind ?_
  show wpAt _ _ _ (stack >>= _) _ _ _
  refine wpAt_bind (wpAt_stack fun _ _ => wpAt_of_wpAny ?_)
  wp_walk
  refine wpAt_of_wpAny ?_
  rw [F.owner]
  repeat' (first | (with_reducible refine wpAny_isSubtype_exc hC ?_; first | rw [c1] | rw [c2] | rw [c3]) | with_reducible refine wpAny_loadPart_at hC ?_ | with_reducible refine wpAny_madeHere_exc F.canon hC ?_ | wp_step)
  show R _ _
  rw [Heap.size_push]
  exact hq
theorem typE (F : ExcBaseFacts Bn newId inI bmB) (hB : tl.contains (.type Bn) = true) (hA : tl.contains (.type "AttributeError") = false) (hN : tl.contains (.type "NameError") = false) {rest : List Value} (hz : rest.length ≤ sizeLine) {fI : Addr} {Q : Fin → Shared → Prop}
    (hC : h.get? C = some (excClassObj nm q C N bs tl hdct sn sub ab col dd k0 k1 k2 k3 k5 newId))
    (hi : W.Looks (model prog w) h (typeLookup (.ref C) "__init__") (some (.ref fI))) (hb : ∀ self, W.Looks (model prog w) h (bindSpecial (.ref fI) self) (.ref fI, [self]))
    (hq : codeAny (model prog w) A (.call (.ref fI) ⟨.ref (h.objs.size + 1) :: rest, []⟩) (fun r s' => match r with | .ok (.ret v) => v = .none ∧ Q (.done (.ret (.ref (h.objs.size + 1)))) s' | .ok _ => False | .error e => E e s')
      ⟨(h.push (kdv_tup rest)).push (excO C h.objs.size), g, d, t, os⟩) : wpAny (model prog w) A (Builtin.«type.__call__» ⟨.ref C :: rest, []⟩) Q E ⟨h, g, d, t, os⟩ := by
  repeat' (first | with_reducible refine wpAny_madeBy_exc hC ?_ | with_reducible refine wpAny_loadPart_at hC ?_ | wp_step)
  refine codeAny_call_builtin_code (Code.quiet_builtin _ F.quiet) (chkNew F hB hC (newE F hB hA hN hz hC ?_))
  show wpAny _ _ _ _ _ _
  have up : ∀ b o, h.get? b = some o → ((h.push (kdv_tup rest)).push (excO C h.objs.size)).get? b = some o := fun b o e => Heap.get?_push_of_some _ (Heap.get?_push_of_some _ e)
  have hC1 := up _ _ hC
  have hx : ((h.push (kdv_tup rest)).push (excO C h.objs.size)).get? (h.objs.size + 1) = some (excO C h.objs.size) := by heap_get
  have cC : (Value.ref C :: tl).contains (.ref C) = true := by simp
  have i1 := hi.keeps up
  have b1 := (hb (.ref (h.objs.size + 1))).keeps up
  unfold isInstance
  repeat' (first | (with_reducible refine wpAny_isSubtype_exc hC1 ?_; rw [cC]) | with_reducible refine wpAny_loadPart_at hx ?_ | wp_step)
  show wpAny _ _ (typeLookup (.ref C) _) _ _ _
  refine i1.at (wpAny_holding (wpAny_bind (b1.at (wpAny_bind (wpAny_call (codeAny_mono hq fun r s' z => ?_))))))
  cases r with
  | error e => exact z
  | ok fl =>
    cases fl with
    | ret v =>
      obtain ⟨rfl, z⟩ := z
      first
        | exact wpAny_pure (wpAny_pure z)
        | (wp_walk; exact z)
    | _ => exact z.elim
theorem callE (F : ExcBaseFacts Bn newId inI bmB) (hB : tl.contains (.type Bn) = true) (hA : tl.contains (.type "AttributeError") = false) (hN : tl.contains (.type "NameError") = false) {rest : List Value} (hz : rest.length ≤ sizeLine) {fI : Addr}
    (hC : h.get? C = some (excClassObj nm q C N bs tl hdct sn sub ab col dd k0 k1 k2 k3 k5 newId))
    (hi : W.Looks (model prog w) h (typeLookup (.ref C) "__init__") (some (.ref fI))) (hb : ∀ self, W.Looks (model prog w) h (bindSpecial (.ref fI) self) (.ref fI, [self]))
    (hq : codeAny (model prog w) (A.under (.builtin "type.__call__" ⟨.ref C :: rest, []⟩)) (.call (.ref fI) ⟨.ref (h.objs.size + 1) :: rest, []⟩) (W.InitBack (h.objs.size + 1) R)
      ⟨(h.push (kdv_tup rest)).push (excO C h.objs.size), g, d, t, os⟩) : codeAny (model prog w) A (.call (.ref C) ⟨rest, []⟩) R ⟨h, g, d, t, os⟩ := by
  have f1 := tc_lookup
  have f2 := tc_bind (.ref C)
  have hT : (⟨h, g, d, t, os⟩ : Shared).TypeIs (.ref C) "type" := ⟨_, hC, rfl⟩
  refine codeAny_of_tree ?_
  show wpAny _ _ (callAny (.ref C) _) _ _ _
  repeat' (first | assumption | with_reducible refine wpAny_loadPart_at hC ?_ | wp_step)
  refine ⟨rfl, codeAny_call_builtin_at (Code.quiet_builtin _ (by decide +kernel)) entry_typeCall (wpAny_check_type_call_sub hC (typE F hB hA hN hz hC hi hb (codeAny_mono hq fun r s' z => ?_)))⟩
  cases r with
  | error e => exact z
  | ok fl => cases fl <;> exact z
end
/-! ### the bound built-in __init__ -/
theorem chkBound {M : Model} {e : Addr} {oe : Obj} {rest : List Value} {Q : Unit → Shared → Prop} {h : Heap} {g : Array GenState} {d : Drawn} {t : Nat} {os : OsState} {E : Value → Shared → Prop} {nm q : Str} {C N : Addr} {bs tl : List Value} {hdct : Bool} {sn : List Str} {sub : List Value} {ab : Bool} {col : Option Bool} {dd : Option Addr} {k0 k1 k2 k3 k5 : Option Value} {B Bn newId initId : String}
    (F : EBase B Bn newId initId tl) (hC : h.get? C = some (excClassObj nm q C N bs tl hdct sn sub ab col dd k0 k1 k2 k3 k5 newId)) (he : h.get? e = some oe) (hc : oe.cls = .ref C) (hq : Q () ⟨h, g, d, t, os⟩) : wpAny M A (checkBoundCall initId ⟨.ref e :: rest, []⟩) Q E ⟨h, g, d, t, os⟩ := by
  have c1 := F.star
  simp only [checkBoundCall, F.initKind, F.initRow]
  repeat' (first | with_reducible refine wpAny_loadPart_at hC ?_ | (with_reducible refine wpAny_loadPart_at he ?_; rw [hc]) | wp_step)
  refine wpAny_onRaise ?_
  have c2 : ∀ (a b : String) (n : Nat), Bind.check ⟨.positional, "*", B, .self, [⟨"args", .varPos, false⟩]⟩ a b n (List.map (fun x => x.fst) ({ pos := Value.ref e :: rest } : Args).kw) = pure () := fun a b n => check_star_args _ _ _ _ _ _
  rw [c2]
  exact wpAny_pure hq
theorem callBw {prog : Program} {w : World} {A : Around} {u e t0 : Addr} {rest : List Value} {Q : Value → Shared → Prop} {h : Heap} {g : Array GenState} {d : Drawn} {t : Nat} {os : OsState} {E : Value → Shared → Prop} {nm q : Str} {C N : Addr} {bs tl : List Value} {hdct : Bool} {sn : List Str} {sub : List Value} {ab : Bool} {col : Option Bool} {dd : Option Addr} {k0 k1 k2 k3 k5 : Option Value} {B Bn newId initId : String}
    (F : EBase B Bn newId initId tl) (hC : h.get? C = some (excClassObj nm q C N bs tl hdct sn sub ab col dd k0 k1 k2 k3 k5 newId)) (he : h.get? e = some (excO C t0)) (hu : h.get? u = some (kxs_mw initId e)) (hz : rest.length ≤ sizeLine)
    (hq : ∀ h' t1, (∀ b o, b ≠ e → h.get? b = some o → h'.get? b = some o) → h'.get? e = some (excO C t1) → Q .none ⟨h', g, d, t, os⟩) : wpAny (model prog w) A (call (.ref u) rest) Q E ⟨h, g, d, t, os⟩ := by
  refine wpAny_call (codeAny_of_tree ?_)
  show wpAny _ A.in1 (callAny (.ref u) ⟨rest, []⟩) _ _ _
  have c0 : (Value.type "method-wrapper" == Value.type "method" || Value.type "method-wrapper" == Value.type "builtin_function_or_method" || Value.type "method-wrapper" == Value.type "method-wrapper") = true := by decide
  simp only [callAny]
  refine wpAny_bind (wpAny_load hu ?_)
  simp only [kxs_mw, c0, if_true]
  refine W.KFB.if_so (by decide) (wpAny_bind (chkBound F hC he rfl (wpAny_bind (wpAny_pure (wpAny_pure ?_)))))
  refine ⟨plainId_quiet F.initPlain _, codeAny_builtin F.initEntry ?_⟩
  rw [Around.under_plainId F.initPlain _]
  wp_walk
  refine hq _ h.objs.size (fun b o hb ho => ?_) ?_
  · exact (Heap.get?_update_other _ _ (Ne.symm hb)).trans (Heap.get?_push_of_some _ ho)
  · exact (Heap.get?_update_self _ (Heap.get?_push_of_some _ he) rfl).trans rfl
/-! ### the first store -/
open Builtin Builtin.ObjectAttr in
theorem osaE {prog : Program} {w : World} {A : Around} {R : Result → Shared → Prop} {hp : Heap} {g : Array GenState} {d : Drawn} {t : Nat} {os : OsState} {K : W.Frag} {name : Str} {tk : Tok} {v : Value} {x C : Addr} {fv : Array Value} {cd : ClassData} {tl : List Value}
    (X : K.In hp) (hx : hp.get? x = some { cls := .ref C, data := .fields fv }) (hcd : W.clsIn K C = some cd) (hm : cd.mro = .ref C :: tl) (hO : tl.contains (.type "object") = true) (hps : ∀ self, refuseLoop self "__setattr__" tl = pure ()) (hh : cd.hasDict = true) (ha : W.findIn K (.ref C) name = some none)
    (hq : ∀ h' tk' dx, (∀ b o, b ≠ x → hp.get? b = some o → h'.get? b = some o) → hp.objs.size ≤ dx → dx ≠ x → h'.get? x = some { cls := .ref C, dict := some dx, data := .fields fv } → h'.Ns1 dx (fun y => if y = name then some v else none) → R (.ok (.ret .none)) ⟨h', g, d, tk', os⟩) :
    codeAny (model prog w) A (.call (.builtin "object.__setattr__") ⟨[.ref x, .str name tk, v], []⟩) R ⟨hp, g, d, t, os⟩ := by
  have I : W.InstAt hp x { cls := .ref C, data := .fields fv } C none := ⟨hx, rfl, rfl, trivial⟩
  have hob : cd.mro.contains (.type "object") = true := by rw [hm, List.contains_cons, hO, Bool.or_true]
  have hne : cd.mro.isEmpty = false := by rw [hm]; rfl
  have hxs : x ≠ hp.objs.size := Nat.ne_of_lt (Heap.lt_size hx)
  have hmi : W.mroIn K C (.type "object") = some true := by
    unfold W.mroIn
    rw [hcd, Option.bind_some, if_neg (by rw [hne]; decide), hob]
  have L1 : W.Looks (model prog w) hp (isInstance (.ref x) (.type "object")) true := I.type.andThen (W.looks_mroIn X hmi)
  have L2 : W.Looks (model prog w) hp (mroOf (.ref C)) cd.mro := (W.looks_clsIn X hcd).andThen .now
  have L3 : W.Looks (model prog w) hp (storeTaker? none) none := .now
  have L4 : W.Looks (model prog w) hp (classData C) cd := W.looks_clsIn X hcd
  refine codeAny_call_builtin F.store_object.slot.plain F.store_object.entry (@W.check_slot (model prog w) _ _ ⟨hp, g, d, t, os⟩ "object.__setattr__" "object" "__setattr__" (.ref x) [.str name tk, v] [] _ F.store_object.kind F.store_object.split L1 (F.store_object.args (.ref x) (.str name tk) v) ?_)
  rw [W.osa_eq, refuse_eq]
  refine wpAny_bind (wpAny_bind (I.type.at (wpAny_bind (L2.at ?_))))
  rw [hm, refuseLoop_ref, hps]
  refine wpAny_pure (wpAny_bind (I.type.at (wpAny_bind ((W.looks_findIn X ha).at (wpAny_bind (L3.at ?_))))))
  show wpAny _ _ (storeInOwnDict (.ref x) (.ref C) (.str name tk) name v false) _ _ _
  obtain ⟨c1, c2, mro, c4, c5, hd, c7, c8, c9, c10, c11⟩ := cd
  dsimp only at hh
  subst hh
  unfold storeInOwnDict ownDictForStores
  repeat' (first | with_reducible refine HandSPX.store_in_new ?_ ?_ | with_reducible refine L4.at ?_ | with_reducible refine wpAny_loadPart_at hx ?_ | wp_step)
  · exact ⟨_, #[], _, (Heap.get?_update_ne _ _ _ _ hxs.symm).trans (Heap.get?_push_at rfl rfl), rfl, fun e he => absurd he (by simp), fun _ => rfl⟩
  · intro h' tk' hn' hs
    have hx1 : (hp.push { cls := .type "dict", data := .dict #[] }).get? x = some { cls := .ref C, data := .fields fv } := Heap.get?_push_of_some _ hx
    refine hq h' tk' hp.objs.size (fun b o hb ho => ?_) (Nat.le_refl _) hxs.symm ((hs.2 x hxs).trans (Heap.get?_update_self _ hx1 rfl)) hn'
    exact ((hs.2 b (Nat.ne_of_lt (Heap.lt_size ho))).trans (Heap.get?_update_ne _ _ _ _ hb)).trans (Heap.get?_push_of_some _ ho)
/-! ### __init__(self, a): super().__init__(a); self.f = a -/
abbrev scE (a : Str) : Scope := { kind := .function, names := [(PySem.Str.ofString "self", .local), (a, .local), (PySem.Str.ofString "__class__", .free), (PySem.Str.ofString "super", .globalImplicit)], isGenerator := false, isCoroutine := false, more := [] }
/-- its text -/
def InitTxt (a f : Str) (params : Arguments) (body : List Stmt) (sc : Scope) : Prop :=
  ∃ p1 p2 q1 q2 q3 q4 q5 q6 r1 r2 r3 r4 : Pos, params = { posonlyargs := [], args := [{ arg := "self", annotation := none, pos := p1 }, { arg := a, annotation := none, pos := p2 }], vararg := none, kwonlyargs := [], kw_defaults := [], kwarg := none, defaults := [] } ∧
    body = [.Expr (.Call (.Attribute (.Call (.Name "super" q1) [] [] q2) "__init__" q3) [.Name a q4] [] q5) q6, .Assign [.Attribute (.Name "self" r1) f r2] (.Name a r3) r4] ∧
    sc = scE a ∧ (q3.endLine == q5.line) = true
/-- the names of what is told -/
def errNames : List Str := ["reason", "index", "value", "order", "line", "limit"]
theorem bindE {a nm qual : Str} {body : List Stmt} {sc : Scope} {doc pm ct cdv x v : Value} {an : Option Addr} {cc : Addr} {p1 p2 : Pos} (ha : a ∈ errNames) : bindArgs (ksFn nm qual { posonlyargs := [], args := [{ arg := "self", annotation := none, pos := p1 }, { arg := a, annotation := none, pos := p2 }], vararg := none, kwonlyargs := [], kw_defaults := [], kwarg := none, defaults := [] } body sc .none .none doc pm an cdv ct cc) ⟨[x, v], []⟩ = pure [(("self" : Str), x), (a, v)] := by
  unfold errNames at ha
  simp only [List.mem_cons, List.not_mem_nil, or_false] at ha
  rcases ha with rfl | rfl | rfl | rfl | rfl | rfl <;> first | rfl | with_unfolding_all rfl
theorem nameE {a : Str} (ha : a ∈ errNames) : (("self" : Str) == a) = false ∧ (("super" : Str) == a) = false ∧ (("__class__" : Str) == a) = false ∧ (a == ("__debug__" : Str)) = false := by
  unfold errNames at ha
  simp only [List.mem_cons, List.not_mem_nil, or_false] at ha
  rcases ha with rfl | rfl | rfl | rfl | rfl | rfl <;> exact ⟨by decide +kernel, by decide +kernel, by decide +kernel, by decide +kernel⟩
/-- what is asked of the program -/
structure PrgOk (prog : Program) (mf : Str) : Prop where
  file : prog.main.file = mf
  top : (prog.main.scope.names.lookup ("super" : Str)).isSome = false
/-- what the written part says of an own error's class at C, its __init__ at fI, its one field f -/
structure ErrT (mf : Str) (K : Frag) (a f : Str) (C fI : Addr) (B Bn newId initId : String) (tl : List Value) : Prop where
  eb : EBase B Bn newId initId tl
  cls : ∃ nm q N bs sn sub ab col dd k0 k1 k2 k3 k5, K.lookup C = some (excClassObj nm q C N bs tl true sn sub ab col dd k0 k1 k2 k3 k5 newId)
  sa : findIn K (.ref C) "__setattr__" = some (some (.builtin "object.__setattr__"))
  ga : findIn K (.ref C) "__getattribute__" = some (some (.builtin "BaseException.__getattribute__"))
  gg : findIn K (.ref C) "__getattr__" = some none
  noF : findIn K (.ref C) f = some none
  iC : findIn K (.ref C) "__init__" = some (some (.ref fI))
  tI : typeIn K (.ref fI) = some (.type "function")
  kC : keepIn K (.ref C) = true
  exC : subIn K (.ref C) (.type "BaseException") = some true
  tyC : typeIn K (.ref C) = some (.type "type")
  hd : hasDictIn K C = true
  op : nsIn K cStatics "thirdparty.any" = some none
  an : a ∈ errNames
  fn : ∃ (nm qual : Str) (params : Arguments) (body : List Stmt) (sc : Scope) (oc doc pm ct : Value) (od an : Option Addr) (osl : Array (Option Value)) (cda cc : Addr), K.lookup fI = some ⟨oc, od, .func (ksFn nm qual params body sc .none .none doc pm an (.ref cda) ct cc), osl⟩ ∧ codeIn K (.ref cda) qual = true ∧ InitTxt a f params body sc ∧
    (∃ (c1 : Value) (c2 : Option Addr) (vs : Array Value) (c3 : Array (Option Value)) (file : Str) (tf : Tok), K.lookup cda = some ⟨c1, c2, .fields vs, c3⟩ ∧ vs[2]? = some (.str file tf) ∧ (mf == file) = true) ∧
    ∃ (c1 : Value) (c2 : Option Addr) (c3 : Array (Option Value)), K.lookup cc = some ⟨c1, c2, .cell (some (.ref C)), c3⟩
/-- what __init__ leaves of a fresh error at x -/
structure InitE (h h' : Heap) (x C dx t1 : Addr) (f : Str) (v : Value) : Prop where
  keep : ∀ b o, b ≠ x → h.get? b = some o → h'.get? b = some o
  obj : h'.get? x = some { cls := .ref C, dict := some dx, data := .fields #[.ref t1, .none, .none, .none, .bool false, .none] }
  dbig : h.objs.size ≤ dx
  dne : dx ≠ x
  ns : h'.Ns1 dx (fun y => if y = f then some v else none)
section
variable {prog : Program} {w : World} {A : Around} {R : Result → Shared → Prop} {s : Shared} {K : Frag} {mg : Str → Option Value} {mf a f : Str} {C fI : Addr} {B Bn newId initId : String} {tl : List Value}
theorem one_sz (v : Value) : [v].length ≤ sizeLine := by
  rw [sizeLine_eq]; exact Nat.le_of_ble_eq_true rfl
theorem evE {env : Env} {o : Expr} {nm a : Str} {q3 q4 q5 : Pos} (ho : ∃ g as ks p, o = .Call g as ks p) (hl : (q3.endLine == q5.line) = true) : eval (.Call (.Attribute o nm q3) [.Name a q4] [] q5) env = (do
      let ov ← attributeBase o nm env (eval o env)
      standAt q3.atName
      let (f, first) ← holding [ov] (getMethod ov nm (do return (← importBound o env).getD true))
      callWith q5 f first (backTo q5 (starEach [.Name a q4] env)) []) := by
  show (do
    let ov ← attributeBase o nm env (eval o env)
    standAt q3.atName
    methodCall o nm q3 q5 env ov 1 (backTo q5 (starEach [.Name a q4] env)) []) = _
  have : ∀ ov, methodCall o nm q3 q5 env ov 1 (backTo q5 (starEach [.Name a q4] env)) [] = (do
      let (f, first) ← holding [ov] (getMethod ov nm (do return (← importBound o env).getD true))
      callWith q5 f first (backTo q5 (starEach [.Name a q4] env)) []) := fun ov => by
    unfold methodCall methodCallPos
    rw [hl]
    rfl
  simp only [this]
theorem initE (PO : PrgOk prog mf) (T : ErrT mf K a f C fI B Bn newId initId tl) (M : L2.Mod K mg s.heap) (hs : mg "super" = none) {x t0 : Addr} {v : Value} (hx : s.heap.get? x = some (excO C t0)) (hKx : K.lookup x = none) (hroom : A.depth < recursionLimit)
    (hq : ∀ h' tk dx t1, InitE s.heap h' x C dx t1 f v → R (.ok (.ret .none)) { s with heap := h', toks := tk }) : codeAny (model prog w) A (.call (.ref fI) ⟨[.ref x, v], []⟩) R s := by
  obtain ⟨nm, qual, params, body, sc, oc, doc, pm, ct, od, an, osl, cda, cc, ho, hcd, ⟨p1, p2, q1, q2, q3, q4, q5, q6, r1, r2, r3, r4, rfl, rfl, rfl, hline⟩, ⟨c1, c2, vs, c3, file, tf, hcode, hvs, hfile⟩, ⟨c4, c5, c6, hcc⟩⟩ := T.fn
  obtain ⟨cn, cq, N, bs, sn, sub, ab, col, dd, k0, k1, k2, k3, k5, hC⟩ := T.cls
  have X := M.kin
  have hcl : clsIn K C = some { name := cn, bases := bs, mro := .ref C :: tl, ns := N, qualname := cq, hasDict := true, slotNames := sn, subclasses := sub, abstract := ab, collection := col, hasDel := false } := by unfold clsIn; rw [hC] <;> rfl
  have lk : ([(("self" : Str), Value.ref x), (a, v)].reverse.lookup a) = some v := by simp [List.lookup]
  have lks : ([(("self" : Str), Value.ref x), (a, v)].reverse.lookup ("self" : Str)) = some (.ref x) := by
    have := (nameE T.an).1
    simp [List.lookup, this]
  have na := nameE T.an
  have hsf : (scE a).names.lookup ("self" : Str) = some .local := rfl
  have hka : (scE a).names.lookup a = some .local := by
    have : (a == ("self" : Str)) = false := by
      have := na.1
      simp at this ⊢
      exact fun z => this z.symm
    simp [List.lookup, this]
  have hks : (scE a).names.lookup ("super" : Str) = some .globalImplicit := by
    have := na.2.1
    simp [List.lookup, this]
    first | rfl | decide +kernel
  have hkc : (scE a).names.lookup ("__class__" : Str) = some .free := by
    have := na.2.2
    simp [List.lookup, this]
    first | rfl | decide +kernel
  have hcell : ∀ x ∈ (scE a).names, x.2 ≠ .cell := by
    intro x hx
    simp only [List.mem_cons, List.not_mem_nil, or_false] at hx
    rcases hx with rfl | rfl | rfl | rfl <;> exact fun z => nomatch z
  refine ks_codeAny_call_defAt (fd := ksFn nm qual _ _ (scE a) .none .none doc pm an (.ref cda) ct cc) (binds := [("self", .ref x), (a, v)]) hroom (X _ _ ho) rfl M.nolimit (codeRec_of X hcd) rfl (BindsTo.of_eq (bindE T.an)) hcell (fun y hy => ?_) (fun h1 hns k => ?_)
  · simp only [List.mem_cons, List.not_mem_nil, or_false] at hy
    rcases hy with rfl | rfl
    · exact hsf
    · exact hka
  have X1 : K.In h1 := X.keeps k
  have hx1 := k _ _ hx
  have ne1 : s.heap.objs.size < h1.objs.size := hns.lt
  obtain ⟨mb, hb, hbl⟩ := M.blt
  have hD1 := X1 _ _ hC
  show wpAt (model prog w) _ _ (execs _ (ksEnv qual (scE a) s.heap.objs.size fI (.ref cda) cc)) _ _ _
  refine ks_wpAt_execs_cons (ks_wpAt_Expr_any (ks_wpAt_MethodCall ?_ (evE ⟨_, _, _, _, rfl⟩ hline)))
  refine ks_wpAt_super_base (env := ksEnv qual (scE a) s.heap.objs.size fI (.ref cda) cc) hks hkc rfl rfl (X1 _ _ ho) rfl rfl rfl (X1 _ _ hcode) rfl hvs (by rw [PO.file]; exact hfile) PO.top ?_
  refine ks_loadName_global rfl hks (loadGlobal_builtin (env := ksEnv qual (scE a) s.heap.objs.size fI (.ref cda) cc) (M.glob.keeps k) hs (hb.keeps k) ((hbl _ (by decide +kernel)).trans (by decide +kernel)) ⟨rfl, ?_⟩)
  refine wpAny_loadName_free rfl hkc rfl ⟨_, X1 _ _ hcc, rfl⟩ ?_
  refine wpAny_loadName_local rfl hsf hns lks ?_
  refine ks_wpAny_isType_cls hD1 rfl ⟨rfl, ?_⟩
  have LC : Looks (model prog w) h1 (isSubtype (.ref C) (.ref C)) true := looks_mroIn X1 (by unfold mroIn; rw [hcl, Option.bind_some, if_neg (show ¬ ((Value.ref C :: tl).isEmpty = true) from Bool.false_ne_true)]; simp)
  refine ks_wpAny_call_super hD1 rfl hx1 rfl (fun c z => by cases z) LC fun h2 hso k2 => ?_
  have X2 : K.In h2 := X1.keeps k2
  have hx2 := k2 _ _ hx1
  have hnC : x ≠ C := fun z => by rw [z, hD1] at hx1; cases hx1
  have LM : Looks (model prog w) h2 (mroOf (.ref C)) (.ref C :: tl) := (looks_clsIn X2 hcl).andThen .now
  have LI : Looks (model prog w) h2 (isInstance (.ref x) (.type B)) true := by
    refine (InstAt.type (C := C) (od := none) ⟨hx2, rfl, rfl, trivial⟩).andThen (looks_mroIn X2 ?_)
    unfold mroIn
    rw [hcl, Option.bind_some, if_neg (show ¬ ((Value.ref C :: tl).isEmpty = true) from Bool.false_ne_true), List.contains_cons, T.eb.hB, Bool.or_true]
  refine kxs_getMethod T.eb.kx hso (looks_opaque X2 T.op) LM (by simp [List.dropWhile_cons]) X2 (T.eb.along K) LI hnC rfl ?_
  have hu3 : (h2.push (kxs_mw initId x)).get? h2.objs.size = some (kxs_mw initId x) := Heap.get?_push_at rfl rfl
  have k3 : ∀ b o, h2.get? b = some o → (h2.push (kxs_mw initId x)).get? b = some o := fun b o e => Heap.get?_push_of_some _ e
  have k13 : ∀ b o, h1.get? b = some o → (h2.push (kxs_mw initId x)).get? b = some o := fun b o e => k3 b o (k2 b o e)
  show wpAny (model prog w) _ (callWith _ (.ref h2.objs.size) [] (backTo _ ((false, eval (.Name a q4) (ksEnv qual (scE a) s.heap.objs.size fI (.ref cda) cc)) :: [])) []) _ _ _
  refine kxs_callWith (i := initId) (x := x) rfl (evalArgs_plain (Calls.spliced_cons ?_))
  have hns3 : (h2.push (kxs_mw initId x)).Ns s.heap.objs.size (fun y => [(("self" : Str), Value.ref x), (a, v)].reverse.lookup y) := hns.keeps k13
  refine wpAny_Name (wpAny_loadName_local rfl hka hns3 lk (Calls.spliced_nil ⟨hu3, ?_⟩)) na.2.2.2
  have X3 : K.In (h2.push (kxs_mw initId x)) := X2.keeps k3
  refine callBw T.eb (X3 _ _ hC) (k3 _ _ hx2) hu3 (one_sz v) fun h4 t1 k4 hx4 => ?_
  have X4 : K.In h4 := fun b o e => k4 b o (fun z => by rw [z, hKx] at e; cases e) (X3 _ _ e)
  have hxL : s.heap.objs.size ≠ x := Nat.ne_of_gt (Heap.lt_size hx)
  have hns4 : h4.Ns s.heap.objs.size (fun y => [(("self" : Str), Value.ref x), (a, v)].reverse.lookup y) := hns3.at fun o q => k4 _ _ hxL q
  refine ks_wpAt_execs_cons (ks_wpAt_Assign_Attr (wpAt_of_wpAny (wpAny_Name (wpAny_loadName_local rfl hka hns4 lk (wpAny_Name (wpAny_loadName_local rfl hsf hns4 lks ?_) (by decide +kernel))) na.2.2.2)))
  refine set_plain X4 (ox := excO C t1) (od := none) ⟨hx4, rfl, rfl, trivial⟩ T.sa ?_
  refine osaE X4 hx4 hcl rfl T.eb.hO T.eb.pass rfl T.noF fun h5 tk5 dx k5 dn dne hx5 hn5 => ?_
  refine wpAt_of_wpAny (wpAny_execs_nil (hq h5 tk5 dx t1 ⟨fun b o hb e => k5 b o hb (k4 b o hb (k13 b o (k b o e))), hx5, ?_, dne, hn5⟩))
  have e1 := hns4.lt
  exact Nat.le_of_lt (Nat.lt_of_lt_of_le e1 dn)
end
end ErM

namespace KP
open PySem PySem.Spec PyProof.Rows L2
/-! ### the part of the heap that the module's names reach, found in one pass: seen addresses are the bits of a number -/
def frN {α : Type} (n : Nat) (k : Nat → α) : α := match n with
  | 0 => k 0
  | m + 1 => k (m + 1)
def stepF {α : Type} (g : Addr → Option Obj) (k : Nat → List Addr → List Addr → α) : List Addr → Nat → List Addr → List Addr → α
  | [], m, acc, nx => k m acc nx
  | a :: r, m, acc, nx => frN a fun a => match Nat.beq (Nat.land (Nat.shiftRight m a) 1) 1 with
    | true => stepF g k r m acc nx
    | false => match g a with
      | some o => frN (Nat.lor m (Nat.shiftLeft 1 a)) fun m => stepF g k r m (a :: acc) (He.refsD o ++ nx)
      | none => stepF g k r m acc nx
def levF (g : Addr → Option Obj) : Nat → List Addr → Nat → List Addr → List Addr
  | 0, _, _, acc => acc
  | n + 1, cur, m, acc => stepF g (fun m acc nx => levF g n nx m acc) cur m acc []
def asF (g : Addr → Option Obj) (n : Nat) : List Addr := levF g n [mainGlobals, cStatics] 0 []
def frK {α : Type} : PySem.W.Frag → (PySem.W.Frag → α) → α
  | [], k => k []
  | (a, o) :: r, k => frK r fun r => k ((a, o) :: r)
theorem frK_eq {α : Type} : ∀ (K : PySem.W.Frag) (k : PySem.W.Frag → α), frK K k = k K
  | [], _ => rfl
  | (a, o) :: r, k => frK_eq r fun r => k ((a, o) :: r)
def obsFG (n : Nat) (ex : List Fct) (fn : List He5.DefA) (g : Addr → Option Obj) : He.AlD := obsM ex fn (He.frG g (asF g n))
def hookF (n : Nat) (ex : List Fct) (fn : List He5.DefA) : PySem.W.Hook where
  α := He.AlD
  obs := fun s => obsFG n ex fn s.heap.get?
  val := fun _ => valM fn
  says := fun _ h => ∃ K : PySem.W.Frag, K.In h ∧ SaysM ex fn K
  of := fun _ _ e => ⟨_, He.frG_in, e⟩
  keeps := fun _ _ _ ⟨K, hK, c⟩ k => ⟨K, PySem.W.Frag.In.keeps hK k, c⟩
theorem obsFG_eq {n : Nat} {ex : List Fct} {fn : List He5.DefA} {g : Addr → Option Obj} {s : Shared} (h : ∀ a, g a = s.heap.get? a) : obsFG n ex fn g = (hookF n ex fn).obs s := by
  rw [show g = s.heap.get? from funext h] <;> rfl
end KP

/-! The facts of own errors, as they are looked at in the head's run. -/
namespace KP
open PySem PySem.Spec PyProof.Rows L2
/-- the parameter's name and the positions of __init__'s text -/
def prmB (a : Str) (p : Arguments) : Bool := match p with
  | ⟨[], [⟨s, none, _⟩, ⟨b, none, _⟩], none, [], [], none, []⟩ => s == ("self" : Str) && b == a
  | _ => false
def bdyB (a f : Str) (b : List Stmt) : Bool := match b with
  | [.Expr (.Call (.Attribute (.Call (.Name s1 _) [] [] _) s2 q3) [.Name a1 _] [] q5) _, .Assign [.Attribute (.Name s3 _) f1 _] (.Name a2 _) _] =>
    (s1 == ("super" : Str) && s2 == ("__init__" : Str)) && ((a1 == a && s3 == ("self" : Str)) && ((f1 == f && a2 == a) && q3.endLine == q5.line))
  | _ => false
theorem prmB_ok {a : Str} {p : Arguments} (h : prmB a p = true) : ∃ p1 p2 : Pos, p = { posonlyargs := [], args := [{ arg := "self", annotation := none, pos := p1 }, { arg := a, annotation := none, pos := p2 }], vararg := none, kwonlyargs := [], kw_defaults := [], kwarg := none, defaults := [] } := by
  unfold prmB at h
  split at h
  · obtain ⟨h1, h2⟩ := He.ba h
    obtain rfl := beq_iff_eq.mp h1
    obtain rfl := beq_iff_eq.mp h2
    exact ⟨_, _, rfl⟩
  · cases h
theorem bdyB_ok {a f : Str} {b : List Stmt} (h : bdyB a f b = true) : ∃ q1 q2 q3 q4 q5 q6 r1 r2 r3 r4 : Pos, b = [.Expr (.Call (.Attribute (.Call (.Name "super" q1) [] [] q2) "__init__" q3) [.Name a q4] [] q5) q6, .Assign [.Attribute (.Name "self" r1) f r2] (.Name a r3) r4] ∧ (q3.endLine == q5.line) = true := by
  unfold bdyB at h
  split at h
  · obtain ⟨h1, h⟩ := He.ba h
    obtain ⟨h2, h⟩ := He.ba h
    obtain ⟨h3, h4⟩ := He.ba h
    obtain ⟨a1, a2⟩ := He.ba h1
    obtain ⟨b1, b2⟩ := He.ba h2
    obtain ⟨c1, c2⟩ := He.ba h3
    obtain rfl := beq_iff_eq.mp a1
    obtain rfl := beq_iff_eq.mp a2
    obtain rfl := beq_iff_eq.mp b2
    obtain rfl := beq_iff_eq.mp c1
    have b1 := beq_iff_eq.mp b1
    have c2 := beq_iff_eq.mp c2
    subst b1
    subst c2
    exact ⟨_, _, _, _, _, _, _, _, _, _, rfl, h4⟩
  · cases h
def funB (mf a f : Str) (C : Addr) (K : PySem.W.Frag) (fd : FuncData) : Bool := match fd.body, fd.closure, fd.defaults, fd.kwdefaults, fd.code with
  | .stmts b, [(n, cc)], .none, .none, .ref cda => (n == ("__class__" : Str) && (fd.globals == mainGlobals && fd.builtins == builtinsNs)) && ((PySem.W.codeIn K (.ref cda) fd.qualname && prmB a fd.params) && ((bdyB a f b && decide (fd.scope = ErM.scE a)) &&
    ((match K.lookup cda with
      | some ⟨_, _, .fields vs, _⟩ => (match (vs[2]? : Option Value) with
        | some (Value.str file _) => mf == file
        | _ => false)
      | _ => false) && (match K.lookup cc with
      | some ⟨_, _, .cell (some (.ref D)), _⟩ => D == C
      | _ => false))))
  | _, _, _, _, _ => false
def clsB (C : Addr) (newId : String) (tl : List Value) (K : PySem.W.Frag) : Bool := match K.lookup C with
  | some ⟨.type t, _, .cls cd, sl⟩ => t == "type" && ((match cd.mro with
    | .ref C' :: bm => C' == C && bm == tl
    | _ => false) && ((cd.hasDict && !cd.hasDel) && (match sl.toList with
    | [_, _, _, _, some (.builtin n), _] => n == newId
    | _ => false)))
  | _ => false
theorem frN_is {α : Type} (n : Nat) (k : Nat → α) : frN n k = k n := by cases n <;> rfl
def errB (mf a f cn : Str) (newId : String) (tl : List Value) : Fct := fun K => frN (He.ga K cn) fun C => frN (He.ma K C "__init__") fun fI => clsB C newId tl K && ((match K.lookup fI with
  | some ⟨_, _, .func fd, _⟩ => funB mf a f C K fd
  | _ => false) && ((decide (PySem.W.findIn K (.ref C) "__setattr__" = some (some (.builtin "object.__setattr__"))) && decide (PySem.W.findIn K (.ref C) "__getattribute__" = some (some (.builtin "BaseException.__getattribute__")))) &&
    ((decide (PySem.W.findIn K (.ref C) "__getattr__" = some none) && decide (PySem.W.findIn K (.ref C) f = some none)) && ((decide (PySem.W.findIn K (.ref C) "__init__" = some (some (.ref fI))) && decide (PySem.W.typeIn K (.ref fI) = some (.type "function"))) &&
    ((PySem.W.keepIn K (.ref C) && decide (PySem.W.subIn K (.ref C) (.type "BaseException") = some true)) && ((decide (PySem.W.typeIn K (.ref C) = some (.type "type")) && PySem.W.hasDictIn K C) && decide (PySem.W.nsIn K cStatics "thirdparty.any" = some none)))))))
theorem clsB_ok {C : Addr} {newId : String} {tl : List Value} {K : PySem.W.Frag} (h : clsB C newId tl K = true) : ∃ nm q N bs sn sub ab col dd k0 k1 k2 k3 k5, K.lookup C = some (excClassObj nm q C N bs tl true sn sub ab col dd k0 k1 k2 k3 k5 newId) := by
  unfold clsB at h
  split at h
  · rename_i t dd cd sl ho
    obtain ⟨h1, h⟩ := He.ba h
    obtain ⟨h2, h⟩ := He.ba h
    obtain ⟨h3, h4⟩ := He.ba h
    obtain ⟨h5, h6⟩ := He.ba h3
    split at h2
    · rename_i C' bm hm
      split at h4
      · rename_i k0 k1 k2 k3 n k5 hs
        obtain ⟨a1, a2⟩ := He.ba h2
        obtain rfl := beq_iff_eq.mp a1
        obtain rfl := eq_of_beq a2
        obtain rfl := eq_of_beq h4
        obtain rfl := eq_of_beq h1
        obtain ⟨nm, bs, mro, ns, qn, hd, sn, sb, ab, col, del⟩ := cd
        simp only [Bool.not_eq_true'] at h5 h6 hm
        subst h5 h6 hm
        have hsl : sl = #[k0, k1, k2, k3, some (.builtin n), k5] := by
          obtain ⟨l⟩ := sl
          simp only at hs
          rw [hs]
        subst hsl
        exact ⟨nm, qn, ns, bs, sn, sb, ab, col, dd, k0, k1, k2, k3, k5, ho⟩
      · cases h4
    · cases h2
  · cases h
theorem errB_ok {mf a f cn : Str} {B Bn newId initId : String} {tl : List Value} {K : PySem.W.Frag} (eb : ErM.EBase B Bn newId initId tl) (ha : a ∈ ErM.errNames) (h : errB mf a f cn newId tl K = true) : ErM.ErrT mf K a f (He.ga K cn) (He.ma K (He.ga K cn) "__init__") B Bn newId initId tl := by
  unfold errB at h
  rw [frN_is, frN_is] at h
  obtain ⟨h1, h⟩ := He.ba h
  obtain ⟨h2, h⟩ := He.ba h
  obtain ⟨h3, h⟩ := He.ba h
  obtain ⟨h4, h⟩ := He.ba h
  obtain ⟨h5, h⟩ := He.ba h
  obtain ⟨h6, h⟩ := He.ba h
  obtain ⟨h7, h8⟩ := He.ba h
  obtain ⟨a3, b3⟩ := He.ba h3
  obtain ⟨a4, b4⟩ := He.ba h4
  obtain ⟨a5, b5⟩ := He.ba h5
  obtain ⟨a6, b6⟩ := He.ba h6
  obtain ⟨a7, b7⟩ := He.ba h7
  refine ⟨eb, clsB_ok h1, of_decide_eq_true a3, of_decide_eq_true b3, of_decide_eq_true a4, of_decide_eq_true b4, of_decide_eq_true a5, of_decide_eq_true b5, a6, of_decide_eq_true b6, of_decide_eq_true a7, b7, of_decide_eq_true h8, ha, ?_⟩
  split at h2
  · rename_i oc od fd osl ho
    unfold funB at h2
    split at h2
    · rename_i b n cc cda e1 e2 e3 e4 e5
      obtain ⟨g1, h2⟩ := He.ba h2
      obtain ⟨g2, h2⟩ := He.ba h2
      obtain ⟨g3, h2⟩ := He.ba h2
      obtain ⟨g4, g5⟩ := He.ba h2
      obtain ⟨x1, g1⟩ := He.ba g1
      obtain ⟨x2, x3⟩ := He.ba g1
      obtain ⟨x4, x5⟩ := He.ba g2
      obtain ⟨x6, x7⟩ := He.ba g3
      obtain ⟨p1, p2, ep⟩ := prmB_ok x5
      obtain ⟨q1, q2, q3, q4, q5, q6, r1, r2, r3, r4, eb2, hl⟩ := bdyB_ok x6
      obtain ⟨nm, qn, pr, bd, sc, gl, cl, df, kd, doc, pm, an, cd, ct, bl⟩ := fd
      dsimp only at e1 e2 e3 e4 e5 ep x2 x3 x4 x7
      obtain rfl := beq_iff_eq.mp x1
      obtain rfl := beq_iff_eq.mp x2
      obtain rfl := beq_iff_eq.mp x3
      have x8 : sc = ErM.scE a := of_decide_eq_true x7
      subst e1 e2 e3 e4 e5
      refine ⟨nm, qn, pr, b, sc, oc, doc, pm, ct, od, an, osl, cda, cc, ho, x4, ⟨p1, p2, q1, q2, q3, q4, q5, q6, r1, r2, r3, r4, ep, eb2, x8, hl⟩, ?_, ?_⟩
      · split at g4
        · rename_i c1 c2 vs c3 hk
          split at g4
          · rename_i file tf hv
            exact ⟨c1, c2, vs, c3, file, tf, hk, hv, g4⟩
          · cases g4
        · cases g4
      · split at g5
        · rename_i c1 c2 D c3 hk
          obtain rfl := beq_iff_eq.mp g5
          exact ⟨c1, c2, c3, hk⟩
        · cases g5
    · cases h2
  · cases h2
/-- a caught error's class, asked by isinstance -/
def exiB (cn : Str) (ts : List (String × Bool)) (os : List (Str × Bool)) : Fct := fun K => frN (He.ga K cn) fun C => (xfB K C && (decide (PySem.W.findIn K (.ref C) "__class__" = some (some (.builtin "object.__class__"))) && (decide (PySem.W.specialIn K (.builtin "object.__class__") "__get__" = some (some (.builtin "getset_descriptor.__get__"))) && (decide (PySem.W.takesIn K (.builtin "object.__class__") = some true) && decide (PySem.W.mroIn K C (.type "object") = some true))))) &&
  (ts.all (fun p => decide (PySem.W.kitOne K (.ref C) (.type p.1) = some p.2)) && os.all fun p => decide (PySem.W.kitOne K (.ref C) (.ref (He.ga K p.1)) = some p.2))
structure ExI (K : PySem.W.Frag) (cn : Str) (ts : List (String × Bool)) (os : List (Str × Bool)) : Prop where
  x : XfC K (He.ga K cn)
  c : L2.ExcC K (He.ga K cn)
  ty : ∀ p ∈ ts, PySem.W.kitOne K (.ref (He.ga K cn)) (.type p.1) = some p.2
  ow : ∀ p ∈ os, PySem.W.kitOne K (.ref (He.ga K cn)) (.ref (He.ga K p.1)) = some p.2
theorem exiB_ok {cn : Str} {ts : List (String × Bool)} {os : List (Str × Bool)} {K : PySem.W.Frag} (h : exiB cn ts os K = true) : ExI K cn ts os := by
  unfold exiB at h
  rw [frN_is] at h
  obtain ⟨h, h0⟩ := He.ba h
  obtain ⟨h1, h⟩ := He.ba h
  obtain ⟨h2, h⟩ := He.ba h
  obtain ⟨h3, h⟩ := He.ba h
  obtain ⟨h4, h5⟩ := He.ba h
  obtain ⟨g1, g2⟩ := He.ba h0
  have x := xfB_ok h1
  exact ⟨x, ⟨x.ga, x.gg, x.exC, x.hdC, of_decide_eq_true h2, of_decide_eq_true h3, of_decide_eq_true h4, of_decide_eq_true h5⟩, fun p hp => of_decide_eq_true (List.all_eq_true.mp g1 p hp), fun p hp => of_decide_eq_true (List.all_eq_true.mp g2 p hp)⟩
def exmB (es : List Str) : Fct := fun K => es.all fun c => es.all fun c' => decide (PySem.W.exmOne K (.ref (He.ga K c)) (.ref (He.ga K c')) = some (decide (c = c')))
theorem exmB_ok {es : List Str} {K : PySem.W.Frag} (h : exmB es K = true) : ∀ c ∈ es, ∀ c' ∈ es, PySem.W.exmOne K (.ref (He.ga K c)) (.ref (He.ga K c')) = some (decide (c = c')) := fun c hc c' hc' => of_decide_eq_true (List.all_eq_true.mp (List.all_eq_true.mp h c hc) c' hc')
end KP

/-! Facts of classmethods and staticmethods. -/
namespace KP
open PySem PySem.Spec PyProof.Rows L2
/-- the def of the record of this kind at C.m -/
def rcA (T : String) (K : PySem.W.Frag) (C : Addr) (m : Str) : Addr := match PySem.W.recIn K (He.ma K C m) T with
  | some (.ref g :: _) => g
  | _ => 0
abbrev cmA := rcA "classmethod"
theorem rcA_ok {T : String} {K : PySem.W.Frag} {C : Addr} {m : Str} (h : (match PySem.W.recIn K (He.ma K C m) T with | some (.ref _ :: _) => true | _ => false) = true) : ∃ rest, PySem.W.recIn K (He.ma K C m) T = some (.ref (rcA T K C m) :: rest) := by
  unfold rcA
  cases e : PySem.W.recIn K (He.ma K C m) T with
  | none => rw [e] at h; cases h
  | some l =>
    rw [e] at h
    cases l with
    | nil => cases h
    | cons v r =>
      cases v with
      | ref g => exact ⟨r, rfl⟩
      | _ => cases h
def cfEq (a : Option PySem.W.CFound) (g : String) (p C : Addr) : Bool := match a with
  | some (.get (.builtin g') (.ref p') .none (.ref C')) => decide (g' = g) && (decide (p' = p) && decide (C' = C))
  | _ => false
theorem cfEq_ok {a : Option PySem.W.CFound} {g : String} {p C : Addr} (h : cfEq a g p C = true) : a = some (.get (.builtin g) (.ref p) .none (.ref C)) := by
  unfold cfEq at h
  split at h
  · obtain ⟨h1, h⟩ := He.ba h
    obtain ⟨h2, h3⟩ := He.ba h
    rw [of_decide_eq_true h1, of_decide_eq_true h2, of_decide_eq_true h3]
  · cases h
/-- C.m is a classmethod -/
def cmB (C m : Str) : Fct := fun K => PySem.W.readsIn K (He.ga K C) (.type "type") && (He.eqO (PySem.W.specialIn K (.ref (He.ga K C)) "__getattribute__") (some (some (.builtin "type.__getattribute__"))) &&
  (cfEq (PySem.W.findCls K (.ref (He.ga K C)) (.type "type") m) "classmethod.__get__" (He.ma K (He.ga K C) m) (He.ga K C) &&
  ((match PySem.W.recIn K (He.ma K (He.ga K C) m) "classmethod" with | some (.ref _ :: _) => true | _ => false) && PySem.W.fnIn K (cmA K (He.ga K C) m))))
structure CmOf (K : PySem.W.Frag) (C : Addr) (m : Str) : Prop where
  rd : ClX.CRead K C (.type "type")
  cm : ClX.CMet K C (.type "type") m (He.ma K C m) (cmA K C m)
theorem cmB_ok {K : PySem.W.Frag} {C m : Str} (h : cmB C m K = true) : CmOf K (He.ga K C) m := by
  obtain ⟨h1, h⟩ := He.ba h
  obtain ⟨h2, h⟩ := He.ba h
  obtain ⟨h3, h⟩ := He.ba h
  obtain ⟨h4, h5⟩ := He.ba h
  exact ⟨⟨h1, He.eqO_ok h2⟩, ⟨cfEq_ok h3, rcA_ok h4, h5⟩⟩
end KP

/-! The tables of code objects: where they stand, what the head leaves of them, the law's end over them. -/
namespace KP
open PySem PySem.Spec PyProof.Rows L2
/-- a def's code object, its table -/
def codeA (K : PySem.W.Frag) (ad : Addr) : Addr := match K.lookup ad with
  | some ⟨_, _, .func fd, _⟩ => (match fd.code with
    | .ref c => c
    | _ => 0)
  | _ => 0
theorem codeA_eq {K : PySem.W.Frag} {ad c : Addr} {oc : Value} {od : Option Addr} {osl : Array (Option Value)} {fd : FuncData} (lk : K.lookup ad = some ⟨oc, od, .func fd, osl⟩) (e : fd.code = .ref c) : codeA K ad = c := by
  unfold codeA
  rw [lk]
  dsimp only
  rw [e]
def tabA (K : PySem.W.Frag) (ad : Addr) : Addr := He.tabOf K (codeA K ad)
def ctA (tf : List (PySem.W.Frag → Addr)) (K : PySem.W.Frag) : List (Addr × Addr) := tf.map fun f => (codeA K (f K), tabA K (f K))
structure SaysB (ex : List Fct) (fn : List He5.DefA) (tf : List (PySem.W.Frag → Addr)) (h : Heap) (K : PySem.W.Frag) : Prop where
  m : SaysM ex fn K
  hd : ∀ p ∈ ctA tf K, PySem.W.codeHdIn K p.1 p.2 = true
  out : ∀ p ∈ ctA tf K, K.lookup p.2 = none
  mt : ∀ p ∈ ctA tf K, h.get? p.2 = some { cls := .none, data := .fields #[] }
/-! ### the head's run, looked at in parts -/
def obhF (n : Nat) (ex : List Fct) (fn : List He5.DefA) (s : PySem.W.SharedT) : He.AlD := frK (He.frG (HandSHeadRun.getT s) (asF (HandSHeadRun.getT s) n)) fun K => obsM ex fn K
end KP

namespace KD
open PySem PySem.Spec PyProof.Rows L2 KP
/-- the tables of code objects in which the law's lambdas are kept, with their names -/
def tabT (K : PySem.W.Frag) : List (Addr × Str) := []
end KD

namespace KP
open PySem PySem.Spec PyProof.Rows L2
/-! ### the text -/
def topS (i : Nat) : Stmt := PySem.Challenge.pw_paintposts_k04_whole_painters_moved_comp.main.body.getD i (.Pass ⟨0, 0, 0, 0⟩)

def mainF : Str := (PySem.W.OpenLaw.prog PySem.Challenge.rw_paintposts_k04_whole_painters_moved_comp).main.file
theorem po : ErM.PrgOk (PySem.W.OpenLaw.prog PySem.Challenge.rw_paintposts_k04_whole_painters_moved_comp) mainF := ⟨rfl, by kernel_rfl⟩
abbrev s_is_integer : Stmt := topS 12
abbrev N_is_integer : List Str := ["value"]
abbrev P_is_integer : List Str := ["value"]
theorem sc_is_integer : FnScope N_is_integer P_is_integer (defScope s_is_integer) := ⟨rfl, rfl, rfl, by decide +kernel, rfl, by decide +kernel, by decide +kernel⟩
abbrev s_is_between : Stmt := topS 13
abbrev N_is_between : List Str := ["value", "low", "high"]
abbrev P_is_between : List Str := ["value", "low", "high"]
theorem sc_is_between : FnScope N_is_between P_is_between (defScope s_is_between) := ⟨rfl, rfl, rfl, by decide +kernel, rfl, by decide +kernel, by decide +kernel⟩
abbrev s_is_name : Stmt := topS 16
abbrev N_is_name : List Str := ["value", "letter"]
abbrev P_is_name : List Str := ["value"]
theorem sc_is_name : FnScope N_is_name P_is_name (defScope s_is_name) := ⟨rfl, rfl, rfl, by decide +kernel, rfl, by decide +kernel, by decide +kernel⟩
abbrev s_Painter_init : Stmt := inClass (topS 24) 3
abbrev N_Painter_init : List Str := ["self", "name", "day", "post", "stride"]
abbrev P_Painter_init : List Str := ["self", "name", "day", "post", "stride"]
theorem sc_Painter_init : FnScope N_Painter_init P_Painter_init (defScope s_Painter_init) := ⟨rfl, rfl, rfl, by decide +kernel, rfl, by decide +kernel, by decide +kernel⟩
abbrev s_Painter_name : Stmt := inClass (topS 24) 6
abbrev N_Painter_name : List Str := ["self"]
abbrev P_Painter_name : List Str := ["self"]
theorem sc_Painter_name : FnScope N_Painter_name P_Painter_name (defScope s_Painter_name) := ⟨rfl, rfl, rfl, by decide +kernel, rfl, by decide +kernel, by decide +kernel⟩
abbrev s_Painter_day : Stmt := inClass (topS 24) 7
abbrev N_Painter_day : List Str := ["self"]
abbrev P_Painter_day : List Str := ["self"]
theorem sc_Painter_day : FnScope N_Painter_day P_Painter_day (defScope s_Painter_day) := ⟨rfl, rfl, rfl, by decide +kernel, rfl, by decide +kernel, by decide +kernel⟩
abbrev s_Painter_post : Stmt := inClass (topS 24) 8
abbrev N_Painter_post : List Str := ["self"]
abbrev P_Painter_post : List Str := ["self"]
theorem sc_Painter_post : FnScope N_Painter_post P_Painter_post (defScope s_Painter_post) := ⟨rfl, rfl, rfl, by decide +kernel, rfl, by decide +kernel, by decide +kernel⟩
abbrev s_Painter_stride : Stmt := inClass (topS 24) 9
abbrev N_Painter_stride : List Str := ["self"]
abbrev P_Painter_stride : List Str := ["self"]
theorem sc_Painter_stride : FnScope N_Painter_stride P_Painter_stride (defScope s_Painter_stride) := ⟨rfl, rfl, rfl, by decide +kernel, rfl, by decide +kernel, by decide +kernel⟩
abbrev s_integer_in : Stmt := topS 20
abbrev N_integer_in : List Str := ["word", "digits", "number", "digit"]
abbrev P_integer_in : List Str := ["word", "digits"]
theorem sc_integer_in : FnScope N_integer_in P_integer_in (defScope s_integer_in) := ⟨rfl, rfl, rfl, by decide +kernel, rfl, by decide +kernel, by decide +kernel⟩
abbrev s_painter_line : Stmt := topS 21
abbrev N_painter_line : List Str := ["name", "day", "post", "stride"]
abbrev P_painter_line : List Str := ["name", "day", "post", "stride"]
theorem sc_painter_line : FnScope N_painter_line P_painter_line (defScope s_painter_line) := ⟨rfl, rfl, rfl, by decide +kernel, rfl, by decide +kernel, by decide +kernel⟩
abbrev s_painter_parts : Stmt := topS 22
abbrev N_painter_parts : List Str := ["line", "name", "words", "numbers", "word"]
abbrev P_painter_parts : List Str := ["line"]
theorem sc_painter_parts : FnScope N_painter_parts P_painter_parts (defScope s_painter_parts) := ⟨rfl, rfl, rfl, by decide +kernel, rfl, by decide +kernel, by decide +kernel⟩
abbrev s_Painter_text : Stmt := inClass (topS 24) 11
abbrev N_Painter_text : List Str := ["self"]
abbrev P_Painter_text : List Str := ["self"]
theorem sc_Painter_text : FnScope N_Painter_text P_Painter_text (defScope s_Painter_text) := ⟨rfl, rfl, rfl, by decide +kernel, rfl, by decide +kernel, by decide +kernel⟩
abbrev s_Painter_add : Stmt := inClass (topS 24) 15
abbrev N_Painter_add : List Str := ["self", "posts"]
abbrev P_Painter_add : List Str := ["self", "posts"]
theorem sc_Painter_add : FnScope N_Painter_add P_Painter_add (defScope s_Painter_add) := ⟨rfl, rfl, rfl, by decide +kernel, rfl, by decide +kernel, by decide +kernel⟩
abbrev s_Painter_neg : Stmt := inClass (topS 24) 16
abbrev N_Painter_neg : List Str := ["self"]
abbrev P_Painter_neg : List Str := ["self"]
theorem sc_Painter_neg : FnScope N_Painter_neg P_Painter_neg (defScope s_Painter_neg) := ⟨rfl, rfl, rfl, by decide +kernel, rfl, by decide +kernel, by decide +kernel⟩
abbrev s_Painter_eq : Stmt := inClass (topS 24) 17
abbrev N_Painter_eq : List Str := ["self", "other"]
abbrev P_Painter_eq : List Str := ["self", "other"]
theorem sc_Painter_eq : FnScope N_Painter_eq P_Painter_eq (defScope s_Painter_eq) := ⟨rfl, rfl, rfl, by decide +kernel, rfl, by decide +kernel, by decide +kernel⟩
abbrev s_Painter_read : Stmt := inClass (topS 24) 5
abbrev N_Painter_read : List Str := ["cls", "text", "parts"]
abbrev P_Painter_read : List Str := ["cls", "text"]
theorem sc_Painter_read : FnScope N_Painter_read P_Painter_read (defScope s_Painter_read) := ⟨rfl, rfl, rfl, by decide +kernel, rfl, by decide +kernel, by decide +kernel⟩
abbrev s_Fence_init : Stmt := inClass (topS 26) 0
abbrev N_Fence_init : List Str := ["self", "painters", "index", "painter", "names", "name"]
abbrev P_Fence_init : List Str := ["self", "painters"]
theorem sc_Fence_init : FnScope N_Fence_init P_Fence_init (defScope s_Fence_init) := ⟨rfl, rfl, rfl, by decide +kernel, rfl, by decide +kernel, by decide +kernel⟩
abbrev s_Fence_contains : Stmt := inClass (topS 26) 8
abbrev N_Fence_contains : List Str := ["self", "name"]
abbrev P_Fence_contains : List Str := ["self", "name"]
theorem sc_Fence_contains : FnScope N_Fence_contains P_Fence_contains (defScope s_Fence_contains) := ⟨rfl, rfl, rfl, by decide +kernel, rfl, by decide +kernel, by decide +kernel⟩
abbrev s_Fence_need_name : Stmt := inClass (topS 26) 5
abbrev N_Fence_need_name : List Str := ["self", "value"]
abbrev P_Fence_need_name : List Str := ["self", "value"]
theorem sc_Fence_need_name : FnScope N_Fence_need_name P_Fence_need_name (defScope s_Fence_need_name) := ⟨rfl, rfl, rfl, by decide +kernel, rfl, by decide +kernel, by decide +kernel⟩
abbrev s_Fence_getitem : Stmt := inClass (topS 26) 9
abbrev N_Fence_getitem : List Str := ["self", "name"]
abbrev P_Fence_getitem : List Str := ["self", "name"]
theorem sc_Fence_getitem : FnScope N_Fence_getitem P_Fence_getitem (defScope s_Fence_getitem) := ⟨rfl, rfl, rfl, by decide +kernel, rfl, by decide +kernel, by decide +kernel⟩
abbrev s_Fence_eq : Stmt := inClass (topS 26) 11
abbrev N_Fence_eq : List Str := ["self", "other"]
abbrev P_Fence_eq : List Str := ["self", "other"]
theorem sc_Fence_eq : FnScope N_Fence_eq P_Fence_eq (defScope s_Fence_eq) := ⟨rfl, rfl, rfl, by decide +kernel, rfl, by decide +kernel, by decide +kernel⟩
abbrev s_pen : Stmt := topS 28
abbrev N_pen : List Str := ["_law_script"]
abbrev P_pen : List Str := ["_law_script"]
theorem sc_pen : FnScope N_pen P_pen (defScope s_pen) := ⟨rfl, rfl, rfl, by decide +kernel, rfl, by decide +kernel, by decide +kernel⟩
abbrev s_draw : Stmt := topS 29
abbrev N_draw : List Str := ["_law_pen_here", "_law_many", "_law_digit", "_law_site", "_law_cell", "_law_mixed"]
abbrev P_draw : List Str := ["_law_pen_here", "_law_many"]
theorem sc_draw : FnScope N_draw P_draw (defScope s_draw) := ⟨rfl, rfl, rfl, by decide +kernel, rfl, by decide +kernel, by decide +kernel⟩
abbrev s_pick : Stmt := topS 30
abbrev N_pick : List Str := ["_law_pen_here", "_law_options"]
abbrev P_pick : List Str := ["_law_pen_here", "_law_options"]
theorem sc_pick : FnScope N_pick P_pick (defScope s_pick) := ⟨rfl, rfl, rfl, by decide +kernel, rfl, by decide +kernel, by decide +kernel⟩
abbrev s_around : Stmt := topS 31
abbrev N_around : List Str := ["_law_pen_here", "_law_most"]
abbrev P_around : List Str := ["_law_pen_here", "_law_most"]
theorem sc_around : FnScope N_around P_around (defScope s_around) := ⟨rfl, rfl, rfl, by decide +kernel, rfl, by decide +kernel, by decide +kernel⟩
abbrev s_power : Stmt := topS 32
abbrev N_power : List Str := ["_law_figures", "_law_found", "_law_k"]
abbrev P_power : List Str := ["_law_figures"]
theorem sc_power : FnScope N_power P_power (defScope s_power) := ⟨rfl, rfl, rfl, by decide +kernel, rfl, by decide +kernel, by decide +kernel⟩
abbrev s_great : Stmt := topS 33
abbrev N_great : List Str := ["_law_pen_here", "_law_figures", "_law_most", "_law_some"]
abbrev P_great : List Str := ["_law_pen_here", "_law_figures"]
theorem sc_great : FnScope N_great P_great (defScope s_great) := ⟨rfl, rfl, rfl, by decide +kernel, rfl, by decide +kernel, by decide +kernel⟩
abbrev s_names : Stmt := topS 34
abbrev N_names : List Str := ["_law_pen_here", "_law_many", "_law_letters", "_law_stem", "_law_front", "_law_found", "_law_step", "_law_k", "_law_own", "_law_tail"]
abbrev P_names : List Str := ["_law_pen_here", "_law_many"]
theorem sc_names : FnScope N_names P_names (defScope s_names) := ⟨rfl, rfl, rfl, by decide +kernel, rfl, by decide +kernel, by decide +kernel⟩
abbrev s_small : Stmt := topS 35
abbrev N_small : List Str := ["_law_pen_here", "_law_most", "_law_found", "_law_many", "_law_label", "_law_pace", "_law_date"]
abbrev P_small : List Str := ["_law_pen_here", "_law_most"]
theorem sc_small : FnScope N_small P_small (defScope s_small) := ⟨rfl, rfl, rfl, by decide +kernel, rfl, by decide +kernel, by decide +kernel⟩
abbrev s_aimed : Stmt := topS 36
abbrev N_aimed : List Str := ["_law_pen_here", "_law_most", "_law_found", "_law_many", "_law_hubs", "_law_k", "_law_spot", "_law_lot", "_law_label", "_law_date", "_law_some", "_law_pace", "_law_steps"]
abbrev P_aimed : List Str := ["_law_pen_here", "_law_most"]
theorem sc_aimed : FnScope N_aimed P_aimed (defScope s_aimed) := ⟨rfl, rfl, rfl, by decide +kernel, rfl, by decide +kernel, by decide +kernel⟩
abbrev s_lined : Stmt := topS 37
abbrev N_lined : List Str := ["_law_pen_here", "_law_most", "_law_found", "_law_many", "_law_lot", "_law_base", "_law_label", "_law_pace", "_law_spot", "_law_date"]
abbrev P_lined : List Str := ["_law_pen_here", "_law_most"]
theorem sc_lined : FnScope N_lined P_lined (defScope s_lined) := ⟨rfl, rfl, rfl, by decide +kernel, rfl, by decide +kernel, by decide +kernel⟩
abbrev s_painters : Stmt := topS 39
abbrev N_painters : List Str := ["_law_pen_here", "_law_way"]
abbrev P_painters : List Str := ["_law_pen_here"]
theorem sc_painters : FnScope N_painters P_painters (defScope s_painters) := ⟨rfl, rfl, rfl, by decide +kernel, rfl, by decide +kernel, by decide +kernel⟩
abbrev s_line : Stmt := topS 38
abbrev N_line : List Str := ["_law_painter", "_law_part"]
abbrev P_line : List Str := ["_law_painter"]
theorem sc_line : FnScope N_line P_line (defScope s_line) := ⟨rfl, rfl, rfl, by decide +kernel, rfl, by decide +kernel, by decide +kernel⟩
abbrev s_parts : Stmt := topS 40
abbrev N_parts : List Str := ["_law_made"]
abbrev P_parts : List Str := ["_law_made"]
theorem sc_parts : FnScope N_parts P_parts (defScope s_parts) := ⟨rfl, rfl, rfl, by decide +kernel, rfl, by decide +kernel, by decide +kernel⟩
abbrev s_added : Stmt := topS 41
abbrev N_added : List Str := ["_law_made", "_law_posts", "e"]
abbrev P_added : List Str := ["_law_made", "_law_posts"]
theorem sc_added : FnScope N_added P_added (defScope s_added) := ⟨rfl, rfl, rfl, by decide +kernel, rfl, by decide +kernel, by decide +kernel⟩
abbrev s_law : Stmt := topS 42
abbrev N_law : List Str := ["_law_script", "_law_pen_here", "_law_turn", "_law_part", "_law_name", "_law_day", "_law_post", "_law_stride", "_law_made", "_law_posts", "_law_due", "_law_some", "_law_other", "_law_twin", "_law_things", "_law_thing"]
abbrev P_law : List Str := ["_law_script"]
theorem sc_law : FnScope N_law P_law (defScope s_law) := ⟨rfl, rfl, rfl, by decide +kernel, rfl, by decide +kernel, by decide +kernel⟩
/-! ### what the top leaves -/
structure Tx (K : PySem.W.Frag) (mg : Str → Option Value) : Type where
  b_abs : mg "abs" = none
  b_all : mg "all" = none
  b_bool : mg "bool" = none
  b_enumerate : mg "enumerate" = none
  b_int : mg "int" = none
  b_isinstance : mg "isinstance" = none
  b_len : mg "len" = none
  b_list : mg "list" = none
  b_min : mg "min" = none
  b_range : mg "range" = none
  b_repr : mg "repr" = none
  b_str : mg "str" = none
  b_super : mg "super" = none
  g_is_integer : mg "is_integer" = some (.ref (He.ga K "is_integer"))
  g_is_between : mg "is_between" = some (.ref (He.ga K "is_between"))
  g_is_name : mg "is_name" = some (.ref (He.ga K "is_name"))
  g_integer_in : mg "integer_in" = some (.ref (He.ga K "integer_in"))
  g_painter_line : mg "painter_line" = some (.ref (He.ga K "painter_line"))
  g_painter_parts : mg "painter_parts" = some (.ref (He.ga K "painter_parts"))
  g_pen : mg "_law_pen" = some (.ref (He.ga K "_law_pen"))
  g_draw : mg "_law_draw" = some (.ref (He.ga K "_law_draw"))
  g_pick : mg "_law_pick" = some (.ref (He.ga K "_law_pick"))
  g_around : mg "_law_around" = some (.ref (He.ga K "_law_around"))
  g_power : mg "_law_power" = some (.ref (He.ga K "_law_power"))
  g_great : mg "_law_great" = some (.ref (He.ga K "_law_great"))
  g_names : mg "_law_names" = some (.ref (He.ga K "_law_names"))
  g_small : mg "_law_small" = some (.ref (He.ga K "_law_small"))
  g_aimed : mg "_law_aimed" = some (.ref (He.ga K "_law_aimed"))
  g_lined : mg "_law_lined" = some (.ref (He.ga K "_law_lined"))
  g_painters : mg "_law_painters" = some (.ref (He.ga K "_law_painters"))
  g_line : mg "_law_line" = some (.ref (He.ga K "_law_line"))
  g_parts : mg "_law_parts" = some (.ref (He.ga K "_law_parts"))
  g_added : mg "_law_added" = some (.ref (He.ga K "_law_added"))
  g_law : mg "law" = some (.ref (He.ga K "law"))
  g_is_name_names : mg "is_name_names" = some (.ref (He.ga K "is_name"))
  g_MAX_NAME : ∃ t, mg "MAX_NAME" = some (.int 8 t)
  g_LETTERS : ∃ t, mg "LETTERS" = some (.str "abcdefghijklmnopqrstuvwxyz" t)
  g_MAX_PAINTERS : ∃ t, mg "MAX_PAINTERS" = some (.int 40 t)
  g_MAX_DIGITS : ∃ t, mg "MAX_DIGITS" = some (.int 80 t)
  g_DIGITS : ∃ t, mg "DIGITS" = some (.str "0123456789" t)
  g_Painter : mg "Painter" = some (.ref (He.ga K "Painter"))
  c_Painter : Cls K (He.ga K "Painter")
  k_Painter : Mk K (He.ga K "Painter") (He.ma K (He.ga K "Painter") "__init__")
  n_Painter_parts : NoAttr K (He.ga K "Painter") "parts"
  o_Painter_MAX_DAY : ∃ u, Con K (He.ga K "Painter") "MAX_DAY" (.int 1000000000000000000000000000000) u
  o_Painter_MAX_POST : ∃ u, Con K (He.ga K "Painter") "MAX_POST" (.int 1000000000000000000000000000000) u
  o_Painter_MAX_STRIDE : ∃ u, Con K (He.ga K "Painter") "MAX_STRIDE" (.int 1000000000000000000) u
  p_Painter_name : PropOf K (He.ga K "Painter") "name" (He.ma K (He.ga K "Painter") "name") (pgA K (He.ga K "Painter") "name")
  p_Painter_day : PropOf K (He.ga K "Painter") "day" (He.ma K (He.ga K "Painter") "day") (pgA K (He.ga K "Painter") "day")
  p_Painter_post : PropOf K (He.ga K "Painter") "post" (He.ma K (He.ga K "Painter") "post") (pgA K (He.ga K "Painter") "post")
  p_Painter_stride : PropOf K (He.ga K "Painter") "stride" (He.ma K (He.ga K "Painter") "stride") (pgA K (He.ga K "Painter") "stride")
  p_Painter_text : PropOf K (He.ga K "Painter") "text" (He.ma K (He.ga K "Painter") "text") (pgA K (He.ga K "Painter") "text")
  m_Painter___add__ : Meth K (He.ga K "Painter") "__add__" (He.ma K (He.ga K "Painter") "__add__")
  m_Painter___neg__ : Meth K (He.ga K "Painter") "__neg__" (He.ma K (He.ga K "Painter") "__neg__")
  m_Painter___eq__ : Meth K (He.ga K "Painter") "__eq__" (He.ma K (He.ga K "Painter") "__eq__")
  cm_Painter_read : CmOf K (He.ga K "Painter") "read"
  g_Fence : mg "Fence" = some (.ref (He.ga K "Fence"))
  c_Fence : Cls K (He.ga K "Fence")
  k_Fence : Mk K (He.ga K "Fence") (He.ma K (He.ga K "Fence") "__init__")
  n_Fence_listed : NoAttr K (He.ga K "Fence") "listed"
  n_Fence_places : NoAttr K (He.ga K "Fence") "places"
  m_Fence___contains__ : Meth K (He.ga K "Fence") "__contains__" (He.ma K (He.ga K "Fence") "__contains__")
  m_Fence_need_name : Meth K (He.ga K "Fence") "need_name" (He.ma K (He.ga K "Fence") "need_name")
  m_Fence___getitem__ : Meth K (He.ga K "Fence") "__getitem__" (He.ma K (He.ga K "Fence") "__getitem__")
  m_Fence___eq__ : Meth K (He.ga K "Fence") "__eq__" (He.ma K (He.ga K "Fence") "__eq__")
  n_Painter___radd__ : NoAttr K (He.ga K "Painter") "__radd__"
  sf_Painter : PySem.W.selfFirst K (He.ga K "Painter") = true
  ne_Painter : PySem.W.findIn K (.ref (He.ga K "Painter")) "__ne__" = some (some (.builtin "object.__ne__")) ∧ PySem.W.mroIn K (He.ga K "Painter") (.type "object") = some true
  ne_Fence : PySem.W.findIn K (.ref (He.ga K "Fence")) "__ne__" = some (some (.builtin "object.__ne__")) ∧ PySem.W.mroIn K (He.ga K "Fence") (.type "object") = some true
  sub_Painter_Fence : PySem.W.subIn K (.ref (He.ga K "Painter")) (.ref (He.ga K "Fence")) = some false ∧ (Value.ref (He.ga K "Fence") == Value.ref (He.ga K "Painter")) = false
  is_Painter : IsC K (He.ga K "Painter")
  is_Fence : IsC K (He.ga K "Fence")
  g_DuplicateName : mg "DuplicateName" = some (.ref (He.ga K "DuplicateName"))
  er_DuplicateName : ErM.ErrT mainF K "value" "value" (He.ga K "DuplicateName") (He.ma K (He.ga K "DuplicateName") "__init__") "ValueError" "ValueError" "ValueError.__new__" "ValueError.__init__" ErM.tlV
  g_InvalidFence : mg "InvalidFence" = some (.ref (He.ga K "InvalidFence"))
  er_InvalidFence : ErM.ErrT mainF K "index" "index" (He.ga K "InvalidFence") (He.ma K (He.ga K "InvalidFence") "__init__") "ValueError" "ValueError" "ValueError.__new__" "ValueError.__init__" ErM.tlV
  g_InvalidPainter : mg "InvalidPainter" = some (.ref (He.ga K "InvalidPainter"))
  er_InvalidPainter : ErM.ErrT mainF K "reason" "reason" (He.ga K "InvalidPainter") (He.ma K (He.ga K "InvalidPainter") "__init__") "ValueError" "ValueError" "ValueError.__new__" "ValueError.__init__" ErM.tlV
  g_ParseError : mg "ParseError" = some (.ref (He.ga K "ParseError"))
  er_ParseError : ErM.ErrT mainF K "line" "line" (He.ga K "ParseError") (He.ma K (He.ga K "ParseError") "__init__") "ValueError" "ValueError" "ValueError.__new__" "ValueError.__init__" ErM.tlV
  g_TooMany : mg "TooMany" = some (.ref (He.ga K "TooMany"))
  er_TooMany : ErM.ErrT mainF K "limit" "limit" (He.ga K "TooMany") (He.ma K (He.ga K "TooMany") "__init__") "OverflowError" "OverflowError" "OverflowError.__new__" "OverflowError.__init__" ErM.tlO
  g_UnknownName : mg "UnknownName" = some (.ref (He.ga K "UnknownName"))
  er_UnknownName : ErM.ErrT mainF K "value" "value" (He.ga K "UnknownName") (He.ma K (He.ga K "UnknownName") "__init__") "KeyError" "LookupError" "LookupError.__new__" "KeyError.__init__" ErM.tlK
  ex_es : ∀ c ∈ (["DuplicateName", "InvalidFence", "InvalidPainter", "ParseError", "TooMany", "UnknownName"] : List Str), ∀ c2 ∈ (["DuplicateName", "InvalidFence", "InvalidPainter", "ParseError", "TooMany", "UnknownName"] : List Str), PySem.W.exmOne K (.ref (He.ga K c)) (.ref (He.ga K c2)) = some (decide (c = c2))
  xi_InvalidPainter : ExI K "InvalidPainter" [("ValueError", true)] []
  fd_is_integer : FuncData
  fn_is_integer : FunD K "is_integer" "is_integer" (defArgs s_is_integer) (defBody s_is_integer) (defScope s_is_integer) [] [] (He.ga K "is_integer") fd_is_integer
  fd_is_between : FuncData
  fn_is_between : FunD K "is_between" "is_between" (defArgs s_is_between) (defBody s_is_between) (defScope s_is_between) [] [] (He.ga K "is_between") fd_is_between
  fd_is_name : FuncData
  fn_is_name : FunD K "is_name" "is_name" (defArgs s_is_name) (defBody s_is_name) (defScope s_is_name) [] [] (He.ga K "is_name") fd_is_name
  fd_Painter_init : FuncData
  fn_Painter_init : FunD K "__init__" "Painter.__init__" (defArgs s_Painter_init) (defBody s_Painter_init) (defScope s_Painter_init) [] [] (He.ma K (He.ga K "Painter") "__init__") fd_Painter_init
  fd_Painter_name : FuncData
  fn_Painter_name : FunD K "name" "Painter.name" (defArgs s_Painter_name) (defBody s_Painter_name) (defScope s_Painter_name) [] [] (pgA K (He.ga K "Painter") "name") fd_Painter_name
  fd_Painter_day : FuncData
  fn_Painter_day : FunD K "day" "Painter.day" (defArgs s_Painter_day) (defBody s_Painter_day) (defScope s_Painter_day) [] [] (pgA K (He.ga K "Painter") "day") fd_Painter_day
  fd_Painter_post : FuncData
  fn_Painter_post : FunD K "post" "Painter.post" (defArgs s_Painter_post) (defBody s_Painter_post) (defScope s_Painter_post) [] [] (pgA K (He.ga K "Painter") "post") fd_Painter_post
  fd_Painter_stride : FuncData
  fn_Painter_stride : FunD K "stride" "Painter.stride" (defArgs s_Painter_stride) (defBody s_Painter_stride) (defScope s_Painter_stride) [] [] (pgA K (He.ga K "Painter") "stride") fd_Painter_stride
  fd_integer_in : FuncData
  fn_integer_in : FunD K "integer_in" "integer_in" (defArgs s_integer_in) (defBody s_integer_in) (defScope s_integer_in) [.int 80] [] (He.ga K "integer_in") fd_integer_in
  fd_painter_line : FuncData
  fn_painter_line : FunD K "painter_line" "painter_line" (defArgs s_painter_line) (defBody s_painter_line) (defScope s_painter_line) [] [] (He.ga K "painter_line") fd_painter_line
  fd_painter_parts : FuncData
  fn_painter_parts : FunD K "painter_parts" "painter_parts" (defArgs s_painter_parts) (defBody s_painter_parts) (defScope s_painter_parts) [] [] (He.ga K "painter_parts") fd_painter_parts
  fd_Painter_text : FuncData
  fn_Painter_text : FunD K "text" "Painter.text" (defArgs s_Painter_text) (defBody s_Painter_text) (defScope s_Painter_text) [] [] (pgA K (He.ga K "Painter") "text") fd_Painter_text
  fd_Painter_add : FuncData
  fn_Painter_add : FunD K "__add__" "Painter.__add__" (defArgs s_Painter_add) (defBody s_Painter_add) (defScope s_Painter_add) [] [] (He.ma K (He.ga K "Painter") "__add__") fd_Painter_add
  fd_Painter_neg : FuncData
  fn_Painter_neg : FunD K "__neg__" "Painter.__neg__" (defArgs s_Painter_neg) (defBody s_Painter_neg) (defScope s_Painter_neg) [] [] (He.ma K (He.ga K "Painter") "__neg__") fd_Painter_neg
  fd_Painter_eq : FuncData
  fn_Painter_eq : FunD K "__eq__" "Painter.__eq__" (defArgs s_Painter_eq) (defBody s_Painter_eq) (defScope s_Painter_eq) [] [] (He.ma K (He.ga K "Painter") "__eq__") fd_Painter_eq
  fd_Painter_read : FuncData
  fn_Painter_read : FunD K "read" "Painter.read" (defArgs s_Painter_read) (defBody s_Painter_read) (defScope s_Painter_read) [] [] (cmA K (He.ga K "Painter") "read") fd_Painter_read
  fd_Fence_init : FuncData
  fn_Fence_init : FunD K "__init__" "Fence.__init__" (defArgs s_Fence_init) (defBody s_Fence_init) (defScope s_Fence_init) [] [] (He.ma K (He.ga K "Fence") "__init__") fd_Fence_init
  fd_Fence_contains : FuncData
  fn_Fence_contains : FunD K "__contains__" "Fence.__contains__" (defArgs s_Fence_contains) (defBody s_Fence_contains) (defScope s_Fence_contains) [] [] (He.ma K (He.ga K "Fence") "__contains__") fd_Fence_contains
  fd_Fence_need_name : FuncData
  fn_Fence_need_name : FunD K "need_name" "Fence.need_name" (defArgs s_Fence_need_name) (defBody s_Fence_need_name) (defScope s_Fence_need_name) [] [] (He.ma K (He.ga K "Fence") "need_name") fd_Fence_need_name
  fd_Fence_getitem : FuncData
  fn_Fence_getitem : FunD K "__getitem__" "Fence.__getitem__" (defArgs s_Fence_getitem) (defBody s_Fence_getitem) (defScope s_Fence_getitem) [] [] (He.ma K (He.ga K "Fence") "__getitem__") fd_Fence_getitem
  fd_Fence_eq : FuncData
  fn_Fence_eq : FunD K "__eq__" "Fence.__eq__" (defArgs s_Fence_eq) (defBody s_Fence_eq) (defScope s_Fence_eq) [] [] (He.ma K (He.ga K "Fence") "__eq__") fd_Fence_eq
  fd_pen : FuncData
  fn_pen : FunD K "_law_pen" "_law_pen" (defArgs s_pen) (defBody s_pen) (defScope s_pen) [] [] (He.ga K "_law_pen") fd_pen
  fd_draw : FuncData
  fn_draw : FunD K "_law_draw" "_law_draw" (defArgs s_draw) (defBody s_draw) (defScope s_draw) [] [] (He.ga K "_law_draw") fd_draw
  fd_pick : FuncData
  fn_pick : FunD K "_law_pick" "_law_pick" (defArgs s_pick) (defBody s_pick) (defScope s_pick) [] [] (He.ga K "_law_pick") fd_pick
  fd_around : FuncData
  fn_around : FunD K "_law_around" "_law_around" (defArgs s_around) (defBody s_around) (defScope s_around) [] [] (He.ga K "_law_around") fd_around
  fd_power : FuncData
  fn_power : FunD K "_law_power" "_law_power" (defArgs s_power) (defBody s_power) (defScope s_power) [] [] (He.ga K "_law_power") fd_power
  fd_great : FuncData
  fn_great : FunD K "_law_great" "_law_great" (defArgs s_great) (defBody s_great) (defScope s_great) [] [] (He.ga K "_law_great") fd_great
  fd_names : FuncData
  fn_names : FunD K "_law_names" "_law_names" (defArgs s_names) (defBody s_names) (defScope s_names) [] [] (He.ga K "_law_names") fd_names
  fd_small : FuncData
  fn_small : FunD K "_law_small" "_law_small" (defArgs s_small) (defBody s_small) (defScope s_small) [] [] (He.ga K "_law_small") fd_small
  fd_aimed : FuncData
  fn_aimed : FunD K "_law_aimed" "_law_aimed" (defArgs s_aimed) (defBody s_aimed) (defScope s_aimed) [] [] (He.ga K "_law_aimed") fd_aimed
  fd_lined : FuncData
  fn_lined : FunD K "_law_lined" "_law_lined" (defArgs s_lined) (defBody s_lined) (defScope s_lined) [] [] (He.ga K "_law_lined") fd_lined
  fd_painters : FuncData
  fn_painters : FunD K "_law_painters" "_law_painters" (defArgs s_painters) (defBody s_painters) (defScope s_painters) [] [] (He.ga K "_law_painters") fd_painters
  fd_line : FuncData
  fn_line : FunD K "_law_line" "_law_line" (defArgs s_line) (defBody s_line) (defScope s_line) [] [] (He.ga K "_law_line") fd_line
  fd_parts : FuncData
  fn_parts : FunD K "_law_parts" "_law_parts" (defArgs s_parts) (defBody s_parts) (defScope s_parts) [] [] (He.ga K "_law_parts") fd_parts
  fd_added : FuncData
  fn_added : FunD K "_law_added" "_law_added" (defArgs s_added) (defBody s_added) (defScope s_added) [] [] (He.ga K "_law_added") fd_added
  fd_law : FuncData
  fn_law : FunD K "law" "law" (defArgs s_law) (defBody s_law) (defScope s_law) [] [] (He.ga K "law") fd_law
def exs0 : List Fct := [(He.Fa.free "abs").ok,
  (He.Fa.free "all").ok,
  (He.Fa.free "bool").ok,
  (He.Fa.free "enumerate").ok,
  (He.Fa.free "int").ok,
  (He.Fa.free "isinstance").ok,
  (He.Fa.free "len").ok,
  (He.Fa.free "list").ok,
  (He.Fa.free "min").ok,
  (He.Fa.free "range").ok,
  (He.Fa.free "repr").ok,
  (He.Fa.free "str").ok,
  (He.Fa.free "super").ok,
  (He.Fa.glo "is_integer").ok,
  (He.Fa.glo "is_between").ok,
  (He.Fa.glo "is_name").ok,
  (He.Fa.glo "integer_in").ok,
  (He.Fa.glo "painter_line").ok,
  (He.Fa.glo "painter_parts").ok,
  (He.Fa.glo "_law_pen").ok,
  (He.Fa.glo "_law_draw").ok,
  (He.Fa.glo "_law_pick").ok,
  (He.Fa.glo "_law_around").ok,
  (He.Fa.glo "_law_power").ok,
  (He.Fa.glo "_law_great").ok,
  (He.Fa.glo "_law_names").ok,
  (He.Fa.glo "_law_small").ok,
  (He.Fa.glo "_law_aimed").ok,
  (He.Fa.glo "_law_lined").ok,
  (He.Fa.glo "_law_painters").ok,
  (He.Fa.glo "_law_line").ok,
  (He.Fa.glo "_law_parts").ok,
  (He.Fa.glo "_law_added").ok,
  (He.Fa.glo "law").ok,
  (fun K => (He.Fa.glo "is_name_names").ok K && decide (He.ga K "is_name_names" = He.ga K "is_name")),
  (He.Fa.int "MAX_NAME" 8).ok,
  (He.Fa.str "LETTERS" "abcdefghijklmnopqrstuvwxyz").ok,
  (He.Fa.int "MAX_PAINTERS" 40).ok,
  (He.Fa.int "MAX_DIGITS" 80).ok,
  (He.Fa.str "DIGITS" "0123456789").ok,
  (He.Fa.glo "Painter").ok,
  (He.Fa.cls "Painter").ok,
  (He.Fa.mkr "Painter").ok,
  (He.Fa.noat "Painter" "parts").ok,
  (fun K => He.conB K "Painter" "MAX_DAY" (.int 1000000000000000000000000000000)),
  (fun K => He.conB K "Painter" "MAX_POST" (.int 1000000000000000000000000000000)),
  (fun K => He.conB K "Painter" "MAX_STRIDE" (.int 1000000000000000000)),
  (propB "Painter" "name"),
  (propB "Painter" "day"),
  (propB "Painter" "post"),
  (propB "Painter" "stride"),
  (propB "Painter" "text"),
  (He.Fa.meth "Painter" "__add__").ok,
  (He.Fa.meth "Painter" "__neg__").ok,
  (He.Fa.meth "Painter" "__eq__").ok,
  (cmB "Painter" "read"),
  (He.Fa.glo "Fence").ok,
  (He.Fa.cls "Fence").ok,
  (He.Fa.mkr "Fence").ok,
  (He.Fa.noat "Fence" "listed").ok,
  (He.Fa.noat "Fence" "places").ok,
  (He.Fa.meth "Fence" "__contains__").ok,
  (He.Fa.meth "Fence" "need_name").ok,
  (He.Fa.meth "Fence" "__getitem__").ok,
  (He.Fa.meth "Fence" "__eq__").ok,
  (He.Fa.noat "Painter" "__radd__").ok,
  (fun K => PySem.W.selfFirst K (He.ga K "Painter")),
  (fun K => decide (PySem.W.findIn K (.ref (He.ga K "Painter")) "__ne__" = some (some (.builtin "object.__ne__"))) && decide (PySem.W.mroIn K (He.ga K "Painter") (.type "object") = some true)),
  (fun K => decide (PySem.W.findIn K (.ref (He.ga K "Fence")) "__ne__" = some (some (.builtin "object.__ne__"))) && decide (PySem.W.mroIn K (He.ga K "Fence") (.type "object") = some true)),
  (subB "Painter" "Fence"),
  (isCB "Painter"),
  (isCB "Fence"),
  (He.Fa.glo "DuplicateName").ok,
  (errB mainF "value" "value" "DuplicateName" "ValueError.__new__" ErM.tlV),
  (He.Fa.glo "InvalidFence").ok,
  (errB mainF "index" "index" "InvalidFence" "ValueError.__new__" ErM.tlV),
  (He.Fa.glo "InvalidPainter").ok,
  (errB mainF "reason" "reason" "InvalidPainter" "ValueError.__new__" ErM.tlV),
  (He.Fa.glo "ParseError").ok,
  (errB mainF "line" "line" "ParseError" "ValueError.__new__" ErM.tlV),
  (He.Fa.glo "TooMany").ok,
  (errB mainF "limit" "limit" "TooMany" "OverflowError.__new__" ErM.tlO),
  (He.Fa.glo "UnknownName").ok,
  (errB mainF "value" "value" "UnknownName" "LookupError.__new__" ErM.tlK),
  (exmB ["DuplicateName", "InvalidFence", "InvalidPainter", "ParseError", "TooMany", "UnknownName"]),
  (exiB "InvalidPainter" [("ValueError", true)] [])]
def exs : List Fct := exs0
def d_is_integer : He5.DefA := ⟨fun K => He.ga K "is_integer", "is_integer", "is_integer", defArgs s_is_integer, defBody s_is_integer, defScope s_is_integer, [], []⟩
def d_is_between : He5.DefA := ⟨fun K => He.ga K "is_between", "is_between", "is_between", defArgs s_is_between, defBody s_is_between, defScope s_is_between, [], []⟩
def d_is_name : He5.DefA := ⟨fun K => He.ga K "is_name", "is_name", "is_name", defArgs s_is_name, defBody s_is_name, defScope s_is_name, [], []⟩
def d_Painter_init : He5.DefA := ⟨fun K => He.ma K (He.ga K "Painter") "__init__", "__init__", "Painter.__init__", defArgs s_Painter_init, defBody s_Painter_init, defScope s_Painter_init, [], []⟩
def d_Painter_name : He5.DefA := ⟨fun K => pgA K (He.ga K "Painter") "name", "name", "Painter.name", defArgs s_Painter_name, defBody s_Painter_name, defScope s_Painter_name, [], []⟩
def d_Painter_day : He5.DefA := ⟨fun K => pgA K (He.ga K "Painter") "day", "day", "Painter.day", defArgs s_Painter_day, defBody s_Painter_day, defScope s_Painter_day, [], []⟩
def d_Painter_post : He5.DefA := ⟨fun K => pgA K (He.ga K "Painter") "post", "post", "Painter.post", defArgs s_Painter_post, defBody s_Painter_post, defScope s_Painter_post, [], []⟩
def d_Painter_stride : He5.DefA := ⟨fun K => pgA K (He.ga K "Painter") "stride", "stride", "Painter.stride", defArgs s_Painter_stride, defBody s_Painter_stride, defScope s_Painter_stride, [], []⟩
def d_integer_in : He5.DefA := ⟨fun K => He.ga K "integer_in", "integer_in", "integer_in", defArgs s_integer_in, defBody s_integer_in, defScope s_integer_in, [.int 80], []⟩
def d_painter_line : He5.DefA := ⟨fun K => He.ga K "painter_line", "painter_line", "painter_line", defArgs s_painter_line, defBody s_painter_line, defScope s_painter_line, [], []⟩
def d_painter_parts : He5.DefA := ⟨fun K => He.ga K "painter_parts", "painter_parts", "painter_parts", defArgs s_painter_parts, defBody s_painter_parts, defScope s_painter_parts, [], []⟩
def d_Painter_text : He5.DefA := ⟨fun K => pgA K (He.ga K "Painter") "text", "text", "Painter.text", defArgs s_Painter_text, defBody s_Painter_text, defScope s_Painter_text, [], []⟩
def d_Painter_add : He5.DefA := ⟨fun K => He.ma K (He.ga K "Painter") "__add__", "__add__", "Painter.__add__", defArgs s_Painter_add, defBody s_Painter_add, defScope s_Painter_add, [], []⟩
def d_Painter_neg : He5.DefA := ⟨fun K => He.ma K (He.ga K "Painter") "__neg__", "__neg__", "Painter.__neg__", defArgs s_Painter_neg, defBody s_Painter_neg, defScope s_Painter_neg, [], []⟩
def d_Painter_eq : He5.DefA := ⟨fun K => He.ma K (He.ga K "Painter") "__eq__", "__eq__", "Painter.__eq__", defArgs s_Painter_eq, defBody s_Painter_eq, defScope s_Painter_eq, [], []⟩
def d_Painter_read : He5.DefA := ⟨fun K => cmA K (He.ga K "Painter") "read", "read", "Painter.read", defArgs s_Painter_read, defBody s_Painter_read, defScope s_Painter_read, [], []⟩
def d_Fence_init : He5.DefA := ⟨fun K => He.ma K (He.ga K "Fence") "__init__", "__init__", "Fence.__init__", defArgs s_Fence_init, defBody s_Fence_init, defScope s_Fence_init, [], []⟩
def d_Fence_contains : He5.DefA := ⟨fun K => He.ma K (He.ga K "Fence") "__contains__", "__contains__", "Fence.__contains__", defArgs s_Fence_contains, defBody s_Fence_contains, defScope s_Fence_contains, [], []⟩
def d_Fence_need_name : He5.DefA := ⟨fun K => He.ma K (He.ga K "Fence") "need_name", "need_name", "Fence.need_name", defArgs s_Fence_need_name, defBody s_Fence_need_name, defScope s_Fence_need_name, [], []⟩
def d_Fence_getitem : He5.DefA := ⟨fun K => He.ma K (He.ga K "Fence") "__getitem__", "__getitem__", "Fence.__getitem__", defArgs s_Fence_getitem, defBody s_Fence_getitem, defScope s_Fence_getitem, [], []⟩
def d_Fence_eq : He5.DefA := ⟨fun K => He.ma K (He.ga K "Fence") "__eq__", "__eq__", "Fence.__eq__", defArgs s_Fence_eq, defBody s_Fence_eq, defScope s_Fence_eq, [], []⟩
def d_pen : He5.DefA := ⟨fun K => He.ga K "_law_pen", "_law_pen", "_law_pen", defArgs s_pen, defBody s_pen, defScope s_pen, [], []⟩
def d_draw : He5.DefA := ⟨fun K => He.ga K "_law_draw", "_law_draw", "_law_draw", defArgs s_draw, defBody s_draw, defScope s_draw, [], []⟩
def d_pick : He5.DefA := ⟨fun K => He.ga K "_law_pick", "_law_pick", "_law_pick", defArgs s_pick, defBody s_pick, defScope s_pick, [], []⟩
def d_around : He5.DefA := ⟨fun K => He.ga K "_law_around", "_law_around", "_law_around", defArgs s_around, defBody s_around, defScope s_around, [], []⟩
def d_power : He5.DefA := ⟨fun K => He.ga K "_law_power", "_law_power", "_law_power", defArgs s_power, defBody s_power, defScope s_power, [], []⟩
def d_great : He5.DefA := ⟨fun K => He.ga K "_law_great", "_law_great", "_law_great", defArgs s_great, defBody s_great, defScope s_great, [], []⟩
def d_names : He5.DefA := ⟨fun K => He.ga K "_law_names", "_law_names", "_law_names", defArgs s_names, defBody s_names, defScope s_names, [], []⟩
def d_small : He5.DefA := ⟨fun K => He.ga K "_law_small", "_law_small", "_law_small", defArgs s_small, defBody s_small, defScope s_small, [], []⟩
def d_aimed : He5.DefA := ⟨fun K => He.ga K "_law_aimed", "_law_aimed", "_law_aimed", defArgs s_aimed, defBody s_aimed, defScope s_aimed, [], []⟩
def d_lined : He5.DefA := ⟨fun K => He.ga K "_law_lined", "_law_lined", "_law_lined", defArgs s_lined, defBody s_lined, defScope s_lined, [], []⟩
def d_painters : He5.DefA := ⟨fun K => He.ga K "_law_painters", "_law_painters", "_law_painters", defArgs s_painters, defBody s_painters, defScope s_painters, [], []⟩
def d_line : He5.DefA := ⟨fun K => He.ga K "_law_line", "_law_line", "_law_line", defArgs s_line, defBody s_line, defScope s_line, [], []⟩
def d_parts : He5.DefA := ⟨fun K => He.ga K "_law_parts", "_law_parts", "_law_parts", defArgs s_parts, defBody s_parts, defScope s_parts, [], []⟩
def d_added : He5.DefA := ⟨fun K => He.ga K "_law_added", "_law_added", "_law_added", defArgs s_added, defBody s_added, defScope s_added, [], []⟩
def d_law : He5.DefA := ⟨fun K => He.ga K "law", "law", "law", defArgs s_law, defBody s_law, defScope s_law, [], []⟩
def dfs0 : List He5.DefA := [d_is_integer, d_is_between, d_is_name, d_Painter_init, d_Painter_name, d_Painter_day, d_Painter_post, d_Painter_stride, d_integer_in, d_painter_line, d_painter_parts, d_Painter_text, d_Painter_add, d_Painter_neg, d_Painter_eq, d_Painter_read, d_Fence_init, d_Fence_contains, d_Fence_need_name, d_Fence_getitem, d_Fence_eq, d_pen, d_draw, d_pick, d_around, d_power, d_great, d_names, d_small, d_aimed, d_lined, d_painters, d_line, d_parts, d_added, d_law]
def dfs : List He5.DefA := dfs0
theorem tx_of {K : PySem.W.Frag} {h : Heap} {mg : Str → Option Value} (X : K.In h) (G : h.Ns mainGlobals mg) (c : SaysM exs dfs K) : Nonempty (Tx K mg) := by
  obtain ⟨fd0, fn0⟩ := c.fn_ 0 (d := d_is_integer) rfl
  obtain ⟨fd1, fn1⟩ := c.fn_ 1 (d := d_is_between) rfl
  obtain ⟨fd2, fn2⟩ := c.fn_ 2 (d := d_is_name) rfl
  obtain ⟨fd3, fn3⟩ := c.fn_ 3 (d := d_Painter_init) rfl
  obtain ⟨fd4, fn4⟩ := c.fn_ 4 (d := d_Painter_name) rfl
  obtain ⟨fd5, fn5⟩ := c.fn_ 5 (d := d_Painter_day) rfl
  obtain ⟨fd6, fn6⟩ := c.fn_ 6 (d := d_Painter_post) rfl
  obtain ⟨fd7, fn7⟩ := c.fn_ 7 (d := d_Painter_stride) rfl
  obtain ⟨fd8, fn8⟩ := c.fn_ 8 (d := d_integer_in) rfl
  obtain ⟨fd9, fn9⟩ := c.fn_ 9 (d := d_painter_line) rfl
  obtain ⟨fd10, fn10⟩ := c.fn_ 10 (d := d_painter_parts) rfl
  obtain ⟨fd11, fn11⟩ := c.fn_ 11 (d := d_Painter_text) rfl
  obtain ⟨fd12, fn12⟩ := c.fn_ 12 (d := d_Painter_add) rfl
  obtain ⟨fd13, fn13⟩ := c.fn_ 13 (d := d_Painter_neg) rfl
  obtain ⟨fd14, fn14⟩ := c.fn_ 14 (d := d_Painter_eq) rfl
  obtain ⟨fd15, fn15⟩ := c.fn_ 15 (d := d_Painter_read) rfl
  obtain ⟨fd16, fn16⟩ := c.fn_ 16 (d := d_Fence_init) rfl
  obtain ⟨fd17, fn17⟩ := c.fn_ 17 (d := d_Fence_contains) rfl
  obtain ⟨fd18, fn18⟩ := c.fn_ 18 (d := d_Fence_need_name) rfl
  obtain ⟨fd19, fn19⟩ := c.fn_ 19 (d := d_Fence_getitem) rfl
  obtain ⟨fd20, fn20⟩ := c.fn_ 20 (d := d_Fence_eq) rfl
  obtain ⟨fd21, fn21⟩ := c.fn_ 21 (d := d_pen) rfl
  obtain ⟨fd22, fn22⟩ := c.fn_ 22 (d := d_draw) rfl
  obtain ⟨fd23, fn23⟩ := c.fn_ 23 (d := d_pick) rfl
  obtain ⟨fd24, fn24⟩ := c.fn_ 24 (d := d_around) rfl
  obtain ⟨fd25, fn25⟩ := c.fn_ 25 (d := d_power) rfl
  obtain ⟨fd26, fn26⟩ := c.fn_ 26 (d := d_great) rfl
  obtain ⟨fd27, fn27⟩ := c.fn_ 27 (d := d_names) rfl
  obtain ⟨fd28, fn28⟩ := c.fn_ 28 (d := d_small) rfl
  obtain ⟨fd29, fn29⟩ := c.fn_ 29 (d := d_aimed) rfl
  obtain ⟨fd30, fn30⟩ := c.fn_ 30 (d := d_lined) rfl
  obtain ⟨fd31, fn31⟩ := c.fn_ 31 (d := d_painters) rfl
  obtain ⟨fd32, fn32⟩ := c.fn_ 32 (d := d_line) rfl
  obtain ⟨fd33, fn33⟩ := c.fn_ 33 (d := d_parts) rfl
  obtain ⟨fd34, fn34⟩ := c.fn_ 34 (d := d_added) rfl
  obtain ⟨fd35, fn35⟩ := c.fn_ 35 (d := d_law) rfl
  exact ⟨{
    b_abs := He.free_ok X G (c.fact 0 (f := (He.Fa.free "abs").ok) rfl)
    b_all := He.free_ok X G (c.fact 1 (f := (He.Fa.free "all").ok) rfl)
    b_bool := He.free_ok X G (c.fact 2 (f := (He.Fa.free "bool").ok) rfl)
    b_enumerate := He.free_ok X G (c.fact 3 (f := (He.Fa.free "enumerate").ok) rfl)
    b_int := He.free_ok X G (c.fact 4 (f := (He.Fa.free "int").ok) rfl)
    b_isinstance := He.free_ok X G (c.fact 5 (f := (He.Fa.free "isinstance").ok) rfl)
    b_len := He.free_ok X G (c.fact 6 (f := (He.Fa.free "len").ok) rfl)
    b_list := He.free_ok X G (c.fact 7 (f := (He.Fa.free "list").ok) rfl)
    b_min := He.free_ok X G (c.fact 8 (f := (He.Fa.free "min").ok) rfl)
    b_range := He.free_ok X G (c.fact 9 (f := (He.Fa.free "range").ok) rfl)
    b_repr := He.free_ok X G (c.fact 10 (f := (He.Fa.free "repr").ok) rfl)
    b_str := He.free_ok X G (c.fact 11 (f := (He.Fa.free "str").ok) rfl)
    b_super := He.free_ok X G (c.fact 12 (f := (He.Fa.free "super").ok) rfl)
    g_is_integer := He.glo_ok X G (c.fact 13 (f := (He.Fa.glo "is_integer").ok) rfl)
    g_is_between := He.glo_ok X G (c.fact 14 (f := (He.Fa.glo "is_between").ok) rfl)
    g_is_name := He.glo_ok X G (c.fact 15 (f := (He.Fa.glo "is_name").ok) rfl)
    g_integer_in := He.glo_ok X G (c.fact 16 (f := (He.Fa.glo "integer_in").ok) rfl)
    g_painter_line := He.glo_ok X G (c.fact 17 (f := (He.Fa.glo "painter_line").ok) rfl)
    g_painter_parts := He.glo_ok X G (c.fact 18 (f := (He.Fa.glo "painter_parts").ok) rfl)
    g_pen := He.glo_ok X G (c.fact 19 (f := (He.Fa.glo "_law_pen").ok) rfl)
    g_draw := He.glo_ok X G (c.fact 20 (f := (He.Fa.glo "_law_draw").ok) rfl)
    g_pick := He.glo_ok X G (c.fact 21 (f := (He.Fa.glo "_law_pick").ok) rfl)
    g_around := He.glo_ok X G (c.fact 22 (f := (He.Fa.glo "_law_around").ok) rfl)
    g_power := He.glo_ok X G (c.fact 23 (f := (He.Fa.glo "_law_power").ok) rfl)
    g_great := He.glo_ok X G (c.fact 24 (f := (He.Fa.glo "_law_great").ok) rfl)
    g_names := He.glo_ok X G (c.fact 25 (f := (He.Fa.glo "_law_names").ok) rfl)
    g_small := He.glo_ok X G (c.fact 26 (f := (He.Fa.glo "_law_small").ok) rfl)
    g_aimed := He.glo_ok X G (c.fact 27 (f := (He.Fa.glo "_law_aimed").ok) rfl)
    g_lined := He.glo_ok X G (c.fact 28 (f := (He.Fa.glo "_law_lined").ok) rfl)
    g_painters := He.glo_ok X G (c.fact 29 (f := (He.Fa.glo "_law_painters").ok) rfl)
    g_line := He.glo_ok X G (c.fact 30 (f := (He.Fa.glo "_law_line").ok) rfl)
    g_parts := He.glo_ok X G (c.fact 31 (f := (He.Fa.glo "_law_parts").ok) rfl)
    g_added := He.glo_ok X G (c.fact 32 (f := (He.Fa.glo "_law_added").ok) rfl)
    g_law := He.glo_ok X G (c.fact 33 (f := (He.Fa.glo "law").ok) rfl)
    g_is_name_names := (by have z := He.ba (c.fact 34 (f := (fun K => (He.Fa.glo "is_name_names").ok K && decide (He.ga K "is_name_names" = He.ga K "is_name"))) rfl); rw [← of_decide_eq_true z.2]; exact He.glo_ok X G z.1)
    g_MAX_NAME := He.int_ok X G (c.fact 35 (f := (He.Fa.int "MAX_NAME" 8).ok) rfl)
    g_LETTERS := He.str_ok X G (c.fact 36 (f := (He.Fa.str "LETTERS" "abcdefghijklmnopqrstuvwxyz").ok) rfl)
    g_MAX_PAINTERS := He.int_ok X G (c.fact 37 (f := (He.Fa.int "MAX_PAINTERS" 40).ok) rfl)
    g_MAX_DIGITS := He.int_ok X G (c.fact 38 (f := (He.Fa.int "MAX_DIGITS" 80).ok) rfl)
    g_DIGITS := He.str_ok X G (c.fact 39 (f := (He.Fa.str "DIGITS" "0123456789").ok) rfl)
    g_Painter := He.glo_ok X G (c.fact 40 (f := (He.Fa.glo "Painter").ok) rfl)
    c_Painter := He.cls_ok (c.fact 41 (f := (He.Fa.cls "Painter").ok) rfl)
    k_Painter := He.mkr_ok (c.fact 42 (f := (He.Fa.mkr "Painter").ok) rfl)
    n_Painter_parts := He.noat_ok (c.fact 43 (f := (He.Fa.noat "Painter" "parts").ok) rfl)
    o_Painter_MAX_DAY := con_of (c.fact 44 (f := (fun K => He.conB K "Painter" "MAX_DAY" (.int 1000000000000000000000000000000))) rfl)
    o_Painter_MAX_POST := con_of (c.fact 45 (f := (fun K => He.conB K "Painter" "MAX_POST" (.int 1000000000000000000000000000000))) rfl)
    o_Painter_MAX_STRIDE := con_of (c.fact 46 (f := (fun K => He.conB K "Painter" "MAX_STRIDE" (.int 1000000000000000000))) rfl)
    p_Painter_name := propB_ok (c.fact 47 (f := (propB "Painter" "name")) rfl)
    p_Painter_day := propB_ok (c.fact 48 (f := (propB "Painter" "day")) rfl)
    p_Painter_post := propB_ok (c.fact 49 (f := (propB "Painter" "post")) rfl)
    p_Painter_stride := propB_ok (c.fact 50 (f := (propB "Painter" "stride")) rfl)
    p_Painter_text := propB_ok (c.fact 51 (f := (propB "Painter" "text")) rfl)
    m_Painter___add__ := He.meth_ok (c.fact 52 (f := (He.Fa.meth "Painter" "__add__").ok) rfl)
    m_Painter___neg__ := He.meth_ok (c.fact 53 (f := (He.Fa.meth "Painter" "__neg__").ok) rfl)
    m_Painter___eq__ := He.meth_ok (c.fact 54 (f := (He.Fa.meth "Painter" "__eq__").ok) rfl)
    cm_Painter_read := cmB_ok (c.fact 55 (f := (cmB "Painter" "read")) rfl)
    g_Fence := He.glo_ok X G (c.fact 56 (f := (He.Fa.glo "Fence").ok) rfl)
    c_Fence := He.cls_ok (c.fact 57 (f := (He.Fa.cls "Fence").ok) rfl)
    k_Fence := He.mkr_ok (c.fact 58 (f := (He.Fa.mkr "Fence").ok) rfl)
    n_Fence_listed := He.noat_ok (c.fact 59 (f := (He.Fa.noat "Fence" "listed").ok) rfl)
    n_Fence_places := He.noat_ok (c.fact 60 (f := (He.Fa.noat "Fence" "places").ok) rfl)
    m_Fence___contains__ := He.meth_ok (c.fact 61 (f := (He.Fa.meth "Fence" "__contains__").ok) rfl)
    m_Fence_need_name := He.meth_ok (c.fact 62 (f := (He.Fa.meth "Fence" "need_name").ok) rfl)
    m_Fence___getitem__ := He.meth_ok (c.fact 63 (f := (He.Fa.meth "Fence" "__getitem__").ok) rfl)
    m_Fence___eq__ := He.meth_ok (c.fact 64 (f := (He.Fa.meth "Fence" "__eq__").ok) rfl)
    n_Painter___radd__ := He.noat_ok (c.fact 65 (f := (He.Fa.noat "Painter" "__radd__").ok) rfl)
    sf_Painter := (c.fact 66 (f := (fun K => PySem.W.selfFirst K (He.ga K "Painter"))) rfl)
    ne_Painter := (by have z := He.ba (c.fact 67 (f := (fun K => decide (PySem.W.findIn K (.ref (He.ga K "Painter")) "__ne__" = some (some (.builtin "object.__ne__"))) && decide (PySem.W.mroIn K (He.ga K "Painter") (.type "object") = some true))) rfl); exact ⟨of_decide_eq_true z.1, of_decide_eq_true z.2⟩)
    ne_Fence := (by have z := He.ba (c.fact 68 (f := (fun K => decide (PySem.W.findIn K (.ref (He.ga K "Fence")) "__ne__" = some (some (.builtin "object.__ne__"))) && decide (PySem.W.mroIn K (He.ga K "Fence") (.type "object") = some true))) rfl); exact ⟨of_decide_eq_true z.1, of_decide_eq_true z.2⟩)
    sub_Painter_Fence := subB_ok (c.fact 69 (f := (subB "Painter" "Fence")) rfl)
    is_Painter := isCB_ok (c.fact 70 (f := (isCB "Painter")) rfl)
    is_Fence := isCB_ok (c.fact 71 (f := (isCB "Fence")) rfl)
    g_DuplicateName := He.glo_ok X G (c.fact 72 (f := (He.Fa.glo "DuplicateName").ok) rfl)
    er_DuplicateName := errB_ok ErM.ebV (by unfold ErM.errNames; simp) (c.fact 73 (f := (errB mainF "value" "value" "DuplicateName" "ValueError.__new__" ErM.tlV)) rfl)
    g_InvalidFence := He.glo_ok X G (c.fact 74 (f := (He.Fa.glo "InvalidFence").ok) rfl)
    er_InvalidFence := errB_ok ErM.ebV (by unfold ErM.errNames; simp) (c.fact 75 (f := (errB mainF "index" "index" "InvalidFence" "ValueError.__new__" ErM.tlV)) rfl)
    g_InvalidPainter := He.glo_ok X G (c.fact 76 (f := (He.Fa.glo "InvalidPainter").ok) rfl)
    er_InvalidPainter := errB_ok ErM.ebV (by unfold ErM.errNames; simp) (c.fact 77 (f := (errB mainF "reason" "reason" "InvalidPainter" "ValueError.__new__" ErM.tlV)) rfl)
    g_ParseError := He.glo_ok X G (c.fact 78 (f := (He.Fa.glo "ParseError").ok) rfl)
    er_ParseError := errB_ok ErM.ebV (by unfold ErM.errNames; simp) (c.fact 79 (f := (errB mainF "line" "line" "ParseError" "ValueError.__new__" ErM.tlV)) rfl)
    g_TooMany := He.glo_ok X G (c.fact 80 (f := (He.Fa.glo "TooMany").ok) rfl)
    er_TooMany := errB_ok ErM.ebO (by unfold ErM.errNames; simp) (c.fact 81 (f := (errB mainF "limit" "limit" "TooMany" "OverflowError.__new__" ErM.tlO)) rfl)
    g_UnknownName := He.glo_ok X G (c.fact 82 (f := (He.Fa.glo "UnknownName").ok) rfl)
    er_UnknownName := errB_ok ErM.ebK (by unfold ErM.errNames; simp) (c.fact 83 (f := (errB mainF "value" "value" "UnknownName" "LookupError.__new__" ErM.tlK)) rfl)
    ex_es := exmB_ok (c.fact 84 (f := (exmB ["DuplicateName", "InvalidFence", "InvalidPainter", "ParseError", "TooMany", "UnknownName"])) rfl)
    xi_InvalidPainter := exiB_ok (c.fact 85 (f := (exiB "InvalidPainter" [("ValueError", true)] [])) rfl)
    fd_is_integer := fd0
    fn_is_integer := fn0
    fd_is_between := fd1
    fn_is_between := fn1
    fd_is_name := fd2
    fn_is_name := fn2
    fd_Painter_init := fd3
    fn_Painter_init := fn3
    fd_Painter_name := fd4
    fn_Painter_name := fn4
    fd_Painter_day := fd5
    fn_Painter_day := fn5
    fd_Painter_post := fd6
    fn_Painter_post := fn6
    fd_Painter_stride := fd7
    fn_Painter_stride := fn7
    fd_integer_in := fd8
    fn_integer_in := fn8
    fd_painter_line := fd9
    fn_painter_line := fn9
    fd_painter_parts := fd10
    fn_painter_parts := fn10
    fd_Painter_text := fd11
    fn_Painter_text := fn11
    fd_Painter_add := fd12
    fn_Painter_add := fn12
    fd_Painter_neg := fd13
    fn_Painter_neg := fn13
    fd_Painter_eq := fd14
    fn_Painter_eq := fn14
    fd_Painter_read := fd15
    fn_Painter_read := fn15
    fd_Fence_init := fd16
    fn_Fence_init := fn16
    fd_Fence_contains := fd17
    fn_Fence_contains := fn17
    fd_Fence_need_name := fd18
    fn_Fence_need_name := fn18
    fd_Fence_getitem := fd19
    fn_Fence_getitem := fn19
    fd_Fence_eq := fd20
    fn_Fence_eq := fn20
    fd_pen := fd21
    fn_pen := fn21
    fd_draw := fd22
    fn_draw := fn22
    fd_pick := fd23
    fn_pick := fn23
    fd_around := fd24
    fn_around := fn24
    fd_power := fd25
    fn_power := fn25
    fd_great := fd26
    fn_great := fn26
    fd_names := fd27
    fn_names := fn27
    fd_small := fd28
    fn_small := fn28
    fd_aimed := fd29
    fn_aimed := fn29
    fd_lined := fd30
    fn_lined := fn30
    fd_painters := fd31
    fn_painters := fn31
    fd_line := fd32
    fn_line := fn32
    fd_parts := fd33
    fn_parts := fn33
    fd_added := fd34
    fn_added := fn34
    fd_law := fd35
    fn_law := fn35
  }⟩
def loo0 : List Str := ["_wall", "InvalidPainter", "InvalidFence", "DuplicateName", "ParseError", "UnknownName", "TooMany", "MAX_PAINTERS", "MAX_NAME", "MAX_DIGITS", "is_integer", "is_between", "LETTERS", "is_name", "is_name_names", "DIGITS", "integer_in", "painter_line", "painter_parts", "Painter", "Fence", "_law_pen", "_law_draw", "_law_pick", "_law_around", "_law_power", "_law_great", "_law_names", "_law_small", "_law_aimed"]
def loo1 : List Str := ["_law_lined", "_law_line", "_law_painters", "_law_parts", "_law_added"]
def loo : List Str := loo0 ++ loo1
abbrev RR : PySem.W.OpenRow := PySem.W.OpenLaw.row PySem.Challenge.rw_paintposts_k04_whole_painters_moved_comp
abbrev qq : Program := PySem.W.view RR.prog [42]

abbrev hk : PySem.W.Hook := hookF 7 exs dfs
abbrev obh : PySem.W.SharedT → He.AlD := obhF 7 exs dfs
theorem obh_eq (s : PySem.W.SharedT) : obh s = hk.obs s.abs := (frK_eq _ _).trans (obsFG_eq (HandSHeadRun.getT_eq s))
end KP

set_option maxHeartbeats 0
namespace KP
open PySem PySem.Spec PyProof.Rows L2
theorem runh (w : World) : HandSHeadRun.RunEq RR qq hk obh 20000 loo w := by
  intro os
  kernel_rfl
end KP

/-! Data without a heap: what a value stands for, what a def's names stand for. -/
namespace KD
open PySem PySem.Spec PyProof.Rows L2 KP
/-- data -/
inductive D where
  | non | bl (b : Bool) | int (i : Int) | str (x : Str) | ty (n : String) | cls (C : Str)
  | lst (xs : List D) | tup (xs : List D)
  | dic (kvs : List (Key × D)) | dit (kvs : List (List Key × D))
  | obj (C : Str) (fs : List (Str × D))
/-- an exception: its class and its fields -/
structure XC where
  c : Str
  fs : List (Str × D)
/-- a field of an object that changes: data, or a list, a dict, a list of dicts of its own -/
inductive MF where
  | d (x : D) | lst (xs : List D) | dk (kvs : List (Key × D)) | dt (kvs : List (List Key × D)) | ldk (ds : List (List (Key × D)))
/-- what a name stands for: data that stays as it is; a list, a dict of its own; the pen -/
inductive B where
  | d (x : D) | own (xs : List D) | odk (kvs : List (Key × D)) | odt (kvs : List (List Key × D)) | pen | scr (n : Nat) | fn (a : Addr) (g : Hp) | slf (C : Str) (fs : List (Str × D)) | mob (me : Option Bool) (C : Str) (ms : List (Str × MF)) | exc (a : Addr) (cls : Value) (d : Option Addr) (x : XC)
structure En where
  sl : List (Option B)
  b : Int
def FzK (G : Hp) (a : Addr) (vs : List (Key × V)) : Prop := ∃ o, G a = some (.frz o (.dK vs))
def FzT (G : Hp) (a : Addr) (vs : List (List Key × V)) : Prop := ∃ o, G a = some (.frz o (.dT vs))
theorem FzK.mono {G G' : Hp} {a : Addr} {vs : List (Key × V)} (s : Same G G') (h : FzK G a vs) : FzK G' a vs := h.elim fun o e => ⟨o, s _ _ e⟩
theorem FzT.mono {G G' : Hp} {a : Addr} {vs : List (List Key × V)} (s : Same G G') (h : FzT G a vs) : FzT G' a vs := h.elim fun o e => ⟨o, s _ _ e⟩
mutual
/-- a value that stands for data, in a heap that only grows -/
inductive Rep (K : PySem.W.Frag) (G : Hp) : V → D → Prop
  | non : Rep K G .non .non
  | bl (b : Bool) : Rep K G (.bl b) (.bl b)
  | int (i : Int) : Rep K G (.int i) (.int i)
  | str (x : Str) : Rep K G (.str x) (.str x)
  | ty (n : String) : Rep K G (.ty n) (.ty n)
  | cls (C : Str) : Rep K G (.ref (He.ga K C)) (.cls C)
  | lst {a : Addr} {vs : List V} {xs : List D} : G a = some (.lst vs) → Reps K G vs xs → Rep K G (.ref a) (.lst xs)
  | tup {a : Addr} {vs : List V} {xs : List D} : SqT K G a vs → Reps K G vs xs → Rep K G (.ref a) (.tup xs)
  | dic {a : Addr} {vs : List (Key × V)} {xs : List (Key × D)} : FzK G a vs → RepK K G vs xs → Rep K G (.ref a) (.dic xs)
  | dit {a : Addr} {vs : List (List Key × V)} {xs : List (List Key × D)} : FzT G a vs → RepT K G vs xs → Rep K G (.ref a) (.dit xs)
  | obj {a dx : Addr} {C : Str} {vs : List (Str × V)} {xs : List (Str × D)} : G a = some (.ins (He.ga K C) dx vs) → RepF K G vs xs → Rep K G (.ref a) (.obj C xs)
inductive Reps (K : PySem.W.Frag) (G : Hp) : List V → List D → Prop
  | nil : Reps K G [] []
  | cons {v : V} {x : D} {vs : List V} {xs : List D} : Rep K G v x → Reps K G vs xs → Reps K G (v :: vs) (x :: xs)
inductive RepK (K : PySem.W.Frag) (G : Hp) : List (Key × V) → List (Key × D) → Prop
  | nil : RepK K G [] []
  | cons {k : Key} {v : V} {x : D} {vs : List (Key × V)} {xs : List (Key × D)} : Rep K G v x → RepK K G vs xs → RepK K G ((k, v) :: vs) ((k, x) :: xs)
inductive RepT (K : PySem.W.Frag) (G : Hp) : List (List Key × V) → List (List Key × D) → Prop
  | nil : RepT K G [] []
  | cons {k : List Key} {v : V} {x : D} {vs : List (List Key × V)} {xs : List (List Key × D)} : Rep K G v x → RepT K G vs xs → RepT K G ((k, v) :: vs) ((k, x) :: xs)
inductive RepF (K : PySem.W.Frag) (G : Hp) : List (Str × V) → List (Str × D) → Prop
  | nil : RepF K G [] []
  | cons {k : Str} {v : V} {x : D} {vs : List (Str × V)} {xs : List (Str × D)} : Rep K G v x → RepF K G vs xs → RepF K G ((k, v) :: vs) ((k, x) :: xs)
end
section
variable {K : PySem.W.Frag} {G G' H H' : Hp}
mutual
theorem Rep.mono (s : Same G G') : ∀ {v : V} {x : D}, Rep K G v x → Rep K G' v x
  | _, _, .non => .non
  | _, _, .bl b => .bl b
  | _, _, .int i => .int i
  | _, _, .str x => .str x
  | _, _, .ty n => .ty n
  | _, _, .cls C => .cls C
  | _, _, .lst h r => .lst (s _ _ h) (Reps.mono s r)
  | _, _, .tup h r => .tup (Same.tup s h) (Reps.mono s r)
  | _, _, .dic h r => .dic (h.mono s) (RepK.mono s r)
  | _, _, .dit h r => .dit (h.mono s) (RepT.mono s r)
  | _, _, .obj h r => .obj (s _ _ h) (RepF.mono s r)
theorem Reps.mono (s : Same G G') : ∀ {vs : List V} {xs : List D}, Reps K G vs xs → Reps K G' vs xs
  | _, _, .nil => .nil
  | _, _, .cons h r => .cons (Rep.mono s h) (Reps.mono s r)
theorem RepK.mono (s : Same G G') : ∀ {vs : List (Key × V)} {xs : List (Key × D)}, RepK K G vs xs → RepK K G' vs xs
  | _, _, .nil => .nil
  | _, _, .cons h r => .cons (Rep.mono s h) (RepK.mono s r)
theorem RepT.mono (s : Same G G') : ∀ {vs : List (List Key × V)} {xs : List (List Key × D)}, RepT K G vs xs → RepT K G' vs xs
  | _, _, .nil => .nil
  | _, _, .cons h r => .cons (Rep.mono s h) (RepT.mono s r)
theorem RepF.mono (s : Same G G') : ∀ {vs : List (Str × V)} {xs : List (Str × D)}, RepF K G vs xs → RepF K G' vs xs
  | _, _, .nil => .nil
  | _, _, .cons h r => .cons (Rep.mono s h) (RepF.mono s r)
end
theorem Reps.length : ∀ {vs : List V} {xs : List D}, Reps K G vs xs → vs.length = xs.length
  | _, _, .nil => rfl
  | _, _, .cons _ r => by simp [Reps.length r]
theorem Reps.append : ∀ {vs ws : List V} {xs ys : List D}, Reps K G vs xs → Reps K G ws ys → Reps K G (vs ++ ws) (xs ++ ys)
  | _, _, _, _, .nil, s => s
  | _, _, _, _, .cons h r, s => .cons h (Reps.append r s)
theorem Reps.snoc {vs : List V} {xs : List D} {v : V} {x : D} (r : Reps K G vs xs) (h : Rep K G v x) : Reps K G (vs ++ [v]) (xs ++ [x]) := r.append (.cons h .nil)
theorem Reps.get : ∀ {vs : List V} {xs : List D} {i : Nat} {v : V}, Reps K G vs xs → vs[i]? = some v → ∃ x, xs[i]? = some x ∧ Rep K G v x
  | _, _, _, _, .nil, e => by simp at e
  | _, _, 0, _, .cons h _, e => by simp at e; subst e; exact ⟨_, rfl, h⟩
  | _, _, i + 1, _, .cons _ r, e => by
    obtain ⟨x, h1, h2⟩ := Reps.get (i := i) r (by simpa using e)
    exact ⟨x, by simpa using h1, h2⟩
theorem Reps.at : ∀ {vs : List V} {xs : List D} {i : Nat} {x : D}, Reps K G vs xs → xs[i]? = some x → ∃ v, vs[i]? = some v ∧ Rep K G v x
  | _, _, _, _, .nil, e => by simp at e
  | _, _, 0, _, .cons h _, e => by simp at e; subst e; exact ⟨_, rfl, h⟩
  | _, _, i + 1, _, .cons _ r, e => by
    obtain ⟨v, h1, h2⟩ := Reps.at (i := i) r (by simpa using e)
    exact ⟨v, by simpa using h1, h2⟩
theorem Reps.set {v : V} {x : D} (h : Rep K G v x) : ∀ {vs : List V} {xs : List D} (i : Nat), Reps K G vs xs → Reps K G (vs.set i v) (xs.set i x)
  | _, _, _, .nil => .nil
  | _, _, 0, .cons _ r => .cons h r
  | _, _, i + 1, .cons q r => .cons q (Reps.set h i r)
theorem Reps.take : ∀ {vs : List V} {xs : List D} (n : Nat), Reps K G vs xs → Reps K G (vs.take n) (xs.take n)
  | _, _, 0, _ => by simp; exact .nil
  | _, _, _ + 1, .nil => .nil
  | _, _, n + 1, .cons h r => .cons h (Reps.take n r)
theorem Reps.drop : ∀ {vs : List V} {xs : List D} (n : Nat), Reps K G vs xs → Reps K G (vs.drop n) (xs.drop n)
  | _, _, 0, r => r
  | _, _, _ + 1, .nil => .nil
  | _, _, n + 1, .cons _ r => Reps.drop n r
theorem RepF.lookup : ∀ {vs : List (Str × V)} {xs : List (Str × D)} {f : Str} {x : D}, RepF K G vs xs → xs.lookup f = some x → ∃ v, vs.lookup f = some v ∧ Rep K G v x
  | _, _, _, _, .nil, e => by simp at e
  | _, _, f, x, .cons (k := k) h r, e => by
    rw [List.lookup_cons] at e ⊢
    cases q : f == k with
    | true => rw [q] at e; cases e; exact ⟨_, rfl, h⟩
    | false => rw [q] at e; exact RepF.lookup r e
theorem RepF.lookup0 : ∀ {vs : List (Str × V)} {xs : List (Str × D)} {f : Str}, RepF K G vs xs → xs.lookup f = none → vs.lookup f = none
  | _, _, _, .nil, _ => rfl
  | _, _, f, .cons (k := k) h r, e => by
    rw [List.lookup_cons] at e ⊢
    cases q : f == k with
    | true => rw [q] at e; cases e
    | false => rw [q] at e; exact RepF.lookup0 r e
end
/-! ### what stays and what may change -/
structure Ctx where
  π : Option Pid
  μ : List Addr
  an : Hp
  hk : Hp
  G0 : Hp
  H0 : Hp
/-! ### objects that change -/
def MFR (K : PySem.W.Frag) (G H : Hp) (v : V) : MF → Prop
  | .d x => Rep K G v x
  | .lst xs => ∃ a vs, v = .ref a ∧ H a = some (.lst vs) ∧ Reps K G vs xs
  | .dk xs => ∃ a vs, v = .ref a ∧ H a = some (.dK vs) ∧ RepK K G vs xs
  | .dt xs => ∃ a vs, v = .ref a ∧ H a = some (.dT vs) ∧ RepT K G vs xs
  | .ldk ds => ∃ a us, v = .ref a ∧ H a = some (.lst us) ∧ Paired (fun (u : V) (kvs : List (Key × D)) => ∃ c vs, u = .ref c ∧ H c = some (.dK vs) ∧ RepK K G vs kvs) us ds
abbrev MFs (K : PySem.W.Frag) (G H : Hp) : List (Str × V) → List (Str × MF) → Prop := Paired fun x y => x.1 = y.1 ∧ MFR K G H x.2 y.2
def adL : V → List Addr
  | .ref a => [a]
  | _ => []
def itL (H : Hp) : V → List Addr
  | .ref a => match H a with
    | some (.lst us) => us.flatMap adL
    | _ => []
  | _ => []
def fpF (H : Hp) (v : V) : MF → List Addr
  | .d _ => []
  | .lst _ => adL v
  | .dk _ => adL v
  | .dt _ => adL v
  | .ldk _ => adL v ++ itL H v
def fpFs (H : Hp) : List (Str × V) → List (Str × MF) → List Addr
  | x :: vs, y :: ms => fpF H x.2 y.2 ++ fpFs H vs ms
  | _, _ => []
def fpO (H : Hp) (ms : List (Str × MF)) : V → List Addr
  | .ref a => a :: (match H a with
    | some (.ins _ _ vs) => fpFs H vs ms
    | _ => [])
  | _ => []
/-- what a name's own object consists of -/
def fpV (H : Hp) (v : V) : B → List Addr
  | .own _ => adL v
  | .odk _ => adL v
  | .odt _ => adL v
  | .slf _ _ => adL v
  | .mob _ _ ms => fpO H ms v
  | _ => []
def fpB (H : Hp) : Option (Option V) → Option (Option B) → List Addr
  | some (some v), some (some b) => fpV H v b
  | _, _ => []
section
variable {K : PySem.W.Frag} {G G' H H' : Hp}
theorem itL_ref {a : Addr} {us : List V} (h : H a = some (.lst us)) : itL H (.ref a) = us.flatMap adL := by simp only [itL, h]
theorem fpO_ref {a C dx : Addr} {vs : List (Str × V)} {ms : List (Str × MF)} (h : H a = some (.ins C dx vs)) : fpO H ms (.ref a) = a :: fpFs H vs ms := by simp only [fpO, h]
theorem MFR.frame (gg : Same G G') {v : V} {m : MF} (kp : ∀ c ∈ fpF H v m, H' c = H c) (h : MFR K G H v m) : MFR K G' H' v m ∧ fpF H' v m = fpF H v m := by
  cases m with
  | d x => exact ⟨Rep.mono gg h, rfl⟩
  | lst x => obtain ⟨a, vs, rfl, h1, h2⟩ := h; exact ⟨⟨a, vs, rfl, by rw [kp a (List.mem_cons_self ..)]; exact h1, h2.mono gg⟩, rfl⟩
  | dk x => obtain ⟨a, vs, rfl, h1, h2⟩ := h; exact ⟨⟨a, vs, rfl, by rw [kp a (List.mem_cons_self ..)]; exact h1, h2.mono gg⟩, rfl⟩
  | dt x => obtain ⟨a, vs, rfl, h1, h2⟩ := h; exact ⟨⟨a, vs, rfl, by rw [kp a (List.mem_cons_self ..)]; exact h1, h2.mono gg⟩, rfl⟩
  | ldk x =>
    obtain ⟨a, us, rfl, h1, h2⟩ := h
    have ea : H' a = H a := kp a (List.mem_append_left _ (List.mem_cons_self ..))
    have ei : itL H' (.ref a) = itL H (.ref a) := by rw [itL_ref h1, itL_ref (ea.trans h1)]
    refine ⟨⟨a, us, rfl, by rw [ea]; exact h1, ?_⟩, by show adL (.ref a) ++ itL H' (.ref a) = _; rw [ei]; rfl⟩
    have hu : ∀ c, V.ref c ∈ us → H' c = H c := fun c hc => kp c (List.mem_append_right _ (by show c ∈ itL H (.ref a); rw [itL_ref h1]; exact List.mem_flatMap.mpr ⟨_, hc, List.mem_cons_self ..⟩))
    clear h1 ea ei kp
    induction h2 with
    | nil => exact .nil
    | cons h r ih =>
      obtain ⟨c, vs, rfl, q1, q2⟩ := h
      exact .cons ⟨c, vs, rfl, by rw [hu c (List.mem_cons_self ..)]; exact q1, q2.mono gg⟩ (ih fun c hc => hu c (List.mem_cons_of_mem _ hc))
theorem MFs.frame (gg : Same G G') {vs : List (Str × V)} {ms : List (Str × MF)} (kp : ∀ c ∈ fpFs H vs ms, H' c = H c) (h : MFs K G H vs ms) : MFs K G' H' vs ms ∧ fpFs H' vs ms = fpFs H vs ms := by
  induction h with
  | nil => exact ⟨.nil, rfl⟩
  | @cons x y vs ms h r ih =>
    obtain ⟨h1, h2⟩ := MFR.frame gg (fun c hc => kp c (List.mem_append_left _ hc)) h.2
    obtain ⟨r1, r2⟩ := ih fun c hc => kp c (List.mem_append_right _ hc)
    exact ⟨.cons ⟨h.1, h1⟩ r1, by show fpF H' x.2 y.2 ++ _ = fpF H x.2 y.2 ++ _; rw [h2, r2]⟩
/-- no tuple, no table, nothing told by what is true of it -/
def Mo : HO → Bool
  | .tup _ => false
  | .xd _ => false
  | .tbl _ => false
  | .ext _ => false
  | _ => true
/-- the tables of code objects -/
def TbH (K : PySem.W.Frag) (H : Hp) : Prop := LamX.Tabs (tabT K) H
theorem TbH.keep {K : PySem.W.Frag} {H H' : Hp} (t : TbH K H) (k : ∀ a o, H a = some o → Mo o = false → H' a = some o) : TbH K H' := fun p hp => by
  obtain ⟨ps, h1, h2, h3⟩ := t p hp
  refine ⟨ps, k _ _ h1 rfl, h2, fun pos cv hc => ?_⟩
  obtain ⟨c, e1, e2⟩ := h3 pos cv hc
  exact ⟨c, e1, k _ _ e2 rfl⟩
theorem TbH.same {K : PySem.W.Frag} {H H' : Hp} (t : TbH K H) (s : Same H H') : TbH K H' := t.keep fun a o h _ => s a o h
/-- tables stay tables -/
structure TbE (K : PySem.W.Frag) (H H' : Hp) : Prop where
  t : TbH K H → TbH K H'
  k : ∀ a ps, H a = some (.tbl ps) → ∃ qs, H' a = some (.tbl qs)
theorem TbE.keep {K : PySem.W.Frag} {H H' : Hp} (k : ∀ a o, H a = some o → Mo o = false → H' a = some o) : TbE K H H' := ⟨fun t => t.keep k, fun a ps h => ⟨ps, k _ _ h rfl⟩⟩
theorem TbE.same {K : PySem.W.Frag} {H H' : Hp} (s : Same H H') : TbE K H H' := .keep fun a o h _ => s a o h
theorem TbE.refl {K : PySem.W.Frag} {H : Hp} : TbE K H H := .keep fun a o h _ => h
theorem TbE.trans {K : PySem.W.Frag} {H H' H2 : Hp} (x : TbE K H H') (y : TbE K H' H2) : TbE K H H2 := ⟨fun t => y.t (x.t t), fun a ps h => by obtain ⟨qs, e⟩ := x.k a ps h; exact y.k a qs e⟩
theorem TbE.updO {K : PySem.W.Frag} {H : Hp} {a : Addr} {o : HO} (h : ∀ u, H a = some u → Mo u = true) : TbE K H (upd H a o) := .keep fun c u hc hm => by
  by_cases q : c = a
  · subst q; rw [h u hc] at hm; cases hm
  · rw [upd_ne q]; exact hc
def isTb : HO → Bool
  | .tbl _ => true
  | _ => false
/-- no table becomes data -/
def NoT (G G' : Hp) : Prop := ∀ a ps, G' a = some (.tbl ps) → G a = some (.tbl ps)
theorem NoT.refl {G : Hp} : NoT G G := fun _ _ h => h
theorem NoT.trans {G G' G2 : Hp} (x : NoT G G') (y : NoT G' G2) : NoT G G2 := fun a ps h => x a ps (y a ps h)
theorem NoT.upd {G : Hp} {a : Addr} {o : HO} (h : isTb o = false) : NoT G (upd G a o) := fun c ps e => by
  by_cases q : c = a
  · subst q; rw [upd_same] at e; cases e; cases h
  · rw [upd_ne q] at e; exact e
theorem mo_nt {o : HO} (h : Mo o = true) : isTb o = false := by cases o <;> first | rfl | cases h
/-- what is tracked there -/
def Trk (H : Hp) (c : Addr) : Prop := ∃ o, H c = some o ∧ Mo o = true
theorem MFR.trk {v : V} {m : MF} (h : MFR K G H v m) : ∀ c ∈ fpF H v m, Trk H c := fun c hc => by
  cases m with
  | d x => cases hc
  | lst x => obtain ⟨a, vs, rfl, h1, h2⟩ := h; cases List.mem_singleton.mp hc; exact ⟨_, h1, rfl⟩
  | dk x => obtain ⟨a, vs, rfl, h1, h2⟩ := h; cases List.mem_singleton.mp hc; exact ⟨_, h1, rfl⟩
  | dt x => obtain ⟨a, vs, rfl, h1, h2⟩ := h; cases List.mem_singleton.mp hc; exact ⟨_, h1, rfl⟩
  | ldk x =>
    obtain ⟨a, us, rfl, h1, h2⟩ := h
    rcases List.mem_append.mp hc with z | z
    · cases List.mem_singleton.mp z; exact ⟨_, h1, rfl⟩
    · have z : c ∈ us.flatMap adL := by
        have : itL H (.ref a) = us.flatMap adL := itL_ref h1
        rw [← this]; exact z
      obtain ⟨u, hu, hcu⟩ := List.mem_flatMap.mp z
      clear h1 hc z
      induction h2 with
      | nil => cases hu
      | cons h r ih =>
        rcases List.mem_cons.mp hu with rfl | hu
        · obtain ⟨c', vs, rfl, q1, q2⟩ := h
          cases List.mem_singleton.mp hcu
          exact ⟨_, q1, rfl⟩
        · exact ih hu
theorem MFs.trk {vs : List (Str × V)} {ms : List (Str × MF)} (h : MFs K G H vs ms) : ∀ c ∈ fpFs H vs ms, Trk H c := by
  induction h with
  | nil => exact fun _ hc => nomatch hc
  | cons h r ih =>
    intro c hc
    rcases List.mem_append.mp hc with z | z
    · exact h.2.trk c z
    · exact ih c z
end
def SlotR (K : PySem.W.Frag) (C : Ctx) (G H : Hp) (v : Option V) : Option B → Prop
  | none => True
  | some (.d x) => ∃ u, v = some u ∧ Rep K G u x
  | some (.own xs) => ∃ a vs, v = some (.ref a) ∧ H a = some (.lst vs) ∧ G a = none ∧ C.H0 a = none ∧ Reps K G vs xs
  | some (.odk xs) => ∃ a vs, v = some (.ref a) ∧ H a = some (.dK vs) ∧ G a = none ∧ C.H0 a = none ∧ RepK K G vs xs
  | some (.odt xs) => ∃ a vs, v = some (.ref a) ∧ H a = some (.dT vs) ∧ G a = none ∧ C.H0 a = none ∧ RepT K G vs xs
  | some .pen => ∃ p, C.π = some p ∧ v = some (.ref p.a)
  | some (.scr n) => ∃ a vs, v = some (.ref a) ∧ SqL K G a vs ∧ vs.length = n
  | some (.fn f g) => v = some (.ref f) ∧ Same g G
  | some (.slf N fs) => ∃ a dx vs, C.μ = [a] ∧ v = some (.ref a) ∧ H a = some (.ins (He.ga K N) dx vs) ∧ G a = none ∧ RepF K G vs fs
  | some (.mob me N ms) => ∃ a dx vs, v = some (.ref a) ∧ H a = some (.ins (He.ga K N) dx vs) ∧ MFs K G H vs ms ∧ (fpO H ms (.ref a)).Nodup ∧ (∀ c ∈ fpO H ms (.ref a), G c = none ∧ (c ∈ C.μ ∨ C.H0 c = none)) ∧ (∀ s, me = some s → C.μ.head? = some a ∧ (s = true → H a = C.H0 a))
  | some (.exc a cls d x) => v = some (.ref a) ∧ cls = .ref (He.ga K x.c) ∧ ((x.fs = [] ∧ d = none) ∨ ∃ dd vs, d = some dd ∧ G dd = some (.xd vs) ∧ RepF K G vs x.fs)
/-- nothing was tracked there, or a tuple -/
def isTE : HO → Bool
  | .tup _ => true
  | .xd _ => true
  | .ext _ => true
  | _ => false
def NewA (H : Hp) (a : Addr) : Prop := H a = none ∨ ∃ o, H a = some o ∧ isTE o = true
theorem NewA.no {H : Hp} {a : Addr} {o : HO} (n : NewA H a) (h : H a = some o) (t : Mo o = true) : False := by
  rcases n with n | ⟨u, n, m⟩
  · rw [n] at h; cases h
  · rw [n] at h; cases h; cases o <;> first | (cases t; done) | (cases m; done)
/-- all but the pen and some objects is kept; the data grows by new objects -/
structure Fr (K : PySem.W.Frag) (π : Option Pid) (μ : List Addr) (G H G' H' : Hp) (b' : Int) : Prop where
  gg : Same G G'
  sub : Same G' H'
  new : ∀ a, G' a ≠ none → G a = none → NewA H a
  keep : ∀ a o, H a = some o → (∀ ps, o ≠ .tbl ps) → (∀ p, π = some p → a ≠ p.a) → a ∉ μ → H' a = some o
  tab : TbE K H H'
  nt : NoT G G'
  pen : ∀ p, π = some p → Pen K H' p b' ∧ G' p.a = none
  slf : ∀ x ∈ μ, G' x = none ∧ Trk H' x
/-- the pen's cells stand in the module -/
def KC (K : PySem.W.Frag) (p : Pid) : Prop := ∀ H : Hp, SqL K H p.c (p.cs.map V.int)
/-- what a def asks of the pen and of the tables -/
def PnT (K : PySem.W.Frag) (π : Option Pid) (G H : Hp) (b : Int) : Prop := (∀ p, π = some p → Pen K H p b ∧ G p.a = none) ∧ TbH K H ∧ ∀ a ps, G a ≠ some (.tbl ps)
/-- nothing of a name's own there -/
abbrev Free (H : Hp) (σ : L2.St) (en : En) (a : Addr) : Prop := ∀ j : Nat, a ∉ fpB H σ[j]? en.sl[j]?
structure Rel (K : PySem.W.Frag) (C : Ctx) (G H : Hp) (σ : L2.St) (en : En) : Prop where
  fr : Fr K C.π C.μ C.G0 C.H0 G H en.b
  pen0 : ∀ p, C.π = some p → ∃ b0, Pen K C.H0 p b0
  npn : ∀ p x, C.π = some p → x ∈ C.μ → x ≠ p.a ∧ (x ≠ p.c ∨ KC K p)
  slf0 : ∀ x ∈ C.μ, C.H0 x ≠ none
  tb0 : TbH K C.H0
  gt0 : ∀ a ps, C.G0 a ≠ some (.tbl ps)
  anc : Same C.an G
  hkk : ∀ a o, C.hk a = some o → H a = some o ∧ Mo o = true ∧ G a = none ∧ (a ∈ C.μ ∨ C.H0 a = none) ∧ Free H σ en a
  len : σ.length = en.sl.length
  slot : ∀ (i : Nat) (v : Option V) (b : Option B), σ[i]? = some v → en.sl[i]? = some b → SlotR K C G H v b
  dist : ∀ (i j : Nat) (a : Addr), a ∈ fpB H σ[i]? en.sl[i]? → a ∈ fpB H σ[j]? en.sl[j]? → i = j
theorem mo_at {H : Hp} {c : Addr} (t : Trk H c) : ∀ u, H c = some u → Mo u = true := fun u e => by
  obtain ⟨o, h, m⟩ := t
  rw [h] at e; cases e; exact m
theorem mo_h {H : Hp} {a : Addr} {o : HO} (h : H a = some o) (m : Mo o = true) : ∀ u, H a = some u → Mo u = true := fun u e => by rw [h] at e; cases e; exact m
theorem mo_tbl {o : HO} (h : Mo o = true) : ∀ ps, o ≠ .tbl ps := fun ps e => by subst e; cases h
/-- only new objects, all of them data -/
structure Gr (G H G' H' : Hp) : Prop where
  gg : Same G G'
  sub : Same G' H'
  hh : Same H H'
  new : ∀ a, G' a ≠ none → G a = none → H a = none
  nt : NoT G G'
theorem Pen.mutM {K : PySem.W.Frag} {H : Hp} {p : Pid} {b : Int} {x : Addr} {o : HO} (h : Pen K H p b) (na : x ≠ p.a) (nc : x ≠ p.c ∨ KC K p) : Pen K (upd H x o) p b := by
  obtain ⟨r, e, l, y⟩ := h
  refine ⟨r, by rw [upd_ne (Ne.symm na)]; exact e, ?_, y⟩
  rcases nc with q | q
  · rcases l with (l | ⟨o2, l⟩) | l
    · exact .inl (.inl (by rw [upd_ne (Ne.symm q)]; exact l))
    · exact .inl (.inr ⟨o2, by rw [upd_ne (Ne.symm q)]; exact l⟩)
    · exact .inr l
  · exact q _
theorem Pen.kc {K : PySem.W.Frag} {H : Hp} {p : Pid} {b : Int} (h : Pen K H p b) (x : Addr) (n : ∀ xs, ¬ Rd H x (.lst xs)) : x ≠ p.c ∨ KC K p := by
  obtain ⟨r, e, l, y⟩ := h
  by_cases q : x = p.c
  · subst q
    rcases l with l | l
    · exact absurd l (n _)
    · exact .inr fun _ => .inr l
  · exact .inl q
section
variable {K : PySem.W.Frag} {C : Ctx} {G H G' H' G2 H2 : Hp} {σ : L2.St} {en : En} {π : Option Pid} {b b' b2 : Int}
theorem Gr.refl (s : Same G H) : Gr G H G H := ⟨Same.refl G, s, Same.refl H, fun _ h n => absurd n h, .refl⟩
theorem Gr.new1 (s : Same G H) {p : Addr} {o : HO} (n : H p = none) (ht : isTb o = false := by rfl) : Gr G H (upd G p o) (upd H p o) := by
  have ng : G p = none := s.free n
  refine ⟨KP.Same.new ng, fun a u e => ?_, KP.Same.new n, fun a h g => ?_, .upd ht⟩
  · by_cases q : a = p
    · subst q; rw [upd_same] at e ⊢; exact e
    · rw [upd_ne q] at e ⊢; exact s _ _ e
  · by_cases q : a = p
    · subst q; exact n
    · rw [upd_ne q] at h; exact absurd g h
theorem Gr.fr (g : Gr G H G' H') (sub : ∀ p, π = some p → Pen K H p b ∧ G p.a = none) : Fr K π [] G H G' H' b := by
  refine ⟨g.gg, g.sub, fun a h1 h2 => .inl (g.new a h1 h2), fun a o h _ _ _ => g.hh _ _ h, .same g.hh, g.nt, fun p e => ?_, fun x e => nomatch e⟩
  obtain ⟨h1, h2⟩ := sub p e
  refine ⟨h1.same g.hh, ?_⟩
  cases q : G' p.a with
  | none => rfl
  | some o =>
    have := g.new p.a (by rw [q]; exact fun z => nomatch z) h2
    obtain ⟨kvs, e'⟩ := h1.is_
    rw [e'] at this; cases this
theorem Fr.trk (x : Fr K π [] G H G' H' b') {c : Addr} (np : ∀ p, π = some p → c ≠ p.a) (t : Trk H c) (g : G c = none) : H' c = H c ∧ G' c = none := by
  obtain ⟨o, h, nt⟩ := t
  refine ⟨(x.keep c o h (mo_tbl nt) np (fun q => nomatch q)).trans h.symm, ?_⟩
  cases q : G' c with
  | none => rfl
  | some u => exact ((x.new c (by rw [q]; exact fun z => nomatch z) g).no h nt).elim
theorem Fr.trans {μ : List Addr} (x : Fr K π μ G H G' H' b') (y : Fr K π [] G' H' G2 H2 b2) (npn : ∀ p x, π = some p → x ∈ μ → x ≠ p.a) : Fr K π μ G H G2 H2 b2 := by
  have sl : ∀ z ∈ μ, G2 z = none ∧ Trk H2 z := fun z e => by
    obtain ⟨g1, t⟩ := x.slf z e
    obtain ⟨h2, g2⟩ := y.trk (fun p hp => npn p z hp e) t g1
    obtain ⟨o, h, nt⟩ := t
    exact ⟨g2, o, h2.trans h, nt⟩
  refine ⟨x.gg.trans y.gg, y.sub, fun a h g => ?_, fun a o h nt n m => y.keep _ _ (x.keep _ _ h nt n m) nt n (fun q => nomatch q), x.tab.trans y.tab, x.nt.trans y.nt, y.pen, sl⟩
  cases q : G' a with
  | some o => exact x.new a (by rw [q]; exact fun z => nomatch z) g
  | none =>
    have e := y.new a h q
    cases r : H a with
    | none => exact .inl r
    | some o =>
      by_cases z : ∀ p, π = some p → a ≠ p.a
      · by_cases z2 : a ∈ μ
        · exact absurd (sl a z2).1 h
        · by_cases z3 : ∃ ps, o = .tbl ps
          · obtain ⟨ps, rfl⟩ := z3
            obtain ⟨qs, hq⟩ := x.tab.k a ps r
            rcases e with e | ⟨u, e, m'⟩
            · rw [hq] at e; cases e
            · rw [hq] at e; cases e; cases m'
          · have hk := x.keep _ _ r (fun ps e => z3 ⟨ps, e⟩) z z2
            rcases e with e | ⟨u, e, m'⟩
            · rw [hk] at e; cases e
            · rw [hk] at e; cases e; exact .inr ⟨_, r, m'⟩
      · exact absurd (fun p hp eq => by
          subst eq
          exact h (y.pen p hp).2) z
theorem Rel.sub (R : Rel K C G H σ en) : Same G H := R.fr.sub
theorem Rel.penG (R : Rel K C G H σ en) : ∀ p, C.π = some p → Pen K H p en.b ∧ G p.a = none := R.fr.pen
theorem Rel.tb (R : Rel K C G H σ en) : TbH K H := R.fr.tab.t R.tb0
theorem Rel.gtb (R : Rel K C G H σ en) : ∀ a ps, G a ≠ some (.tbl ps) := fun a ps e => R.gt0 a ps (R.fr.nt a ps e)
theorem Rel.penT (R : Rel K C G H σ en) : PnT K C.π G H en.b := ⟨R.penG, R.tb, R.gtb⟩
theorem Rel.pnH (R : Rel K C G H σ en) : ∀ p, C.π = some p → C.H0 p.a ≠ none := fun p e => by
  obtain ⟨b0, h⟩ := R.pen0 p e
  obtain ⟨kvs, q⟩ := h.is_
  rw [q]; exact fun z => nomatch z
/-- what is one's own is tracked, no data, and old or new -/
theorem SlotR.trk {v : Option V} {b : Option B} (sl : ∀ x ∈ C.μ, C.H0 x ≠ none) (s : SlotR K C G H v b) : ∀ c ∈ fpB H (some v) (some b), Trk H c ∧ G c = none ∧ (c ∈ C.μ ∨ C.H0 c = none) := fun c hc => by
  cases v with
  | none => cases b <;> cases hc
  | some v =>
    cases b with
    | none => cases hc
    | some b =>
      have hc : c ∈ fpV H v b := hc
      cases b with
      | d x => cases hc
      | pen => cases hc
      | scr n => cases hc
      | fn f g => cases hc
      | exc a cls d x => cases hc
      | own xs => obtain ⟨a, vs, e, h1, h2, h3, _⟩ := s; cases e; cases List.mem_singleton.mp hc; exact ⟨⟨_, h1, rfl⟩, h2, .inr h3⟩
      | odk xs => obtain ⟨a, vs, e, h1, h2, h3, _⟩ := s; cases e; cases List.mem_singleton.mp hc; exact ⟨⟨_, h1, rfl⟩, h2, .inr h3⟩
      | odt xs => obtain ⟨a, vs, e, h1, h2, h3, _⟩ := s; cases e; cases List.mem_singleton.mp hc; exact ⟨⟨_, h1, rfl⟩, h2, .inr h3⟩
      | slf N fs => obtain ⟨a, dx, vs, m, e, h1, h2, _⟩ := s; cases e; cases List.mem_singleton.mp hc; exact ⟨⟨_, h1, rfl⟩, h2, .inl (by rw [m]; exact List.mem_cons_self ..)⟩
      | mob me N ms =>
        obtain ⟨a, dx, vs, e, h1, h2, h3, h4, h5⟩ := s
        cases e
        refine ⟨?_, h4 c hc⟩
        have e0 : fpO H ms (.ref a) = a :: fpFs H vs ms := fpO_ref h1
        have hc : c ∈ fpO H ms (.ref a) := hc
        rw [e0] at hc
        rcases List.mem_cons.mp hc with rfl | hc
        · exact ⟨_, h1, rfl⟩
        · exact h2.trk c hc
theorem SlotR.frame {v : Option V} {b : Option B} (gg : Same G G') (kp : ∀ c ∈ fpB H (some v) (some b), H' c = H c ∧ G' c = none) (s : SlotR K C G H v b) : SlotR K C G' H' v b ∧ fpB H' (some v) (some b) = fpB H (some v) (some b) := by
  cases v with
  | none =>
    cases b with
    | none => exact ⟨trivial, rfl⟩
    | some b =>
      cases b with
      | d x => obtain ⟨u, e, _⟩ := s; cases e
      | pen => obtain ⟨u, _, e⟩ := s; cases e
      | scr n => obtain ⟨u, _, e, _⟩ := s; cases e
      | fn f g => obtain ⟨e, _⟩ := s; cases e
      | own xs => obtain ⟨a, vs, e, _⟩ := s; cases e
      | odk xs => obtain ⟨a, vs, e, _⟩ := s; cases e
      | odt xs => obtain ⟨a, vs, e, _⟩ := s; cases e
      | slf N fs => obtain ⟨a, dx, vs, m, e, _⟩ := s; cases e
      | mob me N ms => obtain ⟨a, dx, vs, e, _⟩ := s; cases e
      | exc a cls d x => obtain ⟨e, _⟩ := s; cases e
  | some v =>
    cases b with
    | none => exact ⟨trivial, rfl⟩
    | some b =>
      have kp : ∀ c ∈ fpV H v b, H' c = H c ∧ G' c = none := kp
      cases b with
      | d x => obtain ⟨u, e, h⟩ := s; exact ⟨⟨u, e, Rep.mono gg h⟩, rfl⟩
      | pen => exact ⟨s, rfl⟩
      | scr n => obtain ⟨a, vs, e, h, l⟩ := s; exact ⟨⟨a, vs, e, gg.seq h, l⟩, rfl⟩
      | fn f g => exact ⟨⟨s.1, s.2.trans gg⟩, rfl⟩
      | exc a cls d x =>
        obtain ⟨e1, e2, e3⟩ := s
        refine ⟨⟨e1, e2, ?_⟩, rfl⟩
        rcases e3 with e3 | ⟨dd, vs, h1, h2, h3⟩
        · exact .inl e3
        · exact .inr ⟨dd, vs, h1, gg _ _ h2, RepF.mono gg h3⟩
      | own xs => obtain ⟨a, vs, e, h1, h2, h3, r⟩ := s; cases e; have k := kp a (List.mem_cons_self ..); exact ⟨⟨a, vs, rfl, k.1.trans h1, k.2, h3, r.mono gg⟩, rfl⟩
      | odk xs => obtain ⟨a, vs, e, h1, h2, h3, r⟩ := s; cases e; have k := kp a (List.mem_cons_self ..); exact ⟨⟨a, vs, rfl, k.1.trans h1, k.2, h3, r.mono gg⟩, rfl⟩
      | odt xs => obtain ⟨a, vs, e, h1, h2, h3, r⟩ := s; cases e; have k := kp a (List.mem_cons_self ..); exact ⟨⟨a, vs, rfl, k.1.trans h1, k.2, h3, r.mono gg⟩, rfl⟩
      | slf N fs => obtain ⟨a, dx, vs, m, e, h1, h2, r⟩ := s; cases e; have k := kp a (List.mem_cons_self ..); exact ⟨⟨a, dx, vs, m, rfl, k.1.trans h1, k.2, r.mono gg⟩, rfl⟩
      | mob me N ms =>
        obtain ⟨a, dx, vs, e, h1, h2, h3, h4, h5⟩ := s
        cases e
        have e0 : fpO H ms (.ref a) = a :: fpFs H vs ms := fpO_ref h1
        have kp : ∀ c ∈ fpO H ms (.ref a), H' c = H c ∧ G' c = none := kp
        rw [e0] at kp
        have ka := kp a (List.mem_cons_self ..)
        obtain ⟨f1, f2⟩ := MFs.frame gg (fun c hc => (kp c (List.mem_cons_of_mem _ hc)).1) h2
        have e1 : fpO H' ms (.ref a) = fpO H ms (.ref a) := by
          rw [e0, fpO_ref (ka.1.trans h1), f2]
        refine ⟨⟨a, dx, vs, rfl, ka.1.trans h1, f1, by rw [e1]; exact h3, fun c hc => ?_, fun s z => ⟨(h5 s z).1, fun y => ka.1.trans ((h5 s z).2 y)⟩⟩, e1⟩
        rw [e1] at hc
        exact ⟨(kp c (by rw [← e0]; exact hc)).2, (h4 c hc).2⟩
theorem fpB_none {j : Nat} {l : List (Option B)} (h : l[j]? = none) {v : Option (Option V)} : fpB H v l[j]? = [] := by rw [h]; cases v with | none => rfl | some v => cases v <;> rfl
/-- where a name's own object is, there the name is -/
theorem Rel.at_ (R : Rel K C G H σ en) {j : Nat} {c : Addr} (h : c ∈ fpB H σ[j]? en.sl[j]?) : ∃ v b, σ[j]? = some v ∧ en.sl[j]? = some b ∧ SlotR K C G H v b ∧ Trk H c ∧ G c = none ∧ (c ∈ C.μ ∨ C.H0 c = none) := by
  cases q1 : σ[j]? with
  | none => rw [q1] at h; cases h
  | some v =>
    cases q2 : en.sl[j]? with
    | none => rw [fpB_none q2] at h; cases h
    | some b =>
      have s := R.slot j v b q1 q2
      rw [q1, q2] at h
      exact ⟨v, b, rfl, rfl, s, s.trk R.slf0 c h⟩
theorem Rel.notPen (R : Rel K C G H σ en) {c : Addr} (h : c ∈ C.μ ∨ C.H0 c = none) : ∀ p, C.π = some p → c ≠ p.a := fun p hp z => by
  rcases h with h | h
  · exact (R.npn p c hp h).1 z
  · exact R.pnH p hp (by rw [← z]; exact h)
/-- all names stay, the heap changes elsewhere -/
theorem Rel.chg (R : Rel K C G H σ en) (f : Fr K C.π C.μ C.G0 C.H0 G' H' b') (gg : Same G G') (kp : ∀ (i : Nat) (c : Addr), c ∈ fpB H σ[i]? en.sl[i]? → H' c = H c ∧ G' c = none) (hk : ∀ a o, C.hk a = some o → H' a = some o ∧ G' a = none) : Rel K C G' H' σ { en with b := b' } := by
  have fp : ∀ i : Nat, fpB H' σ[i]? en.sl[i]? = fpB H σ[i]? en.sl[i]? := fun i => by
    cases q1 : σ[i]? with
    | none => rfl
    | some v =>
      cases q2 : en.sl[i]? with
      | none => cases v <;> rfl
      | some b =>
        have k := kp i
        rw [q1, q2] at k
        exact ((R.slot i v b q1 q2).frame gg k).2
  refine ⟨f, R.pen0, R.npn, R.slf0, R.tb0, R.gt0, R.anc.trans gg, fun a o h => ?_, R.len, fun i v b h1 h2 => ?_, fun i j a h1 h2 => ?_⟩
  · obtain ⟨h1, ht, h2, h3, h4⟩ := R.hkk a o h
    exact ⟨(hk a o h).1, ht, (hk a o h).2, h3, fun j => by show a ∉ fpB H' σ[j]? en.sl[j]?; rw [fp j]; exact h4 j⟩
  · have k := kp i
    rw [h1, show en.sl[i]? = some b from h2] at k
    exact ((R.slot i v b h1 h2).frame gg k).1
  · exact R.dist i j a (by rw [← fp i]; exact h1) (by rw [← fp j]; exact h2)
theorem Rel.hkc (R : Rel K C G H σ en) (x : Fr K C.π [] G H G' H' b') : ∀ a o, C.hk a = some o → H' a = some o ∧ G' a = none := fun a o h => by
  obtain ⟨h1, ht, h2, h3, h4⟩ := R.hkk a o h
  have k := x.trk (R.notPen h3) ⟨o, h1, ht⟩ h2
  exact ⟨k.1.trans h1, k.2⟩
theorem Rel.call (R : Rel K C G H σ en) (x : Fr K C.π [] G H G' H' b') : Rel K C G' H' σ { en with b := b' } :=
  R.chg (R.fr.trans x fun p x h1 h2 => (R.npn p x h1 h2).1) x.gg (fun i c hc => by
    obtain ⟨v, b, _, _, _, t, g, z⟩ := R.at_ hc
    exact x.trk (R.notPen z) t g) (R.hkc x)
theorem Rel.grow (R : Rel K C G H σ en) (x : Gr G H G' H') : Rel K C G' H' σ en := R.call (x.fr R.penG)
theorem Rel.var (R : Rel K C G H σ en) {i : Nat} {b : B} (h : en.sl[i]? = some (some b)) : ∃ v, σ[i]? = some (some v) ∧ SlotR K C G H (some v) (some b) := by
  have hi : i < σ.length := by
    rw [R.len]
    exact (List.getElem?_eq_some_iff.mp h).1
  have e : σ[i]? = some σ[i] := List.getElem?_eq_getElem hi
  have s := R.slot i _ _ e h
  cases b with
  | d x => obtain ⟨u, q, r⟩ := s; rw [q] at e; exact ⟨u, e, u, rfl, r⟩
  | own x => obtain ⟨u, vs, q, r⟩ := s; rw [q] at e; exact ⟨_, e, u, vs, rfl, r⟩
  | odk x => obtain ⟨u, vs, q, r⟩ := s; rw [q] at e; exact ⟨_, e, u, vs, rfl, r⟩
  | odt x => obtain ⟨u, vs, q, r⟩ := s; rw [q] at e; exact ⟨_, e, u, vs, rfl, r⟩
  | pen => obtain ⟨p, q1, q⟩ := s; rw [q] at e; exact ⟨_, e, p, q1, rfl⟩
  | scr n => obtain ⟨u, vs, q, r⟩ := s; rw [q] at e; exact ⟨_, e, u, vs, rfl, r⟩
  | fn f g => obtain ⟨q, r⟩ := s; rw [q] at e; exact ⟨_, e, rfl, r⟩
  | slf N fs => obtain ⟨u, dx, vs, m, q, r⟩ := s; rw [q] at e; exact ⟨_, e, u, dx, vs, m, rfl, r⟩
  | mob me N ms => obtain ⟨u, dx, vs, q, r⟩ := s; rw [q] at e; exact ⟨_, e, u, dx, vs, rfl, r⟩
  | exc a cls d x => obtain ⟨q, r⟩ := s; rw [q] at e; exact ⟨_, e, rfl, r⟩
/-- the end of a def -/
theorem Rel.out (R : Rel K C G H σ en) : Fr K C.π C.μ C.G0 C.H0 G H en.b := R.fr
def En.set (en : En) (i : Nat) (b : Option B) : En := { en with sl := en.sl.set i b }
theorem get_set {α : Type} {l : List α} {i j : Nat} {x y : α} (h : (l.set i x)[j]? = some y) : (i = j ∧ y = x) ∨ (i ≠ j ∧ l[j]? = some y) := by
  by_cases e : i = j
  · subst e
    rw [List.getElem?_set] at h
    simp at h
    exact .inl ⟨rfl, h.2.symm⟩
  · rw [List.getElem?_set_ne e] at h
    exact .inr ⟨e, h⟩
/-- a name gets a value; the heap may have changed, where the other names have nothing -/
theorem Rel.put (R : Rel K C G H σ en) {i : Nat} {w : Option V} {c : Option B} (f : Fr K C.π C.μ C.G0 C.H0 G' H' b') (gg : Same G G') (kp : ∀ (j : Nat) (d : Addr), j ≠ i → d ∈ fpB H σ[j]? en.sl[j]? → H' d = H d ∧ G' d = none) (hk : ∀ a o, C.hk a = some o → H' a = some o ∧ G' a = none)
    (hb : SlotR K C G' H' w c) (dj : ∀ d ∈ fpB H' (some w) (some c), C.hk d = none ∧ ∀ j : Nat, j ≠ i → d ∉ fpB H σ[j]? en.sl[j]?) : Rel K C G' H' (σ.set i w) ⟨en.sl.set i c, b'⟩ := by
  have ne : ∀ j : Nat, j ≠ i → (σ.set i w)[j]? = σ[j]? ∧ (en.sl.set i c)[j]? = en.sl[j]? := fun j h => ⟨List.getElem?_set_ne (Ne.symm h), List.getElem?_set_ne (Ne.symm h)⟩
  have fp : ∀ j : Nat, j ≠ i → fpB H' (σ.set i w)[j]? (en.sl.set i c)[j]? = fpB H σ[j]? en.sl[j]? := fun j h => by
    rw [(ne j h).1, (ne j h).2]
    cases q1 : σ[j]? with
    | none => rfl
    | some v =>
      cases q2 : en.sl[j]? with
      | none => cases v <;> rfl
      | some b =>
        have k := fun d => kp j d h
        rw [q1, q2] at k
        exact ((R.slot j v b q1 q2).frame gg k).2
  have fi : ∀ d, d ∈ fpB H' (σ.set i w)[i]? (en.sl.set i c)[i]? → d ∈ fpB H' (some w) (some c) := fun d h => by
    rw [List.getElem?_set, List.getElem?_set] at h
    simp only [if_true] at h
    by_cases l1 : i < σ.length
    · rw [if_pos l1, if_pos (by rw [← R.len]; exact l1)] at h; exact h
    · rw [if_neg l1] at h; cases h
  refine ⟨f, R.pen0, R.npn, R.slf0, R.tb0, R.gt0, R.anc.trans gg, fun a o h => ?_, by simp [R.len], fun j v b h1 h2 => ?_, fun j k a h1 h2 => ?_⟩
  · obtain ⟨h1, ht, h2, h3, h4⟩ := R.hkk a o h
    refine ⟨(hk a o h).1, ht, (hk a o h).2, h3, fun j z => ?_⟩
    by_cases e : j = i
    · subst e
      have := (dj a (fi a z)).1
      rw [h] at this; cases this
    · have z : a ∈ fpB H' (σ.set i w)[j]? (en.sl.set i c)[j]? := z
      rw [fp j e] at z; exact h4 j z
  · rcases get_set h1 with ⟨e, rfl⟩ | ⟨e, z1⟩
    · rcases get_set (show (en.sl.set i c)[j]? = some b from h2) with ⟨_, rfl⟩ | ⟨e', _⟩
      · exact hb
      · exact absurd e e'
    · rcases get_set (show (en.sl.set i c)[j]? = some b from h2) with ⟨e', _⟩ | ⟨_, z2⟩
      · exact absurd e' e
      · have k := fun d => kp j d (Ne.symm e)
        rw [z1, z2] at k
        exact ((R.slot j v b z1 z2).frame gg k).1
  · have h1 : a ∈ fpB H' (σ.set i w)[j]? (en.sl.set i c)[j]? := h1
    have h2 : a ∈ fpB H' (σ.set i w)[k]? (en.sl.set i c)[k]? := h2
    by_cases e1 : j = i
    · by_cases e2 : k = i
      · exact e1.trans e2.symm
      · subst e1
        rw [fp k e2] at h2
        exact absurd h2 ((dj a (fi a h1)).2 k e2)
    · by_cases e2 : k = i
      · subst e2
        rw [fp j e1] at h1
        exact absurd h1 ((dj a (fi a h2)).2 j e1)
      · rw [fp j e1] at h1
        rw [fp k e2] at h2
        exact R.dist j k a h1 h2
theorem Rel.hkH (R : Rel K C G H σ en) : ∀ a o, C.hk a = some o → H a = some o ∧ G a = none := fun a o h => ⟨(R.hkk a o h).1, (R.hkk a o h).2.2.1⟩
theorem Rel.kp0 (R : Rel K C G H σ en) {i : Nat} : ∀ (j : Nat) (d : Addr), j ≠ i → d ∈ fpB H σ[j]? en.sl[j]? → H d = H d ∧ G d = none := fun j d _ h => by
  obtain ⟨_, _, _, _, _, _, g, _⟩ := R.at_ h
  exact ⟨rfl, g⟩
/-- what owns nothing -/
def isOwn : Option (Option B) → Bool
  | some (some (.own _)) => true
  | some (some (.odk _)) => true
  | some (some (.odt _)) => true
  | some (some (.slf _ _)) => true
  | some (some (.mob _ _ _)) => true
  | _ => false
theorem fpV_no {v : V} {b : B} (no : isOwn (some (some b)) = false) : fpV H v b = [] := by cases b <;> first | rfl | cases no
theorem Rel.setD (R : Rel K C G H σ en) {i : Nat} {v : V} {b : B} (hb : SlotR K C G H (some v) (some b)) (no : isOwn (some (some b)) = false) : Rel K C G H (σ.set i (some v)) (en.set i (some b)) :=
  R.put R.fr (Same.refl G) R.kp0 R.hkH hb fun d hd => by
    have hd : d ∈ fpV H v b := hd
    rw [fpV_no no] at hd; cases hd
/-- an own object is tracked, so a new one is none of them -/
theorem Rel.freshO (R : Rel K C G H σ en) {a : Addr} (n : H a = none) : Free H σ en a := fun j h => by
  obtain ⟨_, _, _, _, _, ⟨o, t, _⟩, _⟩ := R.at_ h
  rw [n] at t; cases t
theorem Rel.freeN (R : Rel K C G H σ en) {a : Addr} {o : HO} (n : H a = none) : Free (upd H a o) σ en a := fun j h => by
  have kp : ∀ c, c ∈ fpB H σ[j]? en.sl[j]? → upd H a o c = H c ∧ G c = none := fun c hc => by
    obtain ⟨_, _, _, _, _, ⟨u, t, _⟩, g, _⟩ := R.at_ hc
    exact ⟨by rw [upd_ne (ne_of_none t n)], g⟩
  have e : fpB (upd H a o) σ[j]? en.sl[j]? = fpB H σ[j]? en.sl[j]? := by
    cases q1 : σ[j]? with
    | none => rfl
    | some v =>
      cases q2 : en.sl[j]? with
      | none => cases v <;> rfl
      | some b => rw [q1, q2] at kp; exact ((R.slot j v b q1 q2).frame (Same.refl G) kp).2
  rw [e] at h
  exact R.freshO n j h
/-- a new object that is not data yet -/
theorem Rel.newH (R : Rel K C G H σ en) {p : Addr} {o : HO} (n : H p = none) : Rel K C G (upd H p o) σ en := by
  have f : Fr K C.π [] G H G (upd H p o) en.b := by
    refine ⟨Same.refl G, fun a u e => KP.Same.new n a u (R.sub a u e), fun a h g => absurd g h, fun a u e _ _ _ => KP.Same.new n a u e, .same (KP.Same.new n), .refl, fun q e => ⟨(R.penG q e).1.new n, (R.penG q e).2⟩, fun _ q => nomatch q⟩
  exact R.call f
theorem Rel.H0 (R : Rel K C G H σ en) {p : Addr} (n : H p = none) : C.H0 p = none := by
  cases q : C.H0 p with
  | none => rfl
  | some o =>
    by_cases z : ∀ r, C.π = some r → p ≠ r.a
    · by_cases z2 : p ∈ C.μ
      · obtain ⟨o2, e, _⟩ := (R.fr.slf p z2).2
        rw [n] at e; cases e
      · by_cases z3 : ∃ ps, o = .tbl ps
        · obtain ⟨ps, rfl⟩ := z3
          obtain ⟨qs, hq⟩ := R.fr.tab.k p ps q
          rw [n] at hq; cases hq
        · rw [R.fr.keep _ _ q (fun ps e => z3 ⟨ps, e⟩) z z2] at n; cases n
    · exact absurd (fun r hr eq => by
        subst eq
        obtain ⟨kvs, e⟩ := (R.penG r hr).1.is_
        rw [n] at e; cases e) z
/-- the frame behind a change of what is one's own -/
theorem Rel.frU (R : Rel K C G H σ en) {a : Addr} {o : HO} (ga : G a = none) (hu : ∀ u, H a = some u → Mo u = true) (ht : Mo o = true) (h0 : a ∈ C.μ ∨ C.H0 a = none) : Fr K C.π C.μ C.G0 C.H0 G (upd H a o) en.b := by
  have nd : ∀ c u, G c = some u → c ≠ a := fun c u e z => by subst z; rw [ga] at e; cases e
  refine ⟨R.fr.gg, fun c u e => by rw [upd_ne (nd c u e)]; exact R.sub c u e, R.fr.new, fun c u e nt n m => ?_, R.fr.tab.trans (.updO hu), R.fr.nt, fun p e => ⟨?_, (R.penG p e).2⟩, fun x e => ⟨(R.fr.slf x e).1, ?_⟩⟩
  · have : c ≠ a := fun z => by
      subst z
      rcases h0 with h0 | h0
      · exact m h0
      · rw [h0] at e; cases e
    rw [upd_ne this]; exact R.fr.keep c u e nt n m
  · obtain ⟨b0, p0⟩ := R.pen0 p e
    rcases h0 with h0 | h0
    · exact Pen.mutM (R.penG p e).1 (R.npn p a e h0).1 (R.npn p a e h0).2
    · exact (R.penG p e).1.mut p0 h0
  · by_cases q : x = a
    · subst q; exact ⟨o, upd_same, ht⟩
    · obtain ⟨u, h1, h2⟩ := (R.fr.slf x e).2
      exact ⟨u, by rw [upd_ne q]; exact h1, h2⟩
/-- an own object changes: H at a -/
theorem Rel.updO (R : Rel K C G H σ en) {i : Nat} {a : Addr} {o : HO} {v : V} {b0 b : B} (hi : σ[i]? = some (some v)) (hs : en.sl[i]? = some (some b0)) (ha : a ∈ fpV H v b0) (ht : Mo o = true)
    (hb : SlotR K C G (upd H a o) (some v) (some b)) (fp : ∀ d ∈ fpV (upd H a o) v b, d ∈ fpV H v b0) : Rel K C G (upd H a o) σ (en.set i (some b)) := by
  have hm : ∀ d ∈ fpV H v b0, d ∈ fpB H σ[i]? en.sl[i]? := fun d h => by rw [hi, hs]; exact h
  obtain ⟨_, _, _, _, _, tr, ga, h0⟩ := R.at_ (hm a ha)
  have z := R.put (i := i) (w := some v) (c := some b) (R.frU ga (mo_at tr) ht h0) (Same.refl G) (fun j d ne hd => ?_) (fun c u h => ?_) hb fun d hd => ⟨?_, fun j ne hd' => ?_⟩
  · rw [show σ.set i (some v) = σ from by
      apply List.ext_getElem?
      intro k
      by_cases e : i = k
      · subst e
        rw [List.getElem?_set, hi]
        simp
        exact (List.getElem?_eq_some_iff.mp hi).1
      · rw [List.getElem?_set_ne e]] at z
    exact z
  · have : d ≠ a := fun q => ne (R.dist j i a (by rw [← q]; exact hd) (hm a ha))
    obtain ⟨_, _, _, _, _, _, g, _⟩ := R.at_ hd
    exact ⟨by rw [upd_ne this], g⟩
  · obtain ⟨h1, ht, h2, h3, h4⟩ := R.hkk c u h
    have : c ≠ a := fun q => h4 i (by rw [q]; exact hm a ha)
    exact ⟨by rw [upd_ne this]; exact h1, h2⟩
  · cases q : C.hk d with
    | none => rfl
    | some u => exact absurd (hm d (fp d hd)) ((R.hkk d u q).2.2.2.2 i)
  · exact ne (R.dist j i d hd' (hm d (fp d hd)))
theorem Rel.mutH (R : Rel K C G H σ en) {i : Nat} {a : Addr} {o : HO} {b0 b : B} (hi : σ[i]? = some (some (.ref a))) (hs : en.sl[i]? = some (some b0)) (s0 : fpV H (.ref a) b0 = [a]) (ht : Mo o = true)
    (hb : SlotR K C G (upd H a o) (some (.ref a)) (some b)) (s1 : fpV (upd H a o) (.ref a) b = [a]) : Rel K C G (upd H a o) σ (en.set i (some b)) :=
  R.updO hi hs (by rw [s0]; exact List.mem_cons_self ..) ht hb (by rw [s0, s1]; exact fun d h => h)
/-- own objects become data -/
theorem Rel.frG (R : Rel K C G H σ en) {a : Addr} {o : HO} (ht : isTb o = false) (ho : H a = some o) (ga : G a = none) (h0 : C.H0 a = none) : Fr K C.π C.μ C.G0 C.H0 (upd G a o) H en.b := by
  have sg : Same G (upd G a o) := KP.Same.new ga
  refine ⟨R.fr.gg.trans sg, fun c u e => ?_, fun c h g => ?_, R.fr.keep, R.fr.tab, R.fr.nt.trans (.upd ht), fun p e => ⟨(R.penG p e).1, ?_⟩, fun x e => ⟨?_, (R.fr.slf x e).2⟩⟩
  · by_cases q : c = a
    · subst q; rw [upd_same] at e; cases e; exact ho
    · rw [upd_ne q] at e; exact R.sub c u e
  · by_cases q : c = a
    · subst q; exact .inl h0
    · rw [upd_ne q] at h; exact R.fr.new c h g
  · have : p.a ≠ a := fun z => R.pnH p e (by rw [z]; exact h0)
    rw [upd_ne this]; exact (R.penG p e).2
  · have : x ≠ a := fun z => R.slf0 x e (by rw [z]; exact h0)
    rw [upd_ne this]; exact (R.fr.slf x e).1
theorem Rel.freeze (R : Rel K C G H σ en) {i : Nat} {a : Addr} {o : HO} {b0 : B} {x : D} (hi : σ[i]? = some (some (.ref a))) (ho : H a = some o) (ga : G a = none) (h0 : C.H0 a = none) (hb : Rep K (upd G a o) (.ref a) x) (hs : en.sl[i]? = some (some b0)) (s0 : fpV H (.ref a) b0 = [a]) (ht : isTb o = false := by rfl) :
    Rel K C (upd G a o) H σ (en.set i (some (.d x))) := by
  have hm : a ∈ fpB H σ[i]? en.sl[i]? := by rw [hi, hs]; show a ∈ fpV H (.ref a) b0; rw [s0]; exact List.mem_cons_self ..
  have z := R.put (i := i) (w := some (.ref a)) (c := some (.d x)) (R.frG ht ho ga h0) (KP.Same.new ga) (fun j d ne hd => ?_) (fun c u h => ?_) ⟨_, rfl, hb⟩ fun d hd => nomatch hd
  · rw [show σ.set i (some (V.ref a)) = σ from by
      apply List.ext_getElem?
      intro k
      by_cases e : i = k
      · subst e
        rw [List.getElem?_set, hi]
        simp
        exact (List.getElem?_eq_some_iff.mp hi).1
      · rw [List.getElem?_set_ne e]] at z
    exact z
  · have : d ≠ a := fun q => ne (R.dist j i a (by rw [← q]; exact hd) hm)
    obtain ⟨_, _, _, _, _, _, g, _⟩ := R.at_ hd
    exact ⟨rfl, by rw [upd_ne this]; exact g⟩
  · obtain ⟨h1, ht, h2, h3, h4⟩ := R.hkk c u h
    have : c ≠ a := fun q => h4 i (by rw [q]; exact hm)
    exact ⟨h1, by rw [upd_ne this]; exact h2⟩
/-- an object is kept in sight -/
theorem Rel.hold (R : Rel K C G H σ en) {a : Addr} {o : HO} (h1 : H a = some o) (ht : Mo o = true) (h2 : G a = none) (h3 : a ∈ C.μ ∨ C.H0 a = none) (h4 : Free H σ en a) : Rel K { C with hk := upd C.hk a o } G H σ en :=
  ⟨R.fr, R.pen0, R.npn, R.slf0, R.tb0, R.gt0, R.anc, fun c u h => by
    have h : upd C.hk a o c = some u := h
    by_cases q : c = a
    · subst q
      rw [upd_same] at h; cases h
      exact ⟨h1, ht, h2, h3, h4⟩
    · rw [upd_ne q] at h; exact R.hkk c u h, R.len, R.slot, R.dist⟩
theorem Rel.unhold {a : Addr} {o : HO} (R : Rel K { C with hk := upd C.hk a o } G H σ en) (n : C.hk a = none) : Rel K C G H σ en :=
  ⟨R.fr, R.pen0, R.npn, R.slf0, R.tb0, R.gt0, R.anc, fun c u h => R.hkk c u (by show upd C.hk a o c = some u; rw [upd_ne (ne_of_none h n)]; exact h), R.len, R.slot, R.dist⟩
theorem Rel.hk0 (R : Rel K C G H σ en) {a : Addr} (n : H a = none) : C.hk a = none := by
  cases q : C.hk a with
  | none => rfl
  | some o => rw [(R.hkk a o q).1] at n; cases n
theorem Rel.weak {A : Hp} (R : Rel K { C with an := A } G H σ en) (h : Same C.an A) : Rel K C G H σ en := ⟨R.fr, R.pen0, R.npn, R.slf0, R.tb0, R.gt0, h.trans R.anc, R.hkk, R.len, R.slot, R.dist⟩
theorem Rel.anchor (R : Rel K C G H σ en) : Rel K { C with an := G } G H σ en := ⟨R.fr, R.pen0, R.npn, R.slf0, R.tb0, R.gt0, Same.refl G, R.hkk, R.len, R.slot, R.dist⟩
/-- a name is forgotten -/
theorem Rel.forget (R : Rel K C G H σ en) {i : Nat} (v : Option V) : Rel K C G H (σ.set i v) (en.set i none) :=
  R.put R.fr (Same.refl G) R.kp0 R.hkH (w := v) (c := none) trivial fun d hd => by cases v <;> cases hd
end
section
variable {K : PySem.W.Frag} {C : Ctx} {G H G' H' : Hp} {σ : L2.St} {en : En}
/-- a new object that no name holds becomes data -/
theorem Rel.adopt (R : Rel K C G H σ en) {a : Addr} {o : HO} (ho : H a = some o) (ga : G a = none) (h0 : C.H0 a = none) (fresh : Free H σ en a) (hn : C.hk a = none) (ht : isTb o = false := by rfl) : Rel K C (upd G a o) H σ en :=
  R.chg (R.frG ht ho ga h0) (KP.Same.new ga) (fun i c hc => by
    obtain ⟨_, _, _, _, _, _, g, _⟩ := R.at_ hc
    exact ⟨rfl, by rw [upd_ne (fun z => fresh i (by rw [← z]; exact hc))]; exact g⟩) fun c u h => ⟨(R.hkk c u h).1, by rw [upd_ne (ne_of_none h hn)]; exact (R.hkk c u h).2.2.1⟩
/-- an object that neither the data nor a name knows changes -/
theorem Rel.mutN (R : Rel K C G H σ en) {a : Addr} {o : HO} (ga : G a = none) (h0 : C.H0 a = none) (hu : ∀ u, H a = some u → Mo u = true) (ht : Mo o = true) (fresh : Free H σ en a) (hn : C.hk a = none) : Rel K C G (upd H a o) σ en :=
  R.chg (R.frU ga hu ht (.inr h0)) (Same.refl G) (fun i c hc => by
    obtain ⟨_, _, _, _, _, _, g, _⟩ := R.at_ hc
    exact ⟨by rw [upd_ne (fun z => fresh i (by rw [← z]; exact hc))], g⟩) fun c u h => ⟨by rw [upd_ne (ne_of_none h hn)]; exact (R.hkk c u h).1, (R.hkk c u h).2.2.1⟩
/-- an error's own dict becomes data -/
theorem Rel.adoptX (R : Rel K C G H σ en) {a : Addr} {vs : List (Str × V)} (ho : H a = some (.xd vs)) (ga : G a = none) : Rel K C (upd G a (.xd vs)) H σ en := by
  have sg : Same G (upd G a (.xd vs)) := KP.Same.new ga
  have nt : ∀ c, Trk H c → c ≠ a := fun c ⟨o, h, m⟩ z => by subst z; rw [ho] at h; cases h; cases m
  have f : Fr K C.π C.μ C.G0 C.H0 (upd G a (.xd vs)) H en.b := by
    refine ⟨R.fr.gg.trans sg, fun c u e => ?_, fun c h g => ?_, R.fr.keep, R.fr.tab, R.fr.nt.trans (.upd rfl), fun p e => ⟨(R.penG p e).1, ?_⟩, fun x e => ⟨?_, (R.fr.slf x e).2⟩⟩
    · by_cases q : c = a
      · subst q; rw [upd_same] at e; cases e; exact ho
      · rw [upd_ne q] at e; exact R.sub c u e
    · by_cases q : c = a
      · subst q
        cases r : C.H0 c with
        | none => exact .inl r
        | some o =>
          by_cases z : ∀ p, C.π = some p → c ≠ p.a
          · by_cases z2 : c ∈ C.μ
            · exact absurd rfl (nt c (R.fr.slf c z2).2)
            · by_cases z3 : ∃ ps, o = .tbl ps
              · obtain ⟨ps, rfl⟩ := z3
                obtain ⟨qs, hq⟩ := R.fr.tab.k c ps r
                rw [ho] at hq; cases hq
              · have hk := R.fr.keep _ _ r (fun ps e => z3 ⟨ps, e⟩) z z2
                rw [ho] at hk; cases hk
                exact .inr ⟨_, r, rfl⟩
          · exact absurd (fun p hp eq => by
              subst eq
              obtain ⟨kvs, hk⟩ := (R.penG p hp).1.is_
              rw [ho] at hk; cases hk) z
      · rw [upd_ne q] at h; exact R.fr.new c h g
    · have : p.a ≠ a := fun z => by
        obtain ⟨kvs, hk⟩ := (R.penG p e).1.is_
        rw [z, ho] at hk; cases hk
      rw [upd_ne this]; exact (R.penG p e).2
    · rw [upd_ne (nt x (R.fr.slf x e).2)]; exact (R.fr.slf x e).1
  exact R.chg f sg (fun i c hc => by
    obtain ⟨_, _, _, _, _, t, g, _⟩ := R.at_ hc
    exact ⟨rfl, by rw [upd_ne (nt c t)]; exact g⟩) fun c u h => by
    obtain ⟨h1, h2, h3, _⟩ := R.hkk c u h
    exact ⟨h1, by rw [upd_ne (nt c ⟨u, h1, h2⟩)]; exact h3⟩
theorem set_self {α : Type} {l : List α} {i : Nat} {x : α} (h : l[i]? = some x) : l.set i x = l := by
  apply List.ext_getElem?
  intro k
  by_cases e : i = k
  · subst e
    rw [List.getElem?_set, h]
    simp
    exact (List.getElem?_eq_some_iff.mp h).1
  · rw [List.getElem?_set_ne e]
/-- a name's own object is out of every name's sight once the name is forgotten -/
theorem Rel.freeF (R : Rel K C G H σ en) {i : Nat} {a : Addr} (h : a ∈ fpB H σ[i]? en.sl[i]?) : Free H σ (en.set i none) a := fun j z => by
  by_cases e : i = j
  · subst e
    have z : a ∈ fpB H σ[i]? (en.sl.set i none)[i]? := z
    rw [List.getElem?_set] at z
    simp only [if_true] at z
    split at z
    · cases q : σ[i]? with
      | none => rw [q] at z; cases z
      | some v => rw [q] at z; cases v <;> cases z
    · cases q : σ[i]? with
      | none => rw [q] at z; cases z
      | some v => rw [q] at z; cases v <;> cases z
  · have z : a ∈ fpB H σ[j]? (en.sl.set i none)[j]? := z
    rw [List.getElem?_set_ne e] at z
    exact e (R.dist i j a h z)
theorem Rel.hkF (R : Rel K C G H σ en) {i : Nat} {a : Addr} (h : a ∈ fpB H σ[i]? en.sl[i]?) : C.hk a = none := by
  cases q : C.hk a with
  | none => rfl
  | some o => exact absurd h ((R.hkk a o q).2.2.2.2 i)
/-- an own object becomes data, and is locked -/
theorem Rel.freezeL (R : Rel K C G H σ en) {i : Nat} {a : Addr} {o' : HO} {b0 : B} {x : D} (hi : σ[i]? = some (some (.ref a))) (ga : G a = none) (h0 : C.H0 a = none) (ht : Mo o' = true) (hb : Rep K (upd G a o') (.ref a) x) (hs : en.sl[i]? = some (some b0)) (s0 : fpV H (.ref a) b0 = [a]) :
    Rel K C (upd G a o') (upd H a o') σ (en.set i (some (.d x))) := by
  have hm : a ∈ fpB H σ[i]? en.sl[i]? := by rw [hi, hs]; show a ∈ fpV H (.ref a) b0; rw [s0]; exact List.mem_cons_self ..
  have hn := R.hkF hm
  have fr := R.freeF hm
  have R1 : Rel K C G H σ (en.set i none) := by
    have := R.forget (i := i) (some (.ref a))
    rw [set_self hi] at this
    exact this
  have R2 := R1.mutN (o := o') ga h0 (mo_at (R.at_ hm).choose_spec.choose_spec.2.2.2.1) ht fr hn
  have fr2 : Free (upd H a o') σ (en.set i none) a := fun j z => by
    have kp : ∀ c, c ∈ fpB H σ[j]? (en.set i none).sl[j]? → upd H a o' c = H c ∧ G c = none := fun c hc => by
      obtain ⟨_, _, _, _, _, _, g, _⟩ := R1.at_ hc
      exact ⟨by rw [upd_ne (fun z => fr j (by rw [← z]; exact hc))], g⟩
    have e : fpB (upd H a o') σ[j]? (en.set i none).sl[j]? = fpB H σ[j]? (en.set i none).sl[j]? := by
      cases q1 : σ[j]? with
      | none => rfl
      | some v =>
        cases q2 : (en.set i none).sl[j]? with
        | none => cases v <;> rfl
        | some b => rw [q1, q2] at kp; exact ((R1.slot j v b q1 q2).frame (Same.refl G) kp).2
    rw [e] at z
    exact fr j z
  have R3 := R2.adopt (o := o') upd_same ga h0 fr2 hn (mo_nt ht)
  have R4 := R3.setD (i := i) (v := .ref a) (b := .d x) ⟨_, rfl, hb⟩ rfl
  rw [set_self hi] at R4
  have e : ((en.set i none).set i (some (.d x))) = en.set i (some (.d x)) := by
    unfold En.set
    simp
  rw [e] at R4
  exact R4
end
/-! ### what becomes data is locked -/
inductive Lok (P : Hp → Prop) : Hp → Prop
  | here {H : Hp} : P H → Lok P H
  | lock {H : Hp} {d : Addr} {u : HO} : H d = some u → Mut (some u) → (∀ od, Lok P (upd H d (.frz od u))) → Lok P H
theorem Lok.run {X : Cx} {pins : List (Addr × Obj)} {σ : L2.St} {s : Shared} {P : Hp → Prop} {H : Hp} (l : Lok P H) (I : Inv X pins σ H s) : ∃ H', Inv X pins σ H' s ∧ P H' := by
  induction l with
  | here h => exact ⟨_, I, h⟩
  | lock hd mu _ ih =>
    obtain ⟨od, I1⟩ := I.lock hd mu
    exact ih od I1
theorem PE.lk {X : Cx} {e : Expr} {t : TE} (h : PE X e t) : PE X e (fun σ H Q => t σ H fun v H1 => Lok (Q v) H1) := ⟨fun pins s σ H Q I q => thn (h.run pins s σ H _ I q) fun u s1 ⟨x, H1, I1, rx, l⟩ => by
  obtain ⟨H2, I2, q2⟩ := l.run I1
  exact ⟨x, H2, I2, rx, q2⟩⟩
theorem PS.lk {X : Cx} {st : Stmt} {t : TS} (h : PS X st t) : PS X st (fun D σ H => t ⟨fun σ' H' => Lok (D.nx σ') H', fun v H' => Lok (D.rt v) H', fun σ' H' => Lok (D.bk σ') H', fun σ' H' => Lok (D.ct σ') H'⟩ σ H) := ⟨fun pins s σ H D I q => thn (h.run pins s σ H _ I q) fun f s1 q => by
  cases f with
  | next => obtain ⟨σ', H', I2, l⟩ := q; obtain ⟨H2, I2, q2⟩ := l.run I2; exact ⟨σ', H2, I2, q2⟩
  | brk => obtain ⟨σ', H', I2, l⟩ := q; obtain ⟨H2, I2, q2⟩ := l.run I2; exact ⟨σ', H2, I2, q2⟩
  | cont => obtain ⟨σ', H', I2, l⟩ := q; obtain ⟨H2, I2, q2⟩ := l.run I2; exact ⟨σ', H2, I2, q2⟩
  | ret v => obtain ⟨x, σ', H', I2, r, l⟩ := q; obtain ⟨H2, I2, q2⟩ := l.run I2; exact ⟨x, σ', H2, I2, r, q2⟩⟩
theorem PSs.lk {X : Cx} {ss : List Stmt} {t : TS} (h : PSs X ss t) : PSs X ss (fun D σ H => t ⟨fun σ' H' => Lok (D.nx σ') H', fun v H' => Lok (D.rt v) H', fun σ' H' => Lok (D.bk σ') H', fun σ' H' => Lok (D.ct σ') H'⟩ σ H) := ⟨fun pins s σ H D I q => thn (h.run pins s σ H _ I q) fun f s1 q => by
  cases f with
  | next => obtain ⟨σ', H', I2, l⟩ := q; obtain ⟨H2, I2, q2⟩ := l.run I2; exact ⟨σ', H2, I2, q2⟩
  | brk => obtain ⟨σ', H', I2, l⟩ := q; obtain ⟨H2, I2, q2⟩ := l.run I2; exact ⟨σ', H2, I2, q2⟩
  | cont => obtain ⟨σ', H', I2, l⟩ := q; obtain ⟨H2, I2, q2⟩ := l.run I2; exact ⟨σ', H2, I2, q2⟩
  | ret v => obtain ⟨x, σ', H', I2, r, l⟩ := q; obtain ⟨H2, I2, q2⟩ := l.run I2; exact ⟨x, σ', H2, I2, r, q2⟩⟩
end KD

/-! Expressions over data. -/
namespace KD
open PySem PySem.Spec PyProof.Rows L2 KP
abbrev EK := XC → En → Prop
abbrev WE := En → (D → En → Prop) → EK → Prop
abbrev WT := En → (Bool → En → Prop) → EK → Prop
abbrev WA := En → (List B → En → Prop) → EK → Prop
def RepX (K : PySem.W.Frag) (G H : Hp) (cls : Value) (od : Option Addr) (x : XC) : Prop :=
  cls = .ref (He.ga K x.c) ∧ ((x.fs = [] ∧ od = none) ∨ ∃ a vs, od = some a ∧ H a = some (.xd vs) ∧ RepF K G vs x.fs)
def XOk (K : PySem.W.Frag) (W : WX) (C : Ctx) (E : EK) : Prop :=
  ∀ x en σ G H cls od, Rel K C G H σ en → RepX K G H cls od x → E x en → W cls od σ H
/-- an expression's reading over data -/
def Rl (K : PySem.W.Frag) (W : WX) (w : WE) : TE := fun σ H Z => ∃ C G en Q E, Rel K C G H σ en ∧ XOk K W C E ∧ w en Q E ∧
  ∀ v x G' H' en', Rel K C G' H' σ en' → Same G G' → Rep K G' v x → Q x en' → Z v H'
def RlT (K : PySem.W.Frag) (W : WX) (w : WT) : TT := fun σ H Z => ∃ C G en Q E, Rel K C G H σ en ∧ XOk K W C E ∧ w en Q E ∧
  ∀ c G' H' en', Rel K C G' H' σ en' → Same G G' → Q c en' → Z c H'
/-- arguments: data, or the pen -/
def ArgR (K : PySem.W.Frag) (C : Ctx) (G : Hp) (v : V) : B → Prop
  | .d x => Rep K G v x
  | .pen => ∃ p, C.π = some p ∧ v = .ref p.a
  | .fn f g => v = .ref f ∧ Same g G
  | _ => False
def ArgsR (K : PySem.W.Frag) (C : Ctx) (G : Hp) : List V → List B → Prop := Paired (ArgR K C G)
def RlA (K : PySem.W.Frag) (W : WX) (w : WA) : TA := fun σ H Z => ∃ C G en Q E, Rel K C G H σ en ∧ XOk K W C E ∧ w en Q E ∧
  ∀ vs bs G' H' en', Rel K C G' H' σ en' → Same G G' → ArgsR K C G' vs bs → Q bs en' → Z vs H'
abbrev DE (X : Cx) (W : WX) (e : Expr) (w : WE) : Prop := PE X e (Rl X.K W w)
abbrev DT (X : Cx) (W : WX) (e : Expr) (w : WT) : Prop := PT X e (RlT X.K W w)
abbrev DW (X : Cx) (W : WX) (e : Expr) (w : WT) : Prop := PW X e (RlT X.K W w)
abbrev DA (X : Cx) (W : WX) (es : List Expr) (w : WA) : Prop := PA X es (RlA X.K W w)
section
variable {X : Cx} {W : WX} {e a b : Expr} {w wa wb : WE} {pos : Pos}
theorem PE.of {t t' : TE} (h : PE X e t) (k : ∀ σ H Z, t' σ H Z → t σ H Z) : PE X e t' := ⟨fun pins s σ H Q I q => h.run pins s σ H Q I (k σ H Q q)⟩
theorem PT.of {t t' : TT} (h : PT X e t) (k : ∀ σ H Z, t' σ H Z → t σ H Z) : PT X e t' := ⟨fun pins s σ H Q I q => h.run pins s σ H Q I (k σ H Q q)⟩
theorem PW.of {t t' : TT} (h : PW X e t) (k : ∀ σ H Z, t' σ H Z → t σ H Z) : PW X e t' := ⟨fun wh pins s σ H Q I q => h.run wh pins s σ H Q I (k σ H Q q)⟩
theorem PA.of {es : List Expr} {t t' : TA} (h : PA X es t) (k : ∀ σ H Z, t' σ H Z → t σ H Z) : PA X es t' := ⟨fun p pins s σ H Q I q => h.run p pins s σ H Q I (k σ H Q q)⟩
theorem OpR.or {f : Value → Value → Sem Value} {r r' : R2} (h : OpR X f r) (h' : OpR X f r') : OpR X f (fun x y H Q => r x y H Q ∨ r' x y H Q) := fun pins s σ H x y v u Q I rx ry q => by
  rcases q with q | q
  · exact h pins s σ H x y v u Q I rx ry q
  · exact h' pins s σ H x y v u Q I rx ry q
theorem CallR.or {f : Value} {r r' : List V → Hp → VK → Prop} (h : CallR X f r) (h' : CallR X f r') : CallR X f (fun x H Q => r x H Q ∨ r' x H Q) := fun pins s σ H xs us Q I rx q => by
  rcases q with q | q
  · exact h pins s σ H xs us Q I rx q
  · exact h' pins s σ H xs us Q I rx q
/-! ### names and constants -/
def eK (x : D) : WE := fun en Q _ => Q x en
def eVar (i : Nat) : WE := fun en Q _ => match en.sl[i]? with
  | some (some (.d x)) => Q x en
  | some (some (.own xs)) => Q (.lst xs) (en.set i (some (.d (.lst xs))))
  | some (some (.odk xs)) => Q (.dic xs) (en.set i (some (.d (.dic xs))))
  | some (some (.odt xs)) => Q (.dit xs) (en.set i (some (.d (.dit xs))))
  | _ => False
theorem d_const {v : V} {x : D} (h : PE X e (tC v)) (r : ∀ G, Rep X.K G v x) : DE X W e (eK x) := PE.of h fun σ H Z ⟨C, G, en, Q, E, R, xo, q, k⟩ => k v x G H en R (Same.refl G) (r G) q
theorem d_int {i j} : DE X W (.Constant (.int i) j pos) (eK (.int i)) := d_const pe_int fun _ => .int i
theorem d_bl {i j} : DE X W (.Constant (.bool i) j pos) (eK (.bl i)) := d_const pe_bl fun _ => .bl i
theorem d_non {j} : DE X W (.Constant .none j pos) (eK .non) := d_const pe_non fun _ => .non
theorem d_str {x j} : DE X W (.Constant (.str x) j pos) (eK (.str x)) := d_const pe_str fun _ => .str x
theorem d_gI {x : Str} {i : Int} (hg : Gl X x) (h : ∃ t, X.mg x = some (.int i t)) (hd : (x == ("__debug__" : Str)) = false := by decide) : DE X W (.Name x pos) (eK (.int i)) := d_const (pglobI hg h hd) fun _ => .int i
theorem d_gS {x z : Str} (hg : Gl X x) (h : ∃ t, X.mg x = some (.str z t)) (hd : (x == ("__debug__" : Str)) = false := by decide) : DE X W (.Name x pos) (eK (.str z)) := d_const (pglobS hg h hd) fun _ => .str z
theorem d_gC {x C : Str} (hg : Gl X x) (h : X.mg x = some (.ref (He.ga X.K C))) (hd : (x == ("__debug__" : Str)) = false := by decide) : DE X W (.Name x pos) (eK (.cls C)) := d_const (pe_glob hg h (v := .ref (He.ga X.K C)) rfl hd) fun _ => .cls C
theorem d_ty {x : Str} {n : String} (hg : Gl X x) (hm : X.mg x = none) (hv : bootBuiltins x = some (.type n)) (hn : x ≠ "__name__" := by decide) (hd : (x == ("__debug__" : Str)) = false := by decide) : DE X W (.Name x pos) (eK (.ty n)) :=
  d_const (pe_bltn (v := .ty n) hg hm hv rfl hn hd) fun _ => .ty n
theorem d_pow {a b c : Int} {j1 j2 : Nat} {p1 p2 : Pos} (h0 : (0 ≤ b ∧ b ≤ 1000000 ∧ a.natAbs < 2 ^ 64)) (h : a ^ b.toNat = c) : DE X W (.BinOp (.Constant (.int a) j1 p1) .Pow (.Constant (.int b) j2 p2) pos) (eK (.int c)) := d_const (ppow h0 h) fun _ => .int c
theorem d_var' {i : Nat} {x : Str} (h : PE X (.Name x pos) (tVar i)) : DE X W (.Name x pos) (eVar i) := PE.of (PE.lk h) fun σ H Z ⟨C, G, en, Q, E, R, xo, q, k⟩ => by
  unfold eVar at q
  split at q
  · rename_i y e
    obtain ⟨v, e1, u, e2, r⟩ := R.var e
    cases e2
    exact ⟨_, e1, .here (k _ _ G H en R (Same.refl G) r q)⟩
  · rename_i y e
    obtain ⟨v, e1, a, vs, e2, h1, h2, h3, r⟩ := R.var e
    cases e2
    have sg : Same G (upd G a (.lst vs)) := KP.Same.new h2
    have r2 : Rep X.K (upd G a (.lst vs)) (.ref a) (.lst y) := .lst upd_same (r.mono sg)
    exact ⟨_, e1, .here (k _ _ _ H _ (R.freeze e1 h1 h2 h3 r2 e rfl) sg r2 q)⟩
  · rename_i y e
    obtain ⟨v, e1, a, vs, e2, h1, h2, h3, r⟩ := R.var e
    cases e2
    refine ⟨_, e1, .lock h1 trivial fun od => .here ?_⟩
    have sg : Same G (upd G a (.frz od (.dK vs))) := KP.Same.new h2
    have r2 : Rep X.K (upd G a (.frz od (.dK vs))) (.ref a) (.dic y) := .dic ⟨_, upd_same⟩ (r.mono sg)
    exact k _ _ _ _ _ (R.freezeL e1 h2 h3 rfl r2 e rfl) sg r2 q
  · rename_i y e
    obtain ⟨v, e1, a, vs, e2, h1, h2, h3, r⟩ := R.var e
    cases e2
    refine ⟨_, e1, .lock h1 trivial fun od => .here ?_⟩
    have sg : Same G (upd G a (.frz od (.dT vs))) := KP.Same.new h2
    have r2 : Rep X.K (upd G a (.frz od (.dT vs))) (.ref a) (.dit y) := .dit ⟨_, upd_same⟩ (r.mono sg)
    exact k _ _ _ _ _ (R.freezeL e1 h2 h3 rfl r2 e rfl) sg r2 q
  · exact q.elim
theorem dv (i : Nat) {x : Str} (hN : X.N[i]? = some x := by rfl) (hv : Vis X.env.scope x := by first | exact Or.inl rfl | exact Or.inr (Or.inl rfl) | exact Or.inr (Or.inr rfl)) (hd : (x == ("__debug__" : Str)) = false := by decide)
    (hcd : (x == ("__classdict__" : Str)) = false := by decide) : DE X W (.Name x pos) (eVar i) := d_var' (pe_var hN hv hd hcd)
/-! ### operators -/
abbrev O2 := D → D → (D → Prop) → Prop
abbrev O1 := D → (D → Prop) → Prop
def RD2 (K : PySem.W.Frag) (r : R2) (o : O2) : Prop := ∀ G H v u x y Q Z, Same G H → Rep K G v x → Rep K G u y → o x y Q → (∀ z w G' H', Gr G H G' H' → Rep K G' w z → Q z → Z w H') → r v u H Z
def RD1 (K : PySem.W.Frag) (r : V → Hp → VK → Prop) (o : O1) : Prop := ∀ G H v x Q Z, Same G H → Rep K G v x → o x Q → (∀ z w G' H', Gr G H G' H' → Rep K G' w z → Q z → Z w H') → r v H Z
def OpD (X : Cx) (f : Value → Value → Sem Value) (o : O2) : Prop := ∃ r, OpR X f r ∧ RD2 X.K r o
def UnD (X : Cx) (f : Value → Sem Value) (o : O1) : Prop := ∃ r, UnR X f r ∧ RD1 X.K r o
def eOp (o : O2) (wa wb : WE) : WE := fun en Q E => wa en (fun x en1 => wb en1 (fun y en2 => o x y fun z => Q z en2) E) E
def eUn (o : O1) (wa : WE) : WE := fun en Q E => wa en (fun x en1 => o x fun z => Q z en1) E
theorem rl_op {K : PySem.W.Frag} {r : R2} {o : O2} (hr : RD2 K r o) {σ : L2.St} {H : Hp} {Z : VK} (h : Rl K W (eOp o wa wb) σ H Z) : tOp r (Rl K W wa) (Rl K W wb) σ H Z := by
  obtain ⟨C, G, en, Q, E, R, xo, q, k⟩ := h
  refine ⟨C, G, en, _, E, R, xo, q, fun v x G1 H1 en1 R1 s1 r1 q1 => ?_⟩
  refine ⟨C, G1, en1, _, E, R1, xo, q1, fun u y G2 H2 en2 R2 s2 r2 q2 => ?_⟩
  exact hr G2 H2 v u x y _ Z R2.sub (r1.mono s2) r2 q2 fun z w G3 H3 g r3 q3 => k w z G3 H3 en2 (R2.grow g) ((s1.trans s2).trans g.gg) r3 q3
theorem d_op {op : Operator} {o : O2} (ho : OpD X (binaryOp op) o) (ha : DE X W a wa) (hb : DE X W b wb) : DE X W (.BinOp a op b pos) (eOp o wa wb) := by
  obtain ⟨r, h1, h2⟩ := ho
  exact PE.of (pe_op h1 ha hb) fun σ H Z => rl_op h2
theorem d_cmp {op : CmpOp} {o : O2} (ho : OpD X (compareOp op) o) (ha : DE X W a wa) (hb : DE X W b wb) (hm : behindInMarks op b = false := by rfl) : DE X W (.Compare a [op] [b] pos) (eOp o wa wb) := by
  obtain ⟨r, h1, h2⟩ := ho
  exact PE.of (pe_cmpR h1 ha hb hm) fun σ H Z => rl_op h2
theorem d_un {op : UnaryOp} {o : O1} (ho : UnD X (unaryOp op) o) (ha : DE X W a wa) : DE X W (.UnaryOp op a pos) (eUn o wa) := by
  obtain ⟨r, h1, h2⟩ := ho
  refine PE.of (pe_un h1 ha) fun σ H Z h => ?_
  obtain ⟨C, G, en, Q, E, R, xo, q, k⟩ := h
  refine ⟨C, G, en, _, E, R, xo, q, fun v x G1 H1 en1 R1 s1 r1 q1 => ?_⟩
  exact h2 G1 H1 v x _ Z R1.sub r1 q1 fun z w G3 H3 g r3 q3 => k w z G3 H3 en1 (R1.grow g) (s1.trans g.gg) r3 q3
/-- chain a op b op' c -/
def eChain (o o' : O2) (wa wb wc : WE) : WE := fun en Q E => wa en (fun x en1 => wb en1 (fun y en2 => o x y fun z => match z with
  | .bl true => wc en2 (fun u en3 => o' y u fun t => Q t en3) E
  | .bl false => Q (.bl false) en2
  | _ => False) E) E
theorem rl_chain {K : PySem.W.Frag} {wc : WE} {r r' : R2} {o o' : O2} (h2 : RD2 K r o) (h2' : RD2 K r' o') {σ : L2.St} {H : Hp} {Z : VK} (h : Rl K W (eChain o o' wa wb wc) σ H Z) : tChain r r' (Rl K W wa) (Rl K W wb) (Rl K W wc) σ H Z := by
  obtain ⟨C, G, en, Q, E, R, xo, q, k⟩ := h
  refine ⟨C, G, en, _, E, R, xo, q, fun v x G1 H1 en1 R1 s1 r1 q1 => ?_⟩
  refine ⟨C, G1, en1, _, E, R1, xo, q1, fun u y G2 H2 en2 R2 s2 r2 q2 => ?_⟩
  refine h2 G2 H2 v u x y _ _ R2.sub (r1.mono s2) r2 q2 fun z w G3 H3 g r3 q3 => ?_
  cases r3 with
  | bl c =>
    refine ⟨c, rfl, ?_⟩
    cases c with
    | true =>
      rw [if_pos rfl]
      refine ⟨C, G3, en2, _, E, R2.grow g, xo, q3, fun u4 y4 G4 H4 en4 R4 s4 r4 q4 => ?_⟩
      exact h2' G4 H4 u u4 y y4 _ Z R4.sub ((r2.mono g.gg).mono s4) r4 q4 fun z5 w5 G5 H5 g5 r5 q5 => k w5 z5 G5 H5 en4 (R4.grow g5) ((((s1.trans s2).trans g.gg).trans s4).trans g5.gg) r5 q5
    | false =>
      rw [if_neg (by decide)]
      exact k _ _ G3 H3 en2 (R2.grow g) ((s1.trans s2).trans g.gg) (.bl false) q3
  | _ => exact q3.elim
theorem d_chain {c : Expr} {wc : WE} {op op' : CmpOp} {o o' : O2} (ho : OpD X (compareOp op) o) (ho' : OpD X (compareOp op') o') (ha : DE X W a wa) (hb : DE X W b wb) (hc : DE X W c wc)
    (hm : lastMarks [op, op'] [b, c] = false := by with_unfolding_all rfl) : DE X W (.Compare a [op, op'] [b, c] pos) (eChain o o' wa wb wc) := by
  obtain ⟨r, h1, h2⟩ := ho
  obtain ⟨r', h1', h2'⟩ := ho'
  exact PE.of (pe_chain h1 h1' ha hb hc hm) fun σ H Z h => rl_chain h2 h2' h
/-! ### tests -/
def tOf (w : WE) : WT := fun en Q E => w en (fun x en1 => match x with | .bl c => Q c en1 | _ => False) E
theorem dt_val (h : DE X W e w) (hv : PT X e (tB (Rl X.K W w))) : DT X W e (tOf w) := PT.of hv fun σ H Z ⟨C, G, en, Q, E, R, xo, q, k⟩ => by
  refine ⟨C, G, en, _, E, R, xo, q, fun v x G1 H1 en1 R1 s1 r1 q1 => ?_⟩
  cases r1 with
  | bl c => exact ⟨c, rfl, k c G1 H1 en1 R1 s1 q1⟩
  | _ => exact q1.elim
theorem dt_cmp {op : CmpOp} {o : O2} (ho : OpD X (compareOp op) o) (ha : DE X W a wa) (hb : DE X W b wb) (hm : behindInMarks op b = false := by rfl) : DT X W (.Compare a [op] [b] pos) (tOf (eOp o wa wb)) := by
  obtain ⟨r, h1, h2⟩ := ho
  refine PT.of (pt_cmpR h1 ha hb hm) fun σ H Z ⟨C, G, en, Q, E, R, xo, q, k⟩ => ?_
  refine rl_op h2 ⟨C, G, en, _, E, R, xo, q, fun v x G1 H1 en1 R1 s1 r1 q1 => ?_⟩
  cases r1 with
  | bl c => exact ⟨c, rfl, k c G1 H1 en1 R1 s1 q1⟩
  | _ => exact q1.elim
def tAndD (a b : WT) : WT := fun en Q E => a en (fun c en1 => if c = true then b en1 Q E else Q false en1) E
def tOrD (a b : WT) : WT := fun en Q E => a en (fun c en1 => if c = true then Q true en1 else b en1 Q E) E
def tNotD (a : WT) : WT := fun en Q E => a en (fun c en1 => Q (!c) en1) E
section
variable {vs : List Expr} {t u : WT}
theorem rlt_and {σ : L2.St} {H : Hp} {Z : Bool → Hp → Prop} (h : RlT X.K W (tAndD t u) σ H Z) : tAnd (RlT X.K W t) (RlT X.K W u) σ H Z := by
  obtain ⟨C, G, en, Q, E, R, xo, q, k⟩ := h
  refine ⟨C, G, en, _, E, R, xo, q, fun c G1 H1 en1 R1 s1 q1 => ?_⟩
  cases c with
  | true => rw [if_pos rfl] at q1 ⊢; exact ⟨C, G1, en1, _, E, R1, xo, q1, fun c2 G2 H2 en2 R2 s2 q2 => k c2 G2 H2 en2 R2 (s1.trans s2) q2⟩
  | false => rw [if_neg (by decide)] at q1 ⊢; exact k false G1 H1 en1 R1 s1 q1
theorem rlt_or {σ : L2.St} {H : Hp} {Z : Bool → Hp → Prop} (h : RlT X.K W (tOrD t u) σ H Z) : tOr (RlT X.K W t) (RlT X.K W u) σ H Z := by
  obtain ⟨C, G, en, Q, E, R, xo, q, k⟩ := h
  refine ⟨C, G, en, _, E, R, xo, q, fun c G1 H1 en1 R1 s1 q1 => ?_⟩
  cases c with
  | true => rw [if_pos rfl] at q1 ⊢; exact k true G1 H1 en1 R1 s1 q1
  | false => rw [if_neg (by decide)] at q1 ⊢; exact ⟨C, G1, en1, _, E, R1, xo, q1, fun c2 G2 H2 en2 R2 s2 q2 => k c2 G2 H2 en2 R2 (s1.trans s2) q2⟩
theorem dw_and1 (ha : DT X W a t) : DW X W (.BoolOp .And [a] pos) t := pw_and1 ha
theorem dw_or1 (ha : DT X W a t) : DW X W (.BoolOp .Or [a] pos) t := pw_or1 ha
theorem dw_and {rest : List Expr} (ha : DT X W a t) (hb : DW X W (.BoolOp .And (b :: rest) pos) u) : DW X W (.BoolOp .And (a :: b :: rest) pos) (tAndD t u) := PW.of (pw_and ha hb) fun _ _ _ => rlt_and
theorem dw_or {rest : List Expr} (ha : DT X W a t) (hb : DW X W (.BoolOp .Or (b :: rest) pos) u) : DW X W (.BoolOp .Or (a :: b :: rest) pos) (tOrD t u) := PW.of (pw_or ha hb) fun _ _ _ => rlt_or
theorem dt_not (ha : DT X W a t) : DT X W (.UnaryOp .Not a pos) (tNotD t) := PT.of (pt_not ha) fun σ H Z ⟨C, G, en, Q, E, R, xo, q, k⟩ => ⟨C, G, en, _, E, R, xo, q, fun c G1 H1 en1 R1 s1 q1 => k _ G1 H1 en1 R1 s1 q1⟩
theorem dt_chain {c : Expr} {wc : WE} {op op' : CmpOp} {o o' : O2} (ho : OpD X (compareOp op) o) (ho' : OpD X (compareOp op') o') (ha : DE X W a wa) (hb : DE X W b wb) (hc : DE X W c wc)
    (hm : lastMarks [op, op'] [b, c] = false := by with_unfolding_all rfl) : DT X W (.Compare a [op, op'] [b, c] pos) (tOf (eChain o o' wa wb wc)) := by
  obtain ⟨r, h1, h2⟩ := ho
  obtain ⟨r', h1', h2'⟩ := ho'
  refine PT.of (pt_chain h1 h1' ha hb hc hm) fun σ H Z ⟨C, G, en, Q, E, R, xo, q, k⟩ => ?_
  refine rl_chain h2 h2' ⟨C, G, en, _, E, R, xo, q, fun v x G1 H1 en1 R1 s1 r1 q1 => ?_⟩
  cases r1 with
  | bl c => exact ⟨c, rfl, k c G1 H1 en1 R1 s1 q1⟩
  | _ => exact q1.elim
theorem dt_bool (h : DE X W e w) (he : ∀ whole, isTrue e X.env whole = (do let v ← whole; standAt e.pos; holding [v] (truthy v)) := by intro _; rfl) : DT X W e (tOf w) := dt_val h (pt_val h he)
/-- and, or, not as values of bools -/
def eAnd (wa wb : WE) : WE := fun en Q E => wa en (fun x en1 => match x with | .bl true => wb en1 Q E | .bl false => Q (.bl false) en1 | _ => False) E
def eNot (wa : WE) : WE := fun en Q E => wa en (fun x en1 => match x with | .bl c => Q (.bl (!c)) en1 | _ => False) E
theorem d_one {op} (h : DE X W a wa) : DE X W (.BoolOp op [a] pos) wa := pe_one h
theorem d_and {rest : List Expr} (ha : DE X W a wa) (hb : DE X W (.BoolOp .And (b :: rest) pos) wb) : DE X W (.BoolOp .And (a :: b :: rest) pos) (eAnd wa wb) := PE.of (pe_and ha hb) fun σ H Z ⟨C, G, en, Q, E, R, xo, q, k⟩ => by
  refine ⟨C, G, en, _, E, R, xo, q, fun v x G1 H1 en1 R1 s1 r1 q1 => ?_⟩
  cases r1 with
  | bl c =>
    refine ⟨c, rfl, ?_⟩
    cases c with
    | true => rw [if_pos rfl]; exact ⟨C, G1, en1, _, E, R1, xo, q1, fun v2 c2 G2 H2 en2 R2 s2 r2 q2 => k v2 c2 G2 H2 en2 R2 (s1.trans s2) r2 q2⟩
    | false => rw [if_neg (by decide)]; exact k _ _ G1 H1 en1 R1 s1 (.bl false) q1
  | _ => exact q1.elim
theorem d_not (ha : DE X W a wa) : DE X W (.UnaryOp .Not a pos) (eNot wa) := PE.of (pe_not ha) fun σ H Z ⟨C, G, en, Q, E, R, xo, q, k⟩ => by
  refine ⟨C, G, en, _, E, R, xo, q, fun v x G1 H1 en1 R1 s1 r1 q1 => ?_⟩
  cases r1 with
  | bl c => exact ⟨c, rfl, k _ _ G1 H1 en1 R1 s1 (.bl _) q1⟩
  | _ => exact q1.elim
/-- a if c else b; the value is told by what holds of it (M) -/
def eIf (t : WT) (wa wb : WE) : WE := fun en Q E => t en (fun c en1 => if c = true then wa en1 Q E else wb en1 Q E) E
theorem d_if {c : Expr} (hc : DT X W c t) (ha : DE X W a wa) (hb : DE X W b wb) : DE X W (.IfExp c a b pos) (eIf t wa wb) := PE.of (pe_ifExp hc ha hb) fun σ H Z ⟨C, G, en, Q, E, R, xo, q, k⟩ => by
  refine ⟨C, G, en, _, E, R, xo, q, fun c G1 H1 en1 R1 s1 q1 => ?_⟩
  cases c with
  | true => rw [if_pos rfl] at q1 ⊢; exact ⟨C, G1, en1, _, E, R1, xo, q1, fun v2 c2 G2 H2 en2 R2 s2 r2 q2 => k v2 c2 G2 H2 en2 R2 (s1.trans s2) r2 q2⟩
  | false => rw [if_neg (by decide)] at q1 ⊢; exact ⟨C, G1, en1, _, E, R1, xo, q1, fun v2 c2 G2 H2 en2 R2 s2 r2 q2 => k v2 c2 G2 H2 en2 R2 (s1.trans s2) r2 q2⟩
def eCut (w : WE) : WE := fun en Q E => ∃ M : D → En → Prop, w en M E ∧ ∀ x en', M x en' → Q x en'
theorem d_cut (h : DE X W e w) : DE X W e (eCut w) := PE.of h fun σ H Z ⟨C, G, en, Q, E, R, xo, ⟨M, q, m⟩, k⟩ => ⟨C, G, en, M, E, R, xo, q, fun v x G1 H1 en1 R1 s1 r1 q1 => k v x G1 H1 en1 R1 s1 r1 (m x en1 q1)⟩
/-! ### arguments, displays -/
def aNil : WA := fun en Q _ => Q [] en
def aCons (w : WE) (r : WA) : WA := fun en Q E => w en (fun x en1 => r en1 (fun bs en2 => Q (.d x :: bs) en2) E) E
def aPen (i : Nat) (r : WA) : WA := fun en Q E => match en.sl[i]? with
  | some (some .pen) => r en (fun bs en2 => Q (.pen :: bs) en2) E
  | _ => False
theorem ArgR.mono {K : PySem.W.Frag} {C : Ctx} {G G' : Hp} (s : Same G G') {v : V} : ∀ {b : B}, ArgR K C G v b → ArgR K C G' v b
  | .d x, h => Rep.mono s h
  | .pen, h => h
  | .fn f g, h => ⟨h.1, h.2.trans s⟩
theorem ArgsR.mono {K : PySem.W.Frag} {C : Ctx} {G G' : Hp} (s : Same G G') : ∀ {vs : List V} {bs : List B}, ArgsR K C G vs bs → ArgsR K C G' vs bs
  | _, _, .nil => .nil
  | _, _, .cons h r => .cons (h.mono s) (ArgsR.mono s r)
theorem da_nil : DA X W [] aNil := PA.of pa_nil fun σ H Z ⟨C, G, en, Q, E, R, xo, q, k⟩ => k [] [] G H en R (Same.refl G) .nil q
theorem da_cons {es : List Expr} {r : WA} (ha : DE X W e w) (hr : DA X W es r) (hs : starEach (e :: es) X.env = (false, eval e X.env) :: starEach es X.env := by rfl) : DA X W (e :: es) (aCons w r) := PA.of (pa_cons ha hr hs) fun σ H Z ⟨C, G, en, Q, E, R, xo, q, k⟩ => by
  refine ⟨C, G, en, _, E, R, xo, q, fun v x G1 H1 en1 R1 s1 r1 q1 => ?_⟩
  exact ⟨C, G1, en1, _, E, R1, xo, q1, fun vs bs G2 H2 en2 R2 s2 r2 q2 => k (v :: vs) (.d x :: bs) G2 H2 en2 R2 (s1.trans s2) (.cons (r1.mono s2) r2) q2⟩
theorem da_pen {i : Nat} {x : Str} {es : List Expr} {r : WA} (ha : PE X (.Name x pos) (tVar i)) (hr : DA X W es r) (hs : starEach (.Name x pos :: es) X.env = (false, eval (.Name x pos) X.env) :: starEach es X.env := by rfl) : DA X W (.Name x pos :: es) (aPen i r) := PA.of (pa_cons ha hr hs) fun σ H Z ⟨C, G, en, Q, E, R, xo, q, k⟩ => by
  unfold aPen at q
  split at q
  · rename_i e
    obtain ⟨v, e1, p, e2, e3⟩ := R.var e
    cases e3
    refine ⟨_, e1, C, G, en, _, E, R, xo, q, fun vs bs G2 H2 en2 R2 s2 r2 q2 => k _ _ G2 H2 en2 R2 s2 (.cons (show ArgR X.K C G2 _ .pen from ⟨p, e2, rfl⟩) r2) q2⟩
  · exact q.elim
/-- the items of a display: data alone -/
def allD : List B → Option (List D)
  | [] => some []
  | .d x :: r => (allD r).map (x :: ·)
  | _ :: _ => none
theorem ArgsR.reps {K : PySem.W.Frag} {C : Ctx} {G : Hp} : ∀ {vs : List V} {bs : List B} {xs : List D}, ArgsR K C G vs bs → allD bs = some xs → Reps K G vs xs
  | _, _, _, .nil, e => by cases e; exact .nil
  | _, _, _, .cons (b := b) h r, e => by
    cases b with
    | d x =>
      cases q : allD _ with
      | none => rw [allD, q] at e; cases e
      | some ys =>
        rw [allD, q] at e
        cases e
        exact .cons h (ArgsR.reps r q)
    | _ => cases e
/-- display items as data -/
def aD (r : WA) : En → (List D → En → Prop) → EK → Prop := fun en Q E => r en (fun bs en1 => match allD bs with | some xs => Q xs en1 | none => False) E
def eTup (r : WA) : WE := fun en Q E => aD r en (fun xs en1 => xs.length ≤ 100000 ∧ Q (.tup xs) en1) E
def eLst (r : WA) : WE := fun en Q E => aD r en (fun xs en1 => xs.length ≤ 100000 ∧ Q (.lst xs) en1) E
theorem sz5 {n : Nat} (h : n ≤ 100000) : n ≤ sizeLine := Nat.le_trans h (by decide)
theorem sz5l {n : Nat} (h : n < 100000) : n < sizeLine := Nat.lt_of_lt_of_le h (by decide)
theorem d_tup {es : List Expr} {r : WA} {x1} (h : DA X W es r) : DE X W (.Tuple es x1 pos) (eTup r) := PE.of (pe_tup h) fun σ H Z ⟨C, G, en, Q, E, R, xo, q, k⟩ => by
  refine ⟨C, G, en, _, E, R, xo, q, fun vs bs G1 H1 en1 R1 s1 r1 q1 => ?_⟩
  cases qb : allD bs with
  | none => rw [qb] at q1; exact q1.elim
  | some xs =>
    rw [qb] at q1
    have rr := r1.reps qb
    refine ⟨by rw [rr.length]; exact sz5 q1.1, fun p np => ?_⟩
    have g := Gr.new1 (o := .tup vs) R1.sub np
    exact k (.ref p) (.tup xs) _ _ en1 (R1.grow g) (s1.trans g.gg) (.tup (SqT.of upd_same) (rr.mono g.gg)) q1.2
theorem d_lst {es : List Expr} {r : WA} (h : DA X W es r) : DE X W (.List es pos) (eLst r) := PE.of (pe_lst h) fun σ H Z ⟨C, G, en, Q, E, R, xo, q, k⟩ => by
  refine ⟨C, G, en, _, E, R, xo, q, fun vs bs G1 H1 en1 R1 s1 r1 q1 => ?_⟩
  cases qb : allD bs with
  | none => rw [qb] at q1; exact q1.elim
  | some xs =>
    rw [qb] at q1
    have rr := r1.reps qb
    refine ⟨by rw [rr.length]; exact sz5 q1.1, fun p np => ?_⟩
    have g := Gr.new1 (o := .lst vs) R1.sub np
    exact k (.ref p) (.lst xs) _ _ en1 (R1.grow g) (s1.trans g.gg) (.lst upd_same (rr.mono g.gg)) q1.2
end
end
end KD

/-! Statements, loops, comprehensions, defs over data. -/
namespace KD
open PySem PySem.Spec PyProof.Rows L2 KP
/-! ### new lists -/
abbrev WF := En → (List D → En → Prop) → EK → Prop
def Nw (C : Ctx) (G H : Hp) (σ : L2.St) (en : En) (a : Addr) : Prop := G a = none ∧ C.H0 a = none ∧ Free H σ en a ∧ C.hk a = none
def RlF (K : PySem.W.Frag) (W : WX) (w : WF) : TE := fun σ H Z => ∃ C G en Q E, Rel K C G H σ en ∧ XOk K W C E ∧ w en Q E ∧
  ∀ a vs xs G' H' en', Rel K C G' H' σ en' → Same G G' → H' a = some (.lst vs) → Nw C G' H' σ en' a → Reps K G' vs xs → Q xs en' → Z (.ref a) H'
abbrev DF (X : Cx) (W : WX) (e : Expr) (w : WF) : Prop := PE X e (RlF X.K W w)
def eF (w : WF) : WE := fun en Q E => w en (fun xs en1 => Q (.lst xs) en1) E
section
variable {X : Cx} {W : WX} {e a b : Expr} {w wa wb : WE} {pos : Pos}
theorem rlF {K : PySem.W.Frag} {wf : WF} {σ : L2.St} {H : Hp} {Z : VK} (h : Rl K W (eF wf) σ H Z) : RlF K W wf σ H Z := by
  obtain ⟨C, G, en, Q, E, R, xo, q, k⟩ := h
  refine ⟨C, G, en, _, E, R, xo, q, fun a vs xs G1 H1 en1 R1 s1 h1 n r1 q1 => ?_⟩
  have sg : Same G1 (upd G1 a (.lst vs)) := KP.Same.new n.1
  exact k (.ref a) (.lst xs) _ H1 en1 (R1.adopt h1 n.1 n.2.1 n.2.2.1 n.2.2.2) (s1.trans sg) (.lst upd_same (r1.mono sg)) q1
theorem DF.de {wf : WF} (h : DF X W e wf) : DE X W e (eF wf) := PE.of h fun _ _ _ => rlF
end
/-! ### statements -/
structure DN where
  nx : En → Prop
  rt : D → En → Prop
  bk : En → Prop := fun _ => False
  ct : En → Prop := fun _ => False
  ex : EK
  fr : List D → En → Prop := fun _ _ => False
abbrev WS := DN → En → Prop
structure Lk (K : PySem.W.Frag) (C : Ctx) (N : DN) (Ds : Ends) : Prop where
  nx : ∀ G H σ en, Rel K C G H σ en → N.nx en → Ds.nx σ H
  rt : ∀ v x G H σ en, Rel K C G H σ en → Rep K G v x → N.rt x en → Ds.rt v H
  bk : ∀ G H σ en, Rel K C G H σ en → N.bk en → Ds.bk σ H
  ct : ∀ G H σ en, Rel K C G H σ en → N.ct en → Ds.ct σ H
  fr : ∀ a vs xs G H σ en, Rel K C G H σ en → H a = some (.lst vs) → Nw C G H σ en a → Reps K G vs xs → N.fr xs en → Ds.rt (.ref a) H
def RlS (K : PySem.W.Frag) (W : WX) (w : WS) : TS := fun Ds σ H => ∃ C G en N, Rel K C G H σ en ∧ XOk K W C N.ex ∧ w N en ∧ Lk K C N Ds
abbrev DS (X : Cx) (W : WX) (st : Stmt) (w : WS) : Prop := PS X st (RlS X.K W w)
abbrev DSs (X : Cx) (W : WX) (ss : List Stmt) (w : WS) : Prop := PSs X ss (RlS X.K W w)
def sNil : WS := fun N en => N.nx en
def sSeq (a b : WS) : WS := fun N en => a { N with nx := fun en1 => b N en1 } en
def sExpr (w : WE) : WS := fun N en => w en (fun _ en1 => N.nx en1) N.ex
def sRet (w : WE) : WS := fun N en => w en N.rt N.ex
def sSet (i : Nat) (w : WE) : WS := fun N en => w en (fun x en1 => N.nx (en1.set i (some (.d x)))) N.ex
def sIf (t : WT) (a b : WS) : WS := fun N en => t en (fun c en1 => if c = true then a N en1 else b N en1) N.ex
def sCut (w : WS) : WS := fun N en => ∃ M : En → Prop, w { N with nx := M } en ∧ ∀ en1, M en1 → N.nx en1
section
variable {X : Cx} {W : WX} {e a b : Expr} {w wa wb : WE} {pos : Pos} {st : Stmt} {rest : List Stmt} {t u : WS}
theorem PS.of {t t' : TS} (h : PS X st t) (k : ∀ D σ H, t' D σ H → t D σ H) : PS X st t' := ⟨fun pins s σ H D I q => h.run pins s σ H D I (k D σ H q)⟩
theorem PSs.of {t t' : TS} (h : PSs X rest t) (k : ∀ D σ H, t' D σ H → t D σ H) : PSs X rest t' := ⟨fun pins s σ H D I q => h.run pins s σ H D I (k D σ H q)⟩
theorem ds_nil : DSs X W [] sNil := PSs.of pss_nil fun D σ H ⟨C, G, en, N, R, xo, q, L⟩ => L.nx G H σ en R q
theorem ds_one (h : DS X W st t) : DSs X W [st] t := pss_one h
theorem ds_cons (h : DS X W st t) (hr : DSs X W rest u) : DSs X W (st :: rest) (sSeq t u) := PSs.of (pss_cons h hr) fun D σ H ⟨C, G, en, N, R, xo, q, L⟩ =>
  ⟨C, G, en, { N with nx := fun en1 => u N en1 }, R, xo, q, ⟨fun G1 H1 σ1 en1 R1 q1 => ⟨C, G1, en1, N, R1, xo, q1, L⟩, L.rt, L.bk, L.ct, L.fr⟩⟩
theorem ds_cut (h : DS X W st t) : DS X W st (sCut t) := PS.of h fun D σ H ⟨C, G, en, N, R, xo, ⟨M, q, m⟩, L⟩ => ⟨C, G, en, { N with nx := M }, R, xo, q, ⟨fun G1 H1 σ1 en1 R1 q1 => L.nx G1 H1 σ1 en1 R1 (m en1 q1), L.rt, L.bk, L.ct, L.fr⟩⟩
theorem ds_expr (h : PS X st (tDrop (Rl X.K W w))) : DS X W st (sExpr w) := PS.of h fun D σ H ⟨C, G, en, N, R, xo, q, L⟩ => ⟨C, G, en, _, _, R, xo, q, fun v x G1 H1 en1 R1 s1 r1 q1 => L.nx G1 H1 σ en1 R1 q1⟩
theorem ds_ret (h : DE X W e w) : DS X W (.Return (some e) pos) (sRet w) := PS.of (ps_ret h) fun D σ H ⟨C, G, en, N, R, xo, q, L⟩ => ⟨C, G, en, _, _, R, xo, q, fun v x G1 H1 en1 R1 s1 r1 q1 => L.rt v x G1 H1 σ en1 R1 r1 q1⟩
theorem ds_if {c : Expr} {tc : WT} {ss ts : List Stmt} (hc : DT X W c tc) (ha : DSs X W ss t) (hb : DSs X W ts u) : DS X W (.If c ss ts pos) (sIf tc t u) := PS.of (ps_if hc ha hb) fun D σ H ⟨C, G, en, N, R, xo, q, L⟩ => by
  refine ⟨C, G, en, _, _, R, xo, q, fun c G1 H1 en1 R1 s1 q1 => ?_⟩
  cases c with
  | true => rw [if_pos rfl] at q1 ⊢; exact ⟨C, G1, en1, N, R1, xo, q1, L⟩
  | false => rw [if_neg (by decide)] at q1 ⊢; exact ⟨C, G1, en1, N, R1, xo, q1, L⟩
/-! ### targets -/
abbrev WG := D → En → (En → Prop) → Prop
abbrev WGs := List D → En → (En → Prop) → Prop
def Tch (vs : List Nat) (σ σ' : L2.St) : Prop := σ'.length = σ.length ∧ ∀ i : Nat, i ∉ vs → σ'[i]? = σ[i]?
def RlG (K : PySem.W.Frag) (vs : List Nat) (w : WG) : TG := fun v σ H Z => ∃ C G en x Q, Rel K C G H σ en ∧ Rep K G v x ∧ w x en Q ∧ ∀ G' H' σ' en', Rel K C G' H' σ' en' → Same G G' → Tch vs σ σ' → Q en' → Z σ' H'
def RlGs (K : PySem.W.Frag) (is : List Nat) (w : WGs) : TGs := fun vs σ H Z => ∃ C G en xs Q, Rel K C G H σ en ∧ Reps K G vs xs ∧ w xs en Q ∧ ∀ G' H' σ' en', Rel K C G' H' σ' en' → Same G G' → Tch is σ σ' → Q en' → Z σ' H'
abbrev DG (X : Cx) (e : Expr) (is : List Nat) (w : WG) : Prop := PG X e (RlG X.K is w)
abbrev DGs (X : Cx) (es : List Expr) (is : List Nat) (w : WGs) : Prop := PGs X es (RlGs X.K is w)
theorem PG.of {t t' : TG} (h : PG X e t) (k : ∀ v σ H Z, t' v σ H Z → t v σ H Z) : PG X e t' := ⟨fun pins s σ H v u Q I r q => h.run pins s σ H v u Q I r (k v σ H Q q)⟩
theorem PGs.of {es : List Expr} {t t' : TGs} (h : PGs X es t) (k : ∀ v σ H Z, t' v σ H Z → t v σ H Z) : PGs X es t' := ⟨fun pins s σ H v u Q I r q => h.run pins s σ H v u Q I r (k v σ H Q q)⟩
def gN (i : Nat) : WG := fun x en Q => Q (en.set i (some (.d x)))
def gsNil : WGs := fun xs en Q => match xs with | [] => Q en | _ => False
def gsCons (g : WG) (r : WGs) : WGs := fun xs en Q => match xs with | x :: ys => g x en (fun en1 => r ys en1 Q) | [] => False
def gT (n : Nat) (g : WGs) : WG := fun x en Q => match x with | .tup xs => xs.length = n ∧ g xs en Q | _ => False
theorem Tch.refl (vs : List Nat) (σ : L2.St) : Tch vs σ σ := ⟨rfl, fun _ _ => rfl⟩
theorem Tch.trans {vs ws : List Nat} {σ σ1 σ2 : L2.St} (a : Tch vs σ σ1) (b : Tch ws σ1 σ2) : Tch (vs ++ ws) σ σ2 := ⟨b.1.trans a.1, fun i h => (b.2 i fun z => h (List.mem_append.mpr (.inr z))).trans (a.2 i fun z => h (List.mem_append.mpr (.inl z)))⟩
theorem dg_name {i : Nat} {x : Str} (h : PG X (.Name x pos) (gName i)) : DG X (.Name x pos) [i] (gN i) := PG.of h fun v σ H Z ⟨C, G, en, x, Q, R, r, q, k⟩ => k G H _ _ (R.setD (b := .d _) ⟨v, rfl, r⟩ rfl) (Same.refl G) ⟨List.length_set, fun j h => List.getElem?_set_ne (fun z => h (by rw [z]; exact List.mem_cons_self))⟩ q
theorem dgs_nil : DGs X [] [] gsNil := PGs.of pgs_nil fun v σ H Z ⟨C, G, en, xs, Q, R, r, q, k⟩ => by
  cases r with
  | nil => exact ⟨rfl, k G H σ en R (Same.refl G) (Tch.refl _ _) q⟩
  | cons _ _ => exact q.elim
theorem dgs_cons {es : List Expr} {is js : List Nat} {g : WG} {r : WGs} (h : PGs X es (gCons (RlG X.K is g) (RlGs X.K js r))) : DGs X es (is ++ js) (gsCons g r) := PGs.of h fun v σ H Z ⟨C, G, en, xs, Q, R, rr, q, k⟩ => by
  cases rr with
  | nil => exact q.elim
  | cons h1 h2 => exact ⟨_, _, rfl, C, G, en, _, _, R, h1, q, fun G1 H1 σ1 en1 R1 s1 t1 q1 => ⟨C, G1, en1, _, Q, R1, h2.mono s1, q1, fun G2 H2 σ2 en2 R2 s2 t2 q2 => k G2 H2 σ2 en2 R2 (s1.trans s2) (t1.trans t2) q2⟩⟩
theorem dg_tup {is : List Nat} {g : WGs} {n : Nat} (h : PG X e (gTup X.K n (RlGs X.K is g))) : DG X e is (gT n g) := PG.of h fun v σ H Z ⟨C, G, en, x, Q, R, r, q, kk⟩ => by
  cases r with
  | tup h1 h2 => exact ⟨_, _, rfl, Same.tup R.sub h1, by rw [h2.length]; exact q.1, C, G, en, _, Q, R, h2, q.2, kk⟩
  | _ => exact q.elim
theorem ds_set {i : Nat} (h : PS X st (tAsg (Rl X.K W w) (gName i))) : DS X W st (sSet i w) := PS.of h fun D σ H ⟨C, G, en, N, R, xo, q, L⟩ =>
  ⟨C, G, en, _, _, R, xo, q, fun v x G1 H1 en1 R1 s1 r1 q1 => L.nx G1 H1 _ _ (R1.setD (b := .d _) ⟨v, rfl, r1⟩ rfl) q1⟩
def sAsg (w : WE) (g : WG) : WS := fun N en => w en (fun x en1 => g x en1 N.nx) N.ex
theorem ds_asg {g : WG} {is : List Nat} (h : PS X st (tAsg (Rl X.K W w) (RlG X.K is g))) : DS X W st (sAsg w g) := PS.of h fun D σ H ⟨C, G, en, N, R, xo, q, L⟩ =>
  ⟨C, G, en, _, _, R, xo, q, fun v x G1 H1 en1 R1 s1 r1 q1 => ⟨C, G1, en1, x, _, R1, r1, q1, fun G2 H2 σ2 en2 R2 s2 _ q2 => L.nx G2 H2 σ2 en2 R2 q2⟩⟩
/-! ### own lists -/
/-! ### loops -/
abbrev WI := En → (List D → En → Prop) → EK → Prop
def Goes (K : PySem.W.Frag) (hk : Hp) (J : It) (xs : List D) (G : Hp) : Prop := ∀ G1 H1, Same G G1 → Same G1 H1 → Same hk H1 →
  (∀ i x, xs[i]? = some x → J.go i H1 ∧ ∀ v H2, J.yld i H1 v H2 → ∃ G2, Gr G1 H1 G2 H2 ∧ Rep K G2 v x) ∧ J.stop xs.length H1
theorem Goes.mono {K : PySem.W.Frag} {hk : Hp} {J : It} {xs : List D} {G G' : Hp} (s : Same G G') (h : Goes K hk J xs G) : Goes K hk J xs G' := fun G1 H1 s1 s2 s3 => h G1 H1 (s.trans s1) s2 s3
def RlI (K : PySem.W.Frag) (W : WX) (w : WI) : TI := fun σ H R => ∃ C G en Q E, Rel K C G H σ en ∧ XOk K W C E ∧ w en Q E ∧ ∀ J xs G' H' en', Rel K C G' H' σ en' → Same G G' → Goes K C.hk J xs G' → Q xs en' → R J H'
abbrev DI (X : Cx) (W : WX) (tg it : Expr) (w : WI) : Prop := PI X tg it (RlI X.K W w)
theorem PI.of {tg : Expr} {t t' : TI} (h : PI X tg e t) (k : ∀ σ H R, t' σ H R → t σ H R) : PI X tg e t' := ⟨fun pins s σ H R I q => h.run pins s σ H R I (k σ H R q)⟩
def forGo (g : WG) (tb : WS) (N : DN) : List D → En → Prop
  | [], en => N.nx en
  | x :: xs, en => g x en (fun en1 => tb { N with nx := forGo g tb N xs, ct := forGo g tb N xs, bk := N.nx } en1)
def sFor (wi : WI) (g : WG) (tb : WS) : WS := fun N en => wi en (fun xs en1 => forGo g tb N xs en1) N.ex
theorem Lk.weak {K : PySem.W.Frag} {C : Ctx} {N : DN} {Ds : Ends} {A : Hp} (L : Lk K C N Ds) (h : Same C.an A) : Lk K { C with an := A } N Ds :=
  ⟨fun G H σ en R => L.nx G H σ en (R.weak h), fun v x G H σ en R => L.rt v x G H σ en (R.weak h), fun G H σ en R => L.bk G H σ en (R.weak h), fun G H σ en R => L.ct G H σ en (R.weak h), fun a vs xs G H σ en R e n r q => L.fr a vs xs G H σ en (R.weak h) e n r q⟩
theorem XOk.weak {K : PySem.W.Frag} {C : Ctx} {E : EK} {A : Hp} (x : XOk K W C E) (h : Same C.an A) : XOk K W { C with an := A } E := fun y en σ G H cls od R r q => x y en σ G H cls od (R.weak h) r q
theorem ds_for {wi : WI} {g : WG} {is : List Nat} {tb : WS} (h : PS X st (tFor (RlI X.K W wi) (RlG X.K is g) (RlS X.K W tb))) : DS X W st (sFor wi g tb) := PS.of h fun D σ H ⟨C0, G, en, N, R, xo0, q, L0⟩ => by
  refine ⟨C0, G, en, _, _, R, xo0, q, fun J xs G1 H1 en1 R1' s1 go q1 => ?_⟩
  have R1 := R1'.anchor
  have L := L0.weak R1'.anc
  have xo := xo0.weak R1'.anc
  have ha : ∀ G H σ en, Rel X.K { C0 with an := G1 } G H σ en → Same G1 G := fun _ _ _ _ R => R.anc
  have hh : ∀ G H σ en, Rel X.K { C0 with an := G1 } G H σ en → Same C0.hk H := fun _ _ _ _ R a o h => (R.hkk a o h).1
  generalize { C0 with an := G1 } = C at R1 L xo ha hh
  refine for_by (n := xs.length) (fun i σ H => ∃ G2 en2, Rel X.K C G2 H σ en2 ∧ forGo g tb N (xs.drop i) en2) ⟨G1, en1, R1, q1⟩ (fun i σ2 H2 hi ⟨G2, en2, R2, q2⟩ => ?_) (fun σ2 H2 ⟨G2, en2, R2, q2⟩ => ?_) (fun i σ2 H2 v H3 hi ⟨G2, en2, R2, q2⟩ hy => ?_) fun σ2 H2 ⟨G2, en2, R2, q2⟩ => ?_
  · exact ((go G2 H2 (ha _ _ _ _ R2) R2.sub (hh _ _ _ _ R2)).1 i _ (List.getElem?_eq_getElem hi)).1
  · exact (go G2 H2 (ha _ _ _ _ R2) R2.sub (hh _ _ _ _ R2)).2
  · obtain ⟨G3, g3, r3⟩ := ((go G2 H2 (ha _ _ _ _ R2) R2.sub (hh _ _ _ _ R2)).1 i _ (List.getElem?_eq_getElem hi)).2 v H3 hy
    rw [List.drop_eq_getElem_cons hi] at q2
    refine ⟨C, G3, en2, _, _, R2.grow g3, r3, q2, fun G4 H4 σ4 en4 R4 s4 _ q4 => ?_⟩
    exact ⟨C, G4, en4, { N with nx := forGo g tb N (xs.drop (i + 1)), ct := forGo g tb N (xs.drop (i + 1)), bk := N.nx }, R4, xo, q4, ⟨fun G H σ en R q => ⟨G, en, R, q⟩, L.rt, L.nx, (fun G H σ en R q => ⟨G, en, R, q⟩), L.fr⟩⟩
  · rw [List.drop_length] at q2
    exact L.nx G2 H2 σ2 en2 R2 q2
end
end KD

/-! Comprehensions, what is walked, defs and calls over data. -/
namespace KD
open PySem PySem.Spec PyProof.Rows L2 KP
/-! ### comprehensions -/
def wipeE (en : En) : List Nat → En
  | [] => en
  | v :: vs => (wipeE en vs).set v none
def noE : EK := fun _ _ => False
def lcGo (g : WG) (tt : WT) (te : WE) (vs : List Nat) (Q : List D → En → Prop) : List D → List D → En → Prop
  | [], acc, en => Q acc en
  | x :: xs, acc, en => g x en (fun en1 => tt en1 (fun c en2 => if c = true then te en2 (fun y en3 => acc.length < 100000 ∧ lcGo g tt te vs Q xs (acc ++ [y]) (wipeE en3 vs)) noE else lcGo g tt te vs Q xs acc (wipeE en2 vs)) noE)
def fLc (wi : WI) (g : WG) (tt : WT) (te : WE) (vs : List Nat) : WF := fun en Q E => wi en (fun xs en1 => lcGo g tt te vs Q xs [] (wipeE en1 vs)) E
section
variable {K : PySem.W.Frag} {C : Ctx} {G H G' H' : Hp} {σ σ' : L2.St} {en : En} {vs : List Nat}
theorem Rel.wipe (R : Rel K C G H σ en) : ∀ vs, Rel K C G H (L2.wipe σ vs) (wipeE en vs)
  | [] => R
  | v :: vs => (Rel.wipe R vs).forget none
theorem wipe_out : ∀ (vs : List Nat) {i : Nat}, i ∉ vs → (L2.wipe σ vs)[i]? = σ[i]?
  | [], _, _ => rfl
  | v :: vs, i, h => by
    unfold L2.wipe
    rw [List.getElem?_set_ne (fun z => h (by rw [z]; exact List.mem_cons_self))]
    exact wipe_out vs fun z => h (List.mem_cons_of_mem _ z)
theorem wipe_in : ∀ (vs : List Nat) {i : Nat}, i ∈ vs → i < σ.length → (L2.wipe σ vs)[i]? = some none
  | [], _, h, _ => (List.not_mem_nil h).elim
  | v :: vs, i, h, hl => by
    unfold L2.wipe
    by_cases e : v = i
    · subst e
      rw [List.getElem?_set_self (by rw [wipe_length]; exact hl)]
    · rw [List.getElem?_set_ne e]
      rcases List.mem_cons.mp h with z | z
      · exact absurd z.symm e
      · exact wipe_in vs z hl
theorem wipe_eq (t : Tch vs σ σ') : L2.wipe σ' vs = L2.wipe σ vs := by
  apply List.ext_getElem?
  intro i
  by_cases h : i ∈ vs
  · by_cases l : i < σ.length
    · rw [wipe_in vs h l, wipe_in vs h (by rw [t.1]; exact l)]
    · rw [List.getElem?_eq_none (l := L2.wipe σ' vs) (by rw [wipe_length, t.1]; omega), List.getElem?_eq_none (l := L2.wipe σ vs) (by rw [wipe_length]; omega)]
  · rw [wipe_out vs h, wipe_out vs h, t.2 i h]
theorem wipe_wipe : L2.wipe (L2.wipe σ vs) vs = L2.wipe σ vs := wipe_eq ⟨wipe_length _ _, fun _ h => wipe_out vs h⟩
theorem wipeE_none {i : Nat} : ∀ {vs : List Nat}, i ∈ vs → (wipeE en vs).sl[i]? = some none ∨ (wipeE en vs).sl[i]? = none
  | [], h => (List.not_mem_nil h).elim
  | v :: vs, h => by
    show ((wipeE en vs).sl.set v none)[i]? = some none ∨ ((wipeE en vs).sl.set v none)[i]? = none
    by_cases e : v = i
    · subst e
      rw [List.getElem?_set]
      simp
      by_cases l : v < (wipeE en vs).sl.length
      · exact .inl l
      · exact .inr (by omega)
    · rw [List.getElem?_set_ne e]
      rcases List.mem_cons.mp h with z | z
      · exact absurd z.symm e
      · exact wipeE_none z
theorem fpW (n : ∀ i ∈ vs, en.sl[i]? = some none ∨ en.sl[i]? = none) (i : Nat) : fpB H (L2.wipe σ vs)[i]? en.sl[i]? = fpB H σ[i]? en.sl[i]? := by
  by_cases h : i ∈ vs
  · have z : ∀ o : Option (Option V), fpB H o en.sl[i]? = [] := fun o => by
      rcases n i h with q | q <;> rw [q] <;> (cases o with | none => rfl | some o => cases o <;> rfl)
    rw [z, z]
  · rw [wipe_out vs h]
/-- the slots behind a block -/
theorem Rel.unwipe (R : Rel K C G H (L2.wipe σ vs) en) (n : ∀ i ∈ vs, en.sl[i]? = some none ∨ en.sl[i]? = none) : Rel K C G H σ en := by
  refine ⟨R.fr, R.pen0, R.npn, R.slf0, R.tb0, R.gt0, R.anc, fun a o h => ?_, by rw [← R.len, wipe_length], fun i v b h1 h2 => ?_, fun i j a h1 h2 => ?_⟩
  · obtain ⟨h1, ht, h2, h3, h4⟩ := R.hkk a o h
    exact ⟨h1, ht, h2, h3, fun j q => h4 j (by rw [fpW n]; exact q)⟩
  · by_cases hi : i ∈ vs
    · rcases n i hi with q | q
      · rw [q] at h2; cases h2; trivial
      · rw [q] at h2; cases h2
    · exact R.slot i v b (by rw [wipe_out vs hi]; exact h1) h2
  · exact R.dist i j a (by rw [fpW n]; exact h1) (by rw [fpW n]; exact h2)
theorem wipeE_out {i : Nat} : ∀ {vs : List Nat}, i ∉ vs → (wipeE en vs).sl[i]? = en.sl[i]?
  | [], _ => rfl
  | v :: vs, h => by
    show ((wipeE en vs).sl.set v none)[i]? = _
    rw [List.getElem?_set_ne (fun z => h (by rw [z]; exact List.mem_cons_self))]
    exact wipeE_out fun z => h (List.mem_cons_of_mem _ z)
theorem freeW {a : Addr} (f : Free H σ en a) : Free H (L2.wipe σ vs) (wipeE en vs) a := fun j h => by
  rw [fpW (fun i hi => wipeE_none hi) j] at h
  by_cases hj : j ∈ vs
  · have z : fpB H σ[j]? (wipeE en vs).sl[j]? = [] := by
      rcases wipeE_none (en := en) hj with q | q <;> rw [q] <;> (cases σ[j]? with | none => rfl | some o => cases o <;> rfl)
    rw [z] at h; cases h
  · rw [wipeE_out hj] at h; exact f j h
theorem Rel.freeU (R : Rel K C G H σ en) {a : Addr} {o : HO} (f : Free H σ en a) : Free (upd H a o) σ en a := fun j h => by
  have kp : ∀ c, c ∈ fpB H σ[j]? en.sl[j]? → upd H a o c = H c ∧ G c = none := fun c hc => by
    obtain ⟨_, _, _, _, _, _, g, _⟩ := R.at_ hc
    exact ⟨by rw [upd_ne (fun z => f j (by rw [← z]; exact hc))], g⟩
  have e : fpB (upd H a o) σ[j]? en.sl[j]? = fpB H σ[j]? en.sl[j]? := by
    cases q1 : σ[j]? with
    | none => rfl
    | some v =>
      cases q2 : en.sl[j]? with
      | none => cases v <;> rfl
      | some b => rw [q1, q2] at kp; exact ((R.slot j v b q1 q2).frame (Same.refl G) kp).2
  rw [e] at h
  exact f j h
end
section
variable {X : Cx} {W : WX} {e a b : Expr} {w wa wb : WE} {pos : Pos} {st : Stmt}
theorem lc_core {K : PySem.W.Frag} {g : WG} {tt : WT} {te : WE} {vs : List Nat} {σ : L2.St} {Z : VK} {C0 : Ctx} {G1 H1 : Hp} {en1 : En} {J : It} {xs : List D} {Q : List D → En → Prop} (R1' : Rel K C0 G1 H1 σ en1) (go : Goes K C0.hk J xs G1) (q1 : lcGo g tt te vs Q xs [] (wipeE en1 vs))
    (k : ∀ a us ys G' H' en', Rel K C0 G' H' σ en' → Same G1 G' → H' a = some (.lst us) → Nw C0 G' H' σ en' a → Reps K G' us ys → Q ys en' → Z (.ref a) H') (Dl : Addr) (nD : H1 Dl = none) :
    ∃ Wn : Nat → Nat → Hp → Prop, (∃ m, Wn 0 m (upd H1 Dl (.lst []))) ∧ ∀ i m H, Wn i m H → (J.stop i H ∧ Z (.ref Dl) H) ∨ (J.go i H ∧ ∃ Nx : Hp → Prop, (∀ H', Nx H' → ∃ m', m' < m ∧ Wn (i + 1) m' H') ∧
      ∀ x H', J.yld i H x H' → RlG K vs g x (L2.wipe σ vs) H' fun σ2 H2 => L2.wipe σ2 vs = L2.wipe σ vs ∧ RlT K (fun _ _ _ _ => False) tt σ2 H2 fun b H3 => if b = true then Rl K (fun _ _ _ _ => False) te σ2 H3 fun y H4 => ∃ acc, H4 Dl = some (.lst acc) ∧ acc.length < sizeLine ∧ Nx (upd H4 Dl (.lst (acc ++ [y]))) else Nx H3) := by
  have xw : ∀ C : Ctx, XOk K (fun _ _ _ _ => False) C noE := fun C _ _ _ _ _ _ _ _ _ z => z
  have hk0 := R1'.hk0 nD
  have h00 := R1'.H0 nD
  have R1 := ((R1'.newH (o := .lst []) nD).wipe vs).anchor
  have ha : ∀ G H σ en, Rel K { C0 with an := G1 } G H σ en → Same G1 G := fun _ _ _ _ R => R.anc
  have hh : ∀ G H σ en, Rel K { C0 with an := G1 } G H σ en → Same C0.hk H := fun _ _ _ _ R a o h => (R.hkk a o h).1
  have hw : ∀ {G H σ en}, Rel K { C0 with an := G1 } G H σ en → Rel K C0 G H σ en := fun R => R.weak R1'.anc
  have e1 : ({ C0 with an := G1 } : Ctx).H0 Dl = none := h00
  have e2 : ({ C0 with an := G1 } : Ctx).hk Dl = none := hk0
  generalize { C0 with an := G1 } = C at R1 ha hw e1 e2 hh
  refine lc_by (n := xs.length) (fun i H => ∃ G2 en2 vacc acc, Rel K C G2 H (L2.wipe σ vs) en2 ∧ H Dl = some (.lst vacc) ∧ Nw C G2 H (L2.wipe σ vs) en2 Dl ∧ Reps K G2 vacc acc ∧ (∀ i ∈ vs, en2.sl[i]? = some none ∨ en2.sl[i]? = none) ∧ lcGo g tt te vs Q (xs.drop i) acc en2)
    ⟨G1, _, [], [], R1, upd_same, ⟨R1'.sub.free nD, e1, freeW (R1'.freeN nD), e2⟩, .nil, fun i hi => wipeE_none hi, q1⟩ (fun i H2 hi ⟨G2, en2, vacc, acc, R2, _⟩ => ?_) (fun H2 ⟨G2, en2, vacc, acc, R2, _⟩ => ?_) (fun i H2 v H3 hi ⟨G2, en2, vacc, acc, R2, hd, nw, rp, en0, q2⟩ hy => ?_) fun H2 ⟨G2, en2, vacc, acc, R2, hd, nw, rp, en0, q2⟩ => ?_
  · exact ((go G2 H2 (ha _ _ _ _ R2) R2.sub (hh _ _ _ _ R2)).1 i _ (List.getElem?_eq_getElem hi)).1
  · exact (go G2 H2 (ha _ _ _ _ R2) R2.sub (hh _ _ _ _ R2)).2
  · obtain ⟨G3, g3, r3⟩ := ((go G2 H2 (ha _ _ _ _ R2) R2.sub (hh _ _ _ _ R2)).1 i _ (List.getElem?_eq_getElem hi)).2 v H3 hy
    rw [List.drop_eq_getElem_cons hi] at q2
    have R3 := (R2.hold hd rfl nw.1 (.inr nw.2.1) nw.2.2.1).grow g3
    refine ⟨_, G3, en2, _, _, R3, r3, q2, fun G4 H4 σ4 en4 R4 s4 t4 q4 => ⟨(wipe_eq t4).trans wipe_wipe, ?_⟩⟩
    have s14 : Same G3 G4 := s4
    refine ⟨_, G4, en4, _, _, R4, xw _, q4, fun c G5 H5 en5 R5 s5 q5 => ?_⟩
    have wσ : L2.wipe σ4 vs = L2.wipe σ vs := (wipe_eq t4).trans wipe_wipe
    cases c with
    | true =>
      rw [if_pos rfl] at q5
      refine iteT ?_
      refine ⟨_, G5, en5, _, _, R5, xw _, q5, fun y x G6 H6 en6 R6 s6 r6 q6 => ?_⟩
      obtain ⟨d1, _, d2, d3, d4⟩ := R6.hkk Dl _ upd_same
      refine ⟨vacc, d1, by rw [rp.length]; exact sz5l q6.1, ?_⟩
      have R7 := R6.unhold nw.2.2.2
      have R8 := (R7.mutN (o := .lst (vacc ++ [y])) d2 e1 (mo_h d1 rfl) rfl d4 nw.2.2.2).wipe vs
      have fw := freeW (vs := vs) (R7.freeU (o := .lst (vacc ++ [y])) d4)
      rw [wσ] at R8 fw
      exact ⟨G6, _, _, _, R8, upd_same, ⟨d2, e1, fw, nw.2.2.2⟩, (rp.mono (((g3.gg.trans s4).trans s5).trans s6)).snoc r6, fun i hi => wipeE_none hi, q6.2⟩
    | false =>
      rw [if_neg (by decide)] at q5
      refine iteF ?_
      obtain ⟨d1, _, d2, d3, d4⟩ := R5.hkk Dl _ upd_same
      have R8 := (R5.unhold nw.2.2.2).wipe vs
      have fw := freeW (vs := vs) d4
      rw [wσ] at R8 fw
      exact ⟨G5, _, _, _, R8, d1, ⟨d2, e1, fw, nw.2.2.2⟩, rp.mono ((g3.gg.trans s4).trans s5), fun i hi => wipeE_none hi, q5⟩
  · rw [List.drop_length] at q2
    have hu : Rel K C G2 H2 σ en2 := R2.unwipe en0
    exact k Dl vacc acc G2 H2 en2 (hw hu) (ha _ _ _ _ R2) hd ⟨nw.1, h00, fun j z => nw.2.2.1 j (by rw [fpW en0]; exact z), hk0⟩ rp q2
theorem rlf_lc {K : PySem.W.Frag} {wi : WI} {g : WG} {tt : WT} {te : WE} {vs : List Nat} {σ : L2.St} {H : Hp} {Z : VK} (h : RlF K W (fLc wi g tt te vs) σ H Z) :
    tLc (RlI K W wi) (RlG K vs g) (RlT K (fun _ _ _ _ => False) tt) (Rl K (fun _ _ _ _ => False) te) vs σ H Z := by
  obtain ⟨C0, G, en, Q, E, R, xo0, q, k⟩ := h
  exact ⟨C0, G, en, _, E, R, xo0, q, fun J xs G1 H1 en1 R1' s1 go q1 Dl nD => lc_core R1' go q1 (fun a us ys G' H' en' R' s' => k a us ys G' H' en' R' (s1.trans s')) Dl nD⟩
theorem df_lc {wi : WI} {g : WG} {tt : WT} {te : WE} {vs : List Nat} (h : PE X e (tLc (RlI X.K W wi) (RlG X.K vs g) (RlT X.K (fun _ _ _ _ => False) tt) (Rl X.K (fun _ _ _ _ => False) te) vs)) : DF X W e (fLc wi g tt te vs) := PE.of h fun _ _ _ => rlf_lc
theorem ds_lc {i : Nat} {wi : WI} {g : WG} {tt : WT} {te : WE} {vs : List Nat} (h : PS X st (tAsg (tLc (RlI X.K W wi) (RlG X.K vs g) (RlT X.K (fun _ _ _ _ => False) tt) (Rl X.K (fun _ _ _ _ => False) te) vs) (gName i))) : DS X W st (sSet i (eF (fLc wi g tt te vs))) :=
  ds_set (PS.of h fun D σ H => fun (q : Rl X.K W (eF (fLc wi g tt te vs)) σ H fun x H1 => gName i x σ H1 D.nx) => rlf_lc (rlF q))
def tYesD : WT := fun en Q _ => Q true en
theorem rlt_yes {K : PySem.W.Frag} {W : WX} {σ : L2.St} {H : Hp} {Z : Bool → Hp → Prop} (h : RlT K W tYesD σ H Z) : tYes σ H Z := by
  obtain ⟨C, G, en, Q, E, R, xo, q, k⟩ := h
  exact k true G H en R (Same.refl G) q
theorem PTs.of {ifs : List Expr} {t t' : TT} (h : PTs X ifs t) (k : ∀ σ H Z, t' σ H Z → t σ H Z) : PTs X ifs t' := ⟨fun pins s σ H Q I q => h.run pins s σ H Q I (k σ H Q q)⟩
theorem dts_nil : PTs X [] (RlT X.K W tYesD) := PTs.of pts_nil fun _ _ _ => rlt_yes
/-! ### what is walked -/
def iLst (w : WE) : WI := fun en Q E => w en (fun x en1 => match x with | .lst xs => Q xs en1 | _ => False) E
def iTupD (w : WE) : WI := fun en Q E => w en (fun x en1 => match x with | .tup xs => Q xs en1 | _ => False) E
def iStrD (w : WE) : WI := fun en Q E => w en (fun x en1 => match x with | .str z => Q (z.cps.toList.map fun c => .str ⟨#[c]⟩) en1 | _ => False) E
def intsD (lo : Int) (n : Nat) : List D := (List.range n).map fun i : Nat => .int (lo + (i : Int))
def iR1 (r : WA) : WI := fun en Q E => aD r en (fun xs en1 => match xs with | [.int n] => -(2 ^ 62) ≤ n ∧ n < 2 ^ 62 ∧ Q (intsD 0 n.toNat) en1 | _ => False) E
def pairs (xs : List D) : List D := (List.range xs.length).zipWith (fun (i : Nat) (x : D) => .tup [.int (i : Int), x]) xs
def iEn (r : WA) : WI := fun en Q E => aD r en (fun xs en1 => match xs with | [.lst ys] => Q (pairs ys) en1 | _ => False) E
section
variable {K : PySem.W.Frag} {C : Ctx} {G : Hp}
theorem goes_list {hk : Hp} {a : Addr} {vs : List V} {xs : List D} (h : G a = some (.lst vs)) (r : Reps K G vs xs) : Goes K hk (Itl K a) xs G := fun G1 H1 s1 s2 _ => by
  have hl : SqL K H1 a vs := SqL.of (s2 _ _ (s1 _ _ h))
  refine ⟨fun i x hx => ?_, vs, hl, by rw [r.length]; exact Nat.le_refl _⟩
  obtain ⟨v, hv, rv⟩ := r.at hx
  refine ⟨⟨vs, v, hl, hv⟩, fun u H2 ⟨e, hy⟩ => ?_⟩
  have := hy vs hl
  rw [hv] at this; cases this
  subst e
  exact ⟨G1, Gr.refl s2, rv.mono s1⟩
theorem goes_tup {hk : Hp} {a : Addr} {vs : List V} {xs : List D} (h : SqT K G a vs) (r : Reps K G vs xs) : Goes K hk (Itt K a) xs G := fun G1 H1 s1 s2 _ => by
  have hl : SqT K H1 a vs := Same.tup (s1.trans s2) h
  refine ⟨fun i x hx => ?_, vs, hl, by rw [r.length]; exact Nat.le_refl _⟩
  obtain ⟨v, hv, rv⟩ := r.at hx
  refine ⟨⟨vs, v, hl, hv⟩, fun u H2 ⟨e, hy⟩ => ?_⟩
  have := hy vs hl
  rw [hv] at this; cases this
  subst e
  exact ⟨G1, Gr.refl s2, rv.mono s1⟩
theorem intsD_get {lo : Int} {n i : Nat} {x : D} (h : (intsD lo n)[i]? = some x) : i < n ∧ x = .int (lo + (i : Int)) := by
  unfold intsD at h
  rw [List.getElem?_map] at h
  by_cases hi : i < n
  · rw [List.getElem?_range hi] at h
    exact ⟨hi, (Option.some.inj h).symm⟩
  · rw [List.getElem?_eq_none (by simp; omega)] at h; cases h
theorem goes_range {hk : Hp} {lo : Int} {n : Nat} : Goes K hk (Itr lo n) (intsD lo n) G := fun G1 H1 s1 s2 _ => by
  refine ⟨fun i x hx => ?_, by show n ≤ (intsD lo n).length; simp [intsD]⟩
  obtain ⟨hi, rfl⟩ := intsD_get hx
  exact ⟨hi, fun v H2 ⟨e1, e2⟩ => by subst e1; subst e2; exact ⟨G1, Gr.refl s2, .int _⟩⟩
theorem goes_str {hk : Hp} {z : Str} : Goes K hk (Its z) (z.cps.toList.map fun c => .str ⟨#[c]⟩) G := fun G1 H1 s1 s2 _ => by
  refine ⟨fun i x hx => ?_, by show z.cps.size ≤ (z.cps.toList.map fun c => D.str ⟨#[c]⟩).length; simp⟩
  rw [List.getElem?_map] at hx
  cases q : z.cps.toList[i]? with
  | none => rw [q] at hx; cases hx
  | some c =>
    rw [q] at hx; cases hx
    have hi : i < z.cps.size := by
      have := (List.getElem?_eq_some_iff.mp q).1
      simpa using this
    refine ⟨hi, fun v H2 ⟨e1, c', e2, e3⟩ => ?_⟩
    subst e1; subst e3
    have : z.cps.toList[i]? = some c' := by simpa using e2
    rw [q] at this; cases this
    exact ⟨G1, Gr.refl s2, .str _⟩
theorem pairs_get {xs : List D} {i : Nat} {x : D} (h : (pairs xs)[i]? = some x) : ∃ y, xs[i]? = some y ∧ x = .tup [.int (i : Int), y] := by
  unfold pairs at h
  rw [List.getElem?_zipWith] at h
  by_cases hi : i < xs.length
  · rw [List.getElem?_range hi, List.getElem?_eq_getElem hi] at h
    exact ⟨_, List.getElem?_eq_getElem hi, (Option.some.inj h).symm⟩
  · rw [List.getElem?_eq_none (l := List.range xs.length) (by simp; omega)] at h; cases h
theorem pairs_length (xs : List D) : (pairs xs).length = xs.length := by simp [pairs]
theorem goes_enum {hk : Hp} {a : Addr} {vs : List V} {xs : List D} (h : G a = some (.lst vs)) (r : Reps K G vs xs) : Goes K hk (Ite K a) (pairs xs) G := fun G1 H1 s1 s2 _ => by
  have hl : SqL K H1 a vs := SqL.of (s2 _ _ (s1 _ _ h))
  refine ⟨fun i x hx => ?_, vs, hl, by rw [r.length, pairs_length]; exact Nat.le_refl _⟩
  obtain ⟨y, hy, rfl⟩ := pairs_get hx
  obtain ⟨v, hv, rv⟩ := r.at hy
  refine ⟨⟨vs, v, hl, hv⟩, fun u H2 ⟨T, x', e1, n, e2, hy⟩ => ?_⟩
  have := hy vs hl
  rw [hv] at this; cases this
  subst e1; subst e2
  have g := Gr.new1 (o := .tup [.int (i : Nat), v]) s2 n
  exact ⟨_, g, .tup (SqT.of upd_same) (.cons (.int _) (.cons ((rv.mono s1).mono g.gg) .nil))⟩
end
theorem di_list {tg : Expr} (h : PI X tg e (iList X.K (Rl X.K W w))) : DI X W tg e (iLst w) := PI.of h fun σ H R ⟨C, G, en, Q, E, R0, xo, q, k⟩ => by
  refine ⟨C, G, en, _, E, R0, xo, q, fun v x G1 H1 en1 R1 s1 r1 q1 => ?_⟩
  cases r1 with
  | lst h1 h2 => exact ⟨_, rfl, ⟨_, SqL.of (R1.sub _ _ h1)⟩, k _ _ G1 H1 en1 R1 s1 (goes_list h1 h2) q1⟩
  | _ => exact q1.elim
theorem di_tup {tg : Expr} (h : PI X tg e (iTup X.K (Rl X.K W w))) : DI X W tg e (iTupD w) := PI.of h fun σ H R ⟨C, G, en, Q, E, R0, xo, q, k⟩ => by
  refine ⟨C, G, en, _, E, R0, xo, q, fun v x G1 H1 en1 R1 s1 r1 q1 => ?_⟩
  cases r1 with
  | tup h1 h2 => exact ⟨_, rfl, ⟨_, Same.tup R1.sub h1⟩, k _ _ G1 H1 en1 R1 s1 (goes_tup h1 h2) q1⟩
  | _ => exact q1.elim
theorem di_str {tg : Expr} (h : PI X tg e (iStr (Rl X.K W w))) : DI X W tg e (iStrD w) := PI.of h fun σ H R ⟨C, G, en, Q, E, R0, xo, q, k⟩ => by
  refine ⟨C, G, en, _, E, R0, xo, q, fun v x G1 H1 en1 R1 s1 r1 q1 => ?_⟩
  cases r1 with
  | str z => exact ⟨_, rfl, k _ _ G1 H1 en1 R1 s1 goes_str q1⟩
  | _ => exact q1.elim
theorem rla {K : PySem.W.Frag} {r : WA} {σ : L2.St} {H : Hp} {C : Ctx} {G : Hp} {en : En} {Q : List D → En → Prop} {E : EK} {Z : List V → Hp → Prop} (R : Rel K C G H σ en) (xo : XOk K W C E) (q : aD r en Q E)
    (k : ∀ vs xs G' H' en', Rel K C G' H' σ en' → Same G G' → Reps K G' vs xs → Q xs en' → Z vs H') : RlA K W r σ H Z := by
  refine ⟨C, G, en, _, E, R, xo, q, fun vs bs G1 H1 en1 R1 s1 r1 q1 => ?_⟩
  cases qb : allD bs with
  | none => rw [qb] at q1; exact q1.elim
  | some xs => rw [qb] at q1; exact k vs xs G1 H1 en1 R1 s1 (r1.reps qb) q1
theorem reps1 {K : PySem.W.Frag} {G : Hp} {vs : List V} {x : D} (r : Reps K G vs [x]) : ∃ v, vs = [v] ∧ Rep K G v x := by
  cases r with
  | cons h r => cases r; exact ⟨_, rfl, h⟩
theorem reps2 {K : PySem.W.Frag} {G : Hp} {vs : List V} {x y : D} (r : Reps K G vs [x, y]) : ∃ v u, vs = [v, u] ∧ Rep K G v x ∧ Rep K G u y := by
  cases r with
  | cons h r => obtain ⟨u, rfl, h2⟩ := reps1 r; exact ⟨_, _, rfl, h, h2⟩
theorem di_r1 {tg : Expr} {r : WA} (h : PI X tg e (iRng1 (RlA X.K W r))) : DI X W tg e (iR1 r) := PI.of h fun σ H R ⟨C, G, en, Q, E, R0, xo, q, k⟩ => by
  refine rla R0 xo q fun vs xs G1 H1 en1 R1 s1 rr q1 => ?_
  split at q1
  · obtain ⟨v, rfl, rv⟩ := reps1 rr
    cases rv
    exact ⟨_, rfl, q1.1, q1.2.1, k _ _ G1 H1 en1 R1 s1 goes_range q1.2.2⟩
  · exact q1.elim
theorem di_en {tg : Expr} {r : WA} (h : PI X tg e (iEnum X.K (RlA X.K W r))) : DI X W tg e (iEn r) := PI.of h fun σ H R ⟨C, G, en, Q, E, R0, xo, q, k⟩ => by
  refine rla R0 xo q fun vs xs G1 H1 en1 R1 s1 rr q1 => ?_
  split at q1
  · obtain ⟨v, rfl, rv⟩ := reps1 rr
    cases rv with
    | lst h1 h2 => exact ⟨_, _, rfl, SqL.of (R1.sub _ _ h1), k _ _ G1 H1 en1 R1 s1 (goes_enum h1 h2) q1⟩
  · exact q1.elim
end
end KD

/-! Defs and calls over data. -/
namespace KD
open PySem PySem.Spec PyProof.Rows L2 KP
/-- what a def does: arguments and draws begun; a value, or an exception -/
abbrev WD := List B → Int → (D → Int → Prop) → (XC → Int → Prop) → Prop
def cx0 (π : Option Pid) : Ctx := ⟨π, [], fun _ => none, fun _ => none, fun _ => none, fun _ => none⟩
def Pr (K : PySem.W.Frag) (W : WD) : Sp := fun vs H Z E => ∃ π G b bs Q EQ, Same G H ∧ PnT K π G H b ∧ ArgsR K (cx0 π) G vs bs ∧ W bs b Q EQ ∧
  (∀ v x G' H' b', Fr K π [] G H G' H' b' → Rep K G' v x → Q x b' → Z v H') ∧ (∀ cls od x G' H' b', Fr K π [] G H G' H' b' → RepX K G' H' cls od x → EQ x b' → E cls od H')
/-- a def by its body: n parameters, m names -/
def runD (n m : Nat) (w : WS) : WD := fun bs b Q E => bs.length = n ∧ w ⟨fun en => Q .non en.b, fun x en => Q x en.b, fun _ => False, fun _ => False, fun x en => E x en.b, fun _ _ => False⟩ ⟨bs.map some ++ List.replicate (m - bs.length) none, b⟩
section
variable {K : PySem.W.Frag} {C : Ctx} {G H : Hp} {π : Option Pid} {b : Int} {vs : List V} {bs : List B}
theorem ArgR.ctx {C C' : Ctx} (e : C.π = C'.π) {v : V} : ∀ {b : B}, ArgR K C G v b → ArgR K C' G v b
  | .d x, h => h
  | .pen, ⟨p, h1, h2⟩ => ⟨p, e ▸ h1, h2⟩
  | .fn f g, h => h
theorem ArgsR.ctx {C C' : Ctx} (e : C.π = C'.π) : ∀ {vs : List V} {bs : List B}, ArgsR K C G vs bs → ArgsR K C' G vs bs
  | _, _, .nil => .nil
  | _, _, .cons h r => .cons (h.ctx e) (ArgsR.ctx e r)
theorem ArgsR.length : ∀ {vs : List V} {bs : List B}, ArgsR K C G vs bs → vs.length = bs.length
  | _, _, .nil => rfl
  | _, _, .cons _ r => by simp [ArgsR.length r]
theorem ArgsR.at : ∀ {vs : List V} {bs : List B} {i : Nat} {v : V} {c : B}, ArgsR K C G vs bs → vs[i]? = some v → bs[i]? = some c → ArgR K C G v c
  | _, _, _, _, _, .nil, e, _ => by simp at e
  | _, _, 0, _, _, .cons h _, e, e' => by simp at e e'; subst e; subst e'; exact h
  | _, _, i + 1, _, _, .cons _ r, e, e' => ArgsR.at (i := i) r (by simpa using e) (by simpa using e')
/-- the entry of a def -/
theorem Rel.start (s : Same G H) (hp : PnT K π G H b) (ar : ArgsR K (cx0 π) G vs bs) (m : Nat) :
    Rel K ⟨π, [], G, fun _ => none, G, H⟩ G H (vs.map some ++ List.replicate (m - vs.length) none) ⟨bs.map some ++ List.replicate (m - bs.length) none, b⟩ := by
  have ln := ar.length
  have no : ∀ (i : Nat) (o : Option (Option V)), fpB H o ((bs.map some ++ List.replicate (m - bs.length) none)[i]?) = [] := fun i o => by
    cases o with
    | none => rfl
    | some o =>
      cases o with
      | none => cases (bs.map some ++ List.replicate (m - bs.length) none)[i]? <;> rfl
      | some v =>
        by_cases hi : i < bs.length
        · have e1 : (bs.map some ++ List.replicate (m - bs.length) none)[i]? = some (some bs[i]) := by
            rw [List.getElem?_append_left (by simpa using hi), List.getElem?_map, List.getElem?_eq_getElem hi]; rfl
          rw [e1]
          have a := ar.at (List.getElem?_eq_getElem (by omega : i < vs.length)) (List.getElem?_eq_getElem hi)
          cases q : bs[i] <;> rw [q] at a <;> first | exact False.elim a | rfl
        · rw [List.getElem?_append_right (by simpa using hi), List.getElem?_replicate]
          split <;> rfl
  refine ⟨⟨Same.refl G, s, fun a h g => absurd g h, fun a o h _ _ _ => h, .refl, .refl, hp.1, fun x e => nomatch e⟩, fun p e => ⟨b, (hp.1 p e).1⟩, (fun p x _ e => nomatch e), (fun x e => nomatch e), hp.2.1, hp.2.2, Same.refl G, (fun a o h => nomatch h), by simp [ln], fun i v c h1 h2 => ?_, fun i j a h1 _ => by rw [show fpB H _ _ = [] from no i _] at h1; cases h1⟩
  by_cases hi : i < bs.length
  · rw [List.getElem?_append_left (by simp; omega), List.getElem?_map, List.getElem?_eq_getElem (by omega : i < vs.length)] at h1
    rw [List.getElem?_append_left (by simpa using hi), List.getElem?_map, List.getElem?_eq_getElem hi] at h2
    cases h1; cases h2
    have a := ar.at (List.getElem?_eq_getElem (by omega : i < vs.length)) (List.getElem?_eq_getElem hi)
    cases q : bs[i] <;> rw [q] at a
    · exact ⟨_, rfl, a⟩
    · exact a.elim
    · exact a.elim
    · exact a.elim
    · obtain ⟨p, h1, h2⟩ := a; exact ⟨p, h1, by rw [h2]⟩
    · exact a.elim
    · exact ⟨congrArg some a.1, a.2⟩
    · exact a.elim
    · exact a.elim
    · exact a.elim
  · rw [List.getElem?_append_right (by simpa using hi), List.getElem?_replicate] at h2
    split at h2 <;> cases h2
    trivial
end
section
variable {P : Program} {w : World} {K : PySem.W.Frag} {mg : Str → Option Value} {base : Heap} {x qual : Str} {params : Arguments} {body : List Stmt} {scope : Scope} {dvs : List V} {kws : List (Str × V)} {f : Addr} {fd : FuncData} {k : Nat}
theorem def_ok {N ps : List Str} {wb : WS} (F : FunD K x qual params body scope dvs kws f fd) (S : FnScope N ps scope)
    (hbody : ∀ (cdv : Value) (A : Around) (outer : List Env) (s : Shared) (H : Hp) (E : XK), Room k (A.deeper (envOfC qual scope s.heap.objs.size f cdv)) →
      Takes (cxOf (L2.CX P w) P w K mg base N qual scope f cdv A outer s H E) (fun cls d _ H => E cls d H) →
      DSs (cxOf (L2.CX P w) P w K mg base N qual scope f cdv A outer s H E) (fun cls d _ H => E cls d H) body wb) : FnOk P w K mg base (L2.CX P w) (k + 1) f fd ps (Pr K (runD ps.length N.length wb)) := by
  refine F.ok S (fun vs H Q E ⟨π, G, b, bs, Q', EQ, _, _, ar, wq, _⟩ => ar.length.trans wq.1) fun cdv A outer s H vs Z E hr ⟨π, G, b, bs, Q, EQ, sg, hp, ar, wq, kq, ke⟩ => ?_
  refine ⟨_, hbody cdv A outer s H E hr (takes_of rfl rfl rfl rfl), ⟨⟨π, [], G, fun _ => none, G, H⟩, G, _, _, Rel.start sg hp ar N.length, fun y en σ G' H' cls od R rx q => ke cls od y G' H' en.b R.fr rx q, wq.2, ⟨fun G' H' σ en R q => kq .non .non G' H' en.b R.fr .non q, fun v y G' H' σ en R r q => kq v y G' H' en.b R.fr r q, fun _ _ _ _ _ q => q.elim, fun _ _ _ _ _ q => q.elim, fun _ _ _ _ _ _ _ _ _ _ _ q => q.elim⟩⟩⟩
/-- a promise under which nothing is raised -/
theorem FnOk.toX {sp : Sp} {ps : List Str} (F : FnOk P w K mg base CX0 k f fd ps sp) : FnOk P w K mg base (L2.CX P w) k f fd ps sp :=
  ⟨F.len, fun A outer s H args us vs Q E hr e0 hb r h => codeAny_mono (F.run A outer s H args us vs Q E hr e0 hb r h) fun r s' q => by
    cases r with
    | error e => exact q.elim
    | ok fl => cases fl <;> exact q⟩
theorem FnOk.pr {sp : Sp} {ps : List Str} {W : WD} (F : FnOk P w K mg base CX0 k f fd ps sp) (h : ∀ vs H Z E, Pr K W vs H Z E → sp vs H Z E) : FnOk P w K mg base (L2.CX P w) k f fd ps (Pr K W) := FnOk.toX (F.imp h)
/-- a weaker word -/
theorem FnOk.wk {ps : List Str} {W W' : WD} (F : FnOk P w K mg base (L2.CX P w) k f fd ps (Pr K W)) (h : ∀ bs b Q E, W' bs b Q E → W bs b Q E) : FnOk P w K mg base (L2.CX P w) k f fd ps (Pr K W') :=
  F.imp fun vs H Z E ⟨π, G, b, bs, Q, EQ, s, hp, ar, wq, r⟩ => ⟨π, G, b, bs, Q, EQ, s, hp, ar, h _ _ _ _ wq, r⟩
end
/-! ### calls -/
def eCall (Wd : WD) (r : WA) : WE := fun en Q E => r en (fun bs en1 => Wd bs en1.b (fun x b' => Q x { en1 with b := b' }) (fun x b' => E x { en1 with b := b' })) E
/-- with the defaults dd behind the arguments -/
def eCallD (Wd : WD) (dd : List D) (r : WA) : WE := fun en Q E => r en (fun bs en1 => Wd (bs ++ dd.map B.d) en1.b (fun x b' => Q x { en1 with b := b' }) (fun x b' => E x { en1 with b := b' })) E
section
variable {X : Cx} {W : WX} {e o : Expr} {es : List Expr} {w : WE} {r : WA} {p pos apos : Pos} {x m : Str} {k : Nat} {f : Addr} {fd : FuncData} {ps : List Str} {Wd : WD}
theorem argd {K : PySem.W.Frag} {C : Ctx} {G : Hp} {v : V} {x : D} (h : Rep K G v x) : ArgR K C G v (.d x) := h
theorem pr_of {K : PySem.W.Frag} {C : Ctx} {G H : Hp} {σ : L2.St} {en : En} {vs : List V} {bs : List B} {Q : D → En → Prop} {E : EK} {Z : VK} (R : Rel K C G H σ en) (xo : XOk K W C E) (ar : ArgsR K C G vs bs)
    (q : Wd bs en.b (fun x b' => Q x { en with b := b' }) (fun x b' => E x { en with b := b' })) (k : ∀ v y G' H' en', Rel K C G' H' σ en' → Same G G' → Rep K G' v y → Q y en' → Z v H') : Pr K Wd vs H Z (L2.WE W σ) :=
  ⟨C.π, G, en.b, bs, _, _, R.sub, R.penT, ar.ctx rfl, q, fun v y G' H' b' fr r q => k v y G' H' _ (R.call fr) fr.gg r q, fun cls od y G' H' b' fr r q => xo y _ σ G' H' cls od (R.call fr) r q⟩
theorem d_call (F : FnOk X.prog X.w X.K X.mg X.base (L2.CX X.prog X.w) k f fd ps (Pr X.K Wd)) (hr : Room k X.A) (hg : Gl X x) (hm : X.mg x = some (.ref f)) (hk : PySem.W.keepIn X.K (.ref f) = true) (hb : Binds X.K fd ps []) (tk : Takes X W)
    (ha : DA X W (e :: es) r) (hdb : (x == ("__debug__" : Str)) = false := by decide) (he : starEach (e :: es) X.env = (false, eval e X.env) :: starEach es X.env := by rfl) (hpl : (backTo pos (starEach es X.env)).any (·.1) = false := by rfl) :
    DE X W (.Call (.Name x p) (e :: es) [] pos) (eCall Wd r) := PE.of (pe_callSD (E := L2.WE W) F hr hg hm hk hb .nil (fun σ => passAt tk σ) ha hdb he hpl) fun σ H Z ⟨C, G, en, Q, E, R, xo, q, k⟩ => by
  refine ⟨C, G, en, _, E, R, xo, q, fun vs bs G1 H1 en1 R1 s1 r1 q1 => ?_⟩
  show Pr X.K Wd (vs ++ []) H1 Z (L2.WE W σ)
  rw [List.append_nil]
  exact pr_of R1 xo r1 q1 fun v y G' H' en' R' s' r' q' => k v y G' H' en' R' (s1.trans s') r' q'
theorem reps_args {K : PySem.W.Frag} {C : Ctx} {G : Hp} : ∀ {vs : List V} {xs : List D}, Reps K G vs xs → ArgsR K C G vs (xs.map B.d)
  | _, _, .nil => .nil
  | _, _, .cons h r => .cons h (reps_args r)
theorem ArgsR.append {K : PySem.W.Frag} {C : Ctx} {G : Hp} : ∀ {vs us : List V} {xs ys : List B}, ArgsR K C G vs xs → ArgsR K C G us ys → ArgsR K C G (vs ++ us) (xs ++ ys)
  | _, _, _, _, .nil, s => s
  | _, _, _, _, .cons h r, s => .cons h (ArgsR.append r s)
theorem d_callD {dvs : List V} {ds : List Value} {dd : List D} (F : FnOk X.prog X.w X.K X.mg X.base (L2.CX X.prog X.w) k f fd ps (Pr X.K Wd)) (hr : Room k X.A) (hg : Gl X x) (hm : X.mg x = some (.ref f)) (hk : PySem.W.keepIn X.K (.ref f) = true) (hb : Binds X.K fd ps ds) (hd : Vals dvs ds) (hdd : ∀ G, Reps X.K G dvs dd) (tk : Takes X W)
    (ha : DA X W (e :: es) r) (hdb : (x == ("__debug__" : Str)) = false := by decide) (he : starEach (e :: es) X.env = (false, eval e X.env) :: starEach es X.env := by rfl) (hpl : (backTo pos (starEach es X.env)).any (·.1) = false := by rfl) :
    DE X W (.Call (.Name x p) (e :: es) [] pos) (eCallD Wd dd r) := PE.of (pe_callSD (E := L2.WE W) F hr hg hm hk hb hd (fun σ => passAt tk σ) ha hdb he hpl) fun σ H Z ⟨C, G, en, Q, E, R, xo, q, k⟩ => by
  refine ⟨C, G, en, _, E, R, xo, q, fun vs bs G1 H1 en1 R1 s1 r1 q1 => ?_⟩
  exact pr_of R1 xo (r1.append (reps_args (hdd G1))) q1 fun v y G' H' en' R' s' r' q' => k v y G' H' en' R' (s1.trans s') r' q'
/-! #### methods: as pe_meth, the wish at the slots -/
theorem pe_methSD {C : Addr} {sp : Sp} {dvs : List V} {ds : List Value} {E : L2.St → XK} {CX : CXT} {ta : TE} {t : TA} {pl : Sem Bool} (he : PE X o ta) (c : Cls X.K C) (hm : Meth X.K C m f) (F : FnOk X.prog X.w X.K X.mg X.base CX k f fd ps sp) (hr : Room k X.A) (hb : Binds X.K fd ps ds) (hd : Vals dvs ds) (hx : ∀ σ, PassesAt CX X σ (E σ)) (ha : PA X (e :: es) t)
    (hst : starEach (e :: es) X.env = (false, eval e X.env) :: starEach es X.env := by rfl) (hpl : (backTo pos (starEach es X.env)).any (·.1) = false := by rfl)
    (ht : eval (.Call (.Attribute o m apos) (e :: es) [] pos) X.env = (do
      let ov ← eval o X.env
      standAt apos.atName
      let (f, first) ← holding [ov] (getMethod ov m pl)
      callWith pos f first (backTo pos (starEach (e :: es) X.env)) (backToKw pos (keywordEach [] X.env))) := by rfl) :
    PE X (.Call (.Attribute o m apos) (e :: es) [] pos) (fun σ H Q => ta σ H fun x H1 => ∃ a dx fs, x = .ref a ∧ H1 a = some (.ins C dx fs) ∧ fs.lookup m = none ∧ t σ H1 fun vs H2 => sp (x :: (vs ++ dvs)) H2 Q (E σ)) := by
  refine ⟨fun pins s σ H Q I h => ?_⟩
  refine PySem.W.methodCall_KW (pl := pl) (thn (he.run pins s σ H _ I h) fun u s1 ⟨x, H1, I1, rx, a, dx, fs, ex, ea, l, q⟩ => ?_) ht
  subst ex
  obtain rfl : u = Value.ref a := rx
  refine getmeth_ok I1 ea c hm l ?_
  refine PySem.W.callWith_K (first := [.ref a]) (h₀ := X.base) I.ok.mod.kin hm.kp (thn (ha.run pos pins s1 σ H1 _ I1 q) fun us s2 ⟨vs, H2, I2, r, q2⟩ => ⟨I2.kIn, ?_⟩) hst hpl
  exact run_fnSD (us := .ref a :: us) (vs := .ref a :: vs) F hr hb hd (hx σ) I2 (.cons rfl r) q2
/-- o.m(..), o an instance of the class named cn -/
def eMeth (cn m : Str) (Wd : WD) (dd : List D) (w : WE) (r : WA) : WE := fun en Q E => w en (fun x en1 => match x with
  | .obj c fs => c = cn ∧ fs.lookup m = none ∧ r en1 (fun bs en2 => Wd (.d (.obj c fs) :: (bs ++ dd.map B.d)) en2.b (fun x b' => Q x { en2 with b := b' }) (fun x b' => E x { en2 with b := b' })) E
  | _ => False) E
theorem d_meth {cn : Str} {dvs : List V} {ds : List Value} {dd : List D} {pl : Sem Bool} (he : DE X W o w) (c : Cls X.K (He.ga X.K cn)) (hm : Meth X.K (He.ga X.K cn) m f) (F : FnOk X.prog X.w X.K X.mg X.base (L2.CX X.prog X.w) k f fd ps (Pr X.K Wd)) (hr : Room k X.A) (hb : Binds X.K fd ps ds) (hd : Vals dvs ds) (hdd : ∀ G, Reps X.K G dvs dd) (tk : Takes X W) (ha : DA X W (e :: es) r)
    (hst : starEach (e :: es) X.env = (false, eval e X.env) :: starEach es X.env := by rfl) (hpl : (backTo pos (starEach es X.env)).any (·.1) = false := by rfl)
    (ht : eval (.Call (.Attribute o m apos) (e :: es) [] pos) X.env = (do
      let ov ← eval o X.env
      standAt apos.atName
      let (f, first) ← holding [ov] (getMethod ov m pl)
      callWith pos f first (backTo pos (starEach (e :: es) X.env)) (backToKw pos (keywordEach [] X.env))) := by rfl) :
    DE X W (.Call (.Attribute o m apos) (e :: es) [] pos) (eMeth cn m Wd dd w r) := PE.of (pe_methSD (E := L2.WE W) he c hm F hr hb hd (fun σ => passAt tk σ) ha hst hpl ht) fun σ H Z ⟨C, G, en, Q, E, R, xo, q, k⟩ => by
  refine ⟨C, G, en, _, E, R, xo, q, fun v y G1 H1 en1 R1 s1 r1 q1 => ?_⟩
  cases r1 with
  | obj h1 h2 =>
    obtain ⟨rfl, l, q1⟩ := q1
    refine ⟨_, _, _, rfl, R1.sub _ _ h1, h2.lookup0 l, C, G1, en1, _, E, R1, xo, q1, fun vs bs G2 H2 en2 R2 s2 r2 q2 => ?_⟩
    exact pr_of R2 xo (.cons (argd (Rep.mono s2 (.obj h1 h2))) (r2.append (reps_args (hdd G2)))) q2 fun v y G' H' en' R' s' r' q' => k v y G' H' en' R' ((s1.trans s2).trans s') r' q'
  | _ => exact q1.elim
/-- a property -/
def eProp (cn : Str) (Wd : WD) (w : WE) : WE := fun en Q E => w en (fun x en1 => match x with
  | .obj c fs => c = cn ∧ Wd [.d (.obj c fs)] en1.b (fun x b' => Q x { en1 with b := b' }) (fun _ _ => False)
  | _ => False) E
theorem passL0 {Y : Cx} : Passes (L2.CX Y.prog Y.w) Y.nox E0 := fun _ _ _ _ _ _ _ h => by
  obtain ⟨_, _, _, _, _, _, _, _, _, _, _, _, z⟩ := h
  exact z.elim
theorem d_prop {cn : Str} {pa : Addr} {nm : Str} (he : DE X W e w) (c : Cls X.K (He.ga X.K cn)) (hp : PropOf X.K (He.ga X.K cn) nm pa f) (F : FnOk X.prog X.w X.K X.mg X.base (L2.CX X.prog X.w) k f fd ps (Pr X.K Wd)) (hr : Room (k + 1) X.A) (hb : Binds X.K fd ps [])
    (hab : attributeBase e nm X.env (eval e X.env) = eval e X.env := by rfl) : DE X W (.Attribute e nm pos) (eProp cn Wd w) := PE.of (pe_prop he c hp F hr hb .nil passL0 hab) fun σ H Z ⟨C, G, en, Q, E, R, xo, q, k⟩ => by
  refine ⟨C, G, en, _, E, R, xo, q, fun v y G1 H1 en1 R1 s1 r1 q1 => ?_⟩
  cases r1 with
  | obj h1 h2 =>
    obtain ⟨rfl, q1⟩ := q1
    refine ⟨_, _, _, rfl, R1.sub _ _ h1, ?_⟩
    have xo0 : XOk X.K (fun _ _ _ _ => False) C (fun _ _ => False) := fun _ _ _ _ _ _ _ _ _ z => z
    have := pr_of (W := fun _ _ _ _ => False) R1 xo0 (.cons (argd (Rep.obj h1 h2)) .nil) q1 fun v y G' H' en' R' s' r' q' => k v y G' H' en' R' (s1.trans s') r' q'
    exact this
  | _ => exact q1.elim
theorem d_fld {cn nm : Str} (he : DE X W e w) (c : Cls X.K (He.ga X.K cn)) (hn : NoAttr X.K (He.ga X.K cn) nm) (hab : attributeBase e nm X.env (eval e X.env) = eval e X.env := by rfl) : DE X W (.Attribute e nm pos) (fun en Q E => w en (fun x en1 => match x with
  | .obj c fs => c = cn ∧ match fs.lookup nm with
    | some y => Q y en1
    | none => False
  | _ => False) E) := PE.of (pe_fld he hab) fun σ H Z ⟨C, G, en, Q, E, R, xo, q, k⟩ => by
  refine ⟨C, G, en, _, E, R, xo, q, fun v y G1 H1 en1 R1 s1 r1 q1 => ?_⟩
  cases r1 with
  | obj h1 h2 =>
    obtain ⟨rfl, q1⟩ := q1
    split at q1
    · rename_i y e2
      obtain ⟨u, e3, r3⟩ := h2.lookup e2
      exact ⟨_, _, _, _, _, rfl, R1.sub _ _ h1, c, hn, e3, k _ _ G1 H1 en1 R1 s1 r3 q1⟩
    · exact q1.elim
  | _ => exact q1.elim
end
end KD

/-! New objects over data. -/
namespace KD
open PySem PySem.Spec PyProof.Rows L2 KP
abbrev WN := List B → Int → (List (Str × D) → Int → Prop) → (XC → Int → Prop) → Prop
/-- an __init__: the new object a has no attribute yet; behind it the attributes fs -/
def PrI (K : PySem.W.Frag) (cn : Str) (W : WN) : Sp := fun vs H Z E => ∃ π G b bs Q EQ a dx us, vs = .ref a :: us ∧ Same G H ∧ PnT K π G H b ∧ ArgsR K (cx0 π) G us bs ∧
  H a = some (.ins (He.ga K cn) dx []) ∧ G a = none ∧ (∀ p, π = some p → a ≠ p.a) ∧ W bs b Q EQ ∧
  (∀ G' H' b' dx' vs' fs, Fr K π [a] G H G' H' b' → H' a = some (.ins (He.ga K cn) dx' vs') → RepF K G' vs' fs → Q fs b' → Z .non H') ∧ (∀ cls od x G' H' b', Fr K π [a] G H G' H' b' → RepX K G' H' cls od x → EQ x b' → E cls od H')
def slfF (cn : Str) (en : En) (Q : List (Str × D) → Prop) : Prop := match en.sl[(0 : Nat)]? with
  | some (some (.slf c fs)) => c = cn ∧ Q fs
  | _ => False
def runN (cn : Str) (n m : Nat) (w : WS) : WN := fun bs b Q E => bs.length + 1 = n ∧ w ⟨fun en => slfF cn en fun fs => Q fs en.b, fun x en => x = .non ∧ slfF cn en fun fs => Q fs en.b, fun _ => False, fun _ => False, fun x en => E x en.b, fun _ _ => False⟩ ⟨some (.slf cn []) :: (bs.map some ++ List.replicate (m - (bs.length + 1)) none), b⟩
section
variable {K : PySem.W.Frag} {C : Ctx} {G H G' H' : Hp} {π : Option Pid} {b b' : Int} {vs : List V} {bs : List B} {σ : L2.St} {en : En} {a dx : Addr} {cn : Str}
theorem Rel.startI (s : Same G H) (hp : PnT K π G H b) (ar : ArgsR K (cx0 π) G vs bs) (m : Nat) (ha : H a = some (.ins (He.ga K cn) dx [])) (ga : G a = none) (np : ∀ p, π = some p → a ≠ p.a) :
    Rel K ⟨π, [a], G, fun _ => none, G, H⟩ G H ((V.ref a :: vs).map some ++ List.replicate (m - (V.ref a :: vs).length) none) ⟨some (.slf cn []) :: (bs.map some ++ List.replicate (m - (bs.length + 1)) none), b⟩ := by
  have ln := ar.length
  have R0 := Rel.start s hp ar (m - 1)
  have em : m - 1 - vs.length = m - (vs.length + 1) := by omega
  have em' : m - 1 - bs.length = m - (bs.length + 1) := by omega
  rw [em, em'] at R0
  have no : ∀ (i : Nat) (o : Option (Option V)), fpB H o ((bs.map some ++ List.replicate (m - (bs.length + 1)) none)[i]?) = [] := fun i o => by
    cases o with
    | none => rfl
    | some o =>
      cases o with
      | none => cases (bs.map some ++ List.replicate (m - (bs.length + 1)) none)[i]? <;> rfl
      | some v =>
        by_cases hi : i < bs.length
        · have e1 : (bs.map some ++ List.replicate (m - (bs.length + 1)) none)[i]? = some (some bs[i]) := by
            rw [List.getElem?_append_left (by simpa using hi), List.getElem?_map, List.getElem?_eq_getElem hi]; rfl
          rw [e1]
          have a := ar.at (List.getElem?_eq_getElem (by omega : i < vs.length)) (List.getElem?_eq_getElem hi)
          cases q : bs[i] <;> rw [q] at a <;> first | exact False.elim a | rfl
        · rw [List.getElem?_append_right (by simpa using hi), List.getElem?_replicate]
          split <;> rfl
  have tr : Trk H a := ⟨_, ha, rfl⟩
  refine ⟨⟨Same.refl G, s, fun a h g => absurd g h, fun a o h _ _ _ => h, .refl, .refl, hp.1, fun x e => ?_⟩, fun p e => ⟨b, (hp.1 p e).1⟩, fun p x h e => ?_, fun x e => ?_, hp.2.1, hp.2.2, Same.refl G, (fun a o h => nomatch h), ?_, fun i v c h1 h2 => ?_, fun i j c h1 h2 => ?_⟩
  · cases List.mem_singleton.mp e; exact ⟨ga, tr⟩
  · cases List.mem_singleton.mp e; exact ⟨np p h, Pen.kc (hp.1 p h).1 _ fun xs z => by rcases z with z | ⟨_, z⟩ <;> (rw [ha] at z; cases z)⟩
  · cases List.mem_singleton.mp e; show H _ ≠ none; rw [ha]; exact fun z => nomatch z
  · simp [ln]
  · cases i with
    | zero => cases h1; cases h2; exact ⟨a, dx, [], rfl, rfl, ha, ga, .nil⟩
    | succ i =>
      have z := R0.slot i v c (by simpa using h1) (by simpa using h2)
      cases c with
      | none => trivial
      | some c =>
        cases c with
        | d x => exact z
        | pen => exact z
        | scr n => exact z
        | fn f g => exact z
        | exc _ _ _ _ => exact z
        | own x => obtain ⟨_, _, _, _, _, _, _⟩ := z; exact ⟨_, _, ‹_›, ‹_›, ‹_›, ‹_›, ‹_›⟩
        | odk x => obtain ⟨_, _, _, _, _, _, _⟩ := z; exact ⟨_, _, ‹_›, ‹_›, ‹_›, ‹_›, ‹_›⟩
        | odt x => obtain ⟨_, _, _, _, _, _, _⟩ := z; exact ⟨_, _, ‹_›, ‹_›, ‹_›, ‹_›, ‹_›⟩
        | slf _ _ => obtain ⟨_, _, _, m, _⟩ := z; cases m
        | mob me N ms =>
          obtain ⟨a', dx', vs', e, h1', h2', h3', h4', h5'⟩ := z
          exact ⟨a', dx', vs', e, h1', h2', h3', fun c hc => ⟨(h4' c hc).1, .inr ((h4' c hc).2.elim (fun q => nomatch q) fun q => q)⟩, fun s z => nomatch (h5' s z).1⟩
  · cases i with
    | zero =>
      cases j with
      | zero => rfl
      | succ j =>
        have h2 : c ∈ fpB H ((V.ref a :: vs).map some ++ List.replicate (m - (V.ref a :: vs).length) none)[j + 1]? ((bs.map some ++ List.replicate (m - (bs.length + 1)) none)[j]?) := h2
        rw [no j] at h2; cases h2
    | succ i =>
      have h1 : c ∈ fpB H ((V.ref a :: vs).map some ++ List.replicate (m - (V.ref a :: vs).length) none)[i + 1]? ((bs.map some ++ List.replicate (m - (bs.length + 1)) none)[i]?) := h1
      rw [no i] at h1; cases h1
def putFD (f : Str) (v : D) : List (Str × D) → List (Str × D)
  | [] => [(f, v)]
  | (g, x) :: r => if g = f then (g, v) :: r else (g, x) :: putFD f v r
theorem RepF.put {f : Str} {v : V} {x : D} (h : Rep K G v x) : ∀ {vs : List (Str × V)} {xs : List (Str × D)}, RepF K G vs xs → RepF K G (putF f v vs) (putFD f x xs)
  | _, _, .nil => .cons h .nil
  | _, _, .cons (k := k) h0 r => by
    unfold putF putFD
    by_cases e : k = f
    · rw [if_pos e, if_pos e]; exact .cons h r
    · rw [if_neg e, if_neg e]; exact .cons h0 (RepF.put h r)
theorem RepF.length : ∀ {vs : List (Str × V)} {xs : List (Str × D)}, RepF K G vs xs → vs.length = xs.length
  | _, _, .nil => rfl
  | _, _, .cons _ r => by simp [RepF.length r]
theorem Rel.slf_ {i : Nat} {fs : List (Str × D)} (R : Rel K C G H σ en) (e : en.sl[i]? = some (some (.slf cn fs))) : ∃ a dx vs, C.μ = [a] ∧ σ[i]? = some (some (.ref a)) ∧ H a = some (.ins (He.ga K cn) dx vs) ∧ G a = none ∧ RepF K G vs fs := by
  obtain ⟨v, e1, a, dx, vs, m, e2, r⟩ := R.var e
  cases e2
  exact ⟨a, dx, vs, m, e1, r⟩
/-- the new object gets an attribute -/
theorem Rel.mutS {i : Nat} {fs fs' : List (Str × D)} {vs vs' : List (Str × V)} (R : Rel K C G H σ en) (e : en.sl[i]? = some (some (.slf cn fs))) (m : C.μ = [a]) (hi : σ[i]? = some (some (.ref a))) (ha : H a = some (.ins (He.ga K cn) dx vs)) (ga : G a = none) (r : RepF K G vs' fs') :
    Rel K C G (upd H a (.ins (He.ga K cn) dx vs')) σ (en.set i (some (.slf cn fs'))) :=
  R.mutH hi e rfl rfl ⟨a, dx, vs', m, rfl, upd_same, ga, r⟩ rfl
/-- the made object becomes data -/
theorem Fr.made {H1 : Hp} {vs' : List (Str × V)} {dx' : Addr} {Cl : Addr} (nx : H1 a = none) (ndx : H1 dx = none) (sg : Same G H1) (fr : Fr K π [a] G (upd (upd H1 dx (.own a)) a (.ins Cl dx [])) G' H' b') (ha : H' a = some (.ins Cl dx' vs')) (np : ∀ p, π = some p → H1 p.a ≠ none) :
    Fr K π [] G H1 (upd G' a (.ins Cl dx' vs')) H' b' := by
  have g0 : G' a = none := (fr.slf a (List.mem_cons_self ..)).1
  have up : ∀ c, c ≠ a → c ≠ dx → (upd (upd H1 dx (.own a)) a (.ins Cl dx [])) c = H1 c := fun c h1 h2 => by rw [upd_ne h1, upd_ne h2]
  refine ⟨fun c u e => ?_, fun c u e => ?_, fun c h g => ?_, fun c o h nt n _ => ?_, (TbE.keep fun c o h _ => by rw [up c (ne_of_none h nx) (ne_of_none h ndx)]; exact h).trans fr.tab, fr.nt.trans (.upd rfl), fun p e => ⟨(fr.pen p e).1, ?_⟩, fun x e => nomatch e⟩
  · have : c ≠ a := ne_of_none (sg _ _ e) nx
    rw [upd_ne this]; exact fr.gg c u e
  · by_cases q : c = a
    · subst q; rw [upd_same] at e; cases e; exact ha
    · rw [upd_ne q] at e; exact fr.sub c u e
  · by_cases q : c = a
    · subst q; exact .inl nx
    · rw [upd_ne q] at h
      have z := fr.new c h g
      by_cases q2 : c = dx
      · subst q2; exact .inl ndx
      · unfold NewA at z ⊢; rw [up c q q2] at z; exact z
  · exact fr.keep c o (by rw [up c (ne_of_none h nx) (ne_of_none h ndx)]; exact h) nt n (fun e => ne_of_none h nx (List.mem_singleton.mp e))
  · have : p.a ≠ a := fun z => np p e (by rw [z]; exact nx)
    rw [upd_ne this]; exact (fr.pen p e).2
end
section
variable {P : Program} {w : World} {K : PySem.W.Frag} {mg : Str → Option Value} {base : Heap} {x qual : Str} {params : Arguments} {body : List Stmt} {scope : Scope} {dvs : List V} {kws : List (Str × V)} {f : Addr} {fd : FuncData} {k : Nat}
theorem init_ok {N ps : List Str} {wb : WS} {cn : Str} (F : FunD K x qual params body scope dvs kws f fd) (S : FnScope N ps scope)
    (hbody : ∀ (cdv : Value) (A : Around) (outer : List Env) (s : Shared) (H : Hp) (E : XK), Room k (A.deeper (envOfC qual scope s.heap.objs.size f cdv)) →
      Takes (cxOf (L2.CX P w) P w K mg base N qual scope f cdv A outer s H E) (fun cls d _ H => E cls d H) →
      DSs (cxOf (L2.CX P w) P w K mg base N qual scope f cdv A outer s H E) (fun cls d _ H => E cls d H) body wb) : FnOk P w K mg base (L2.CX P w) (k + 1) f fd ps (PrI K cn (runN cn ps.length N.length wb)) := by
  refine F.ok S (fun vs H Q E ⟨π, G, b, bs, Q', EQ, a, dx, us, ev, _, _, ar, _, _, _, wq, _⟩ => by rw [ev, List.length_cons, ar.length]; exact wq.1) fun cdv A outer s H vs Z E hr ⟨π, G, b, bs, Q, EQ, a, dx, us, ev, sg, hp, ar, ha, ga, np, wq, kq, ke⟩ => ?_
  subst ev
  have fin : ∀ {G' H' : Hp} {σ : L2.St} {en : En}, Rel K ⟨π, [a], G, fun _ => none, G, H⟩ G' H' σ en → (slfF cn en fun fs => Q fs en.b) → Z .non H' := fun {G' H' σ en} R q => by
    unfold slfF at q
    split at q
    · rename_i c fs e
      obtain ⟨v, e1, a', dx', vs', m, e2, h1, h2, r⟩ := R.var e
      cases m; cases e2
      obtain ⟨rfl, q⟩ := q
      exact kq G' H' en.b dx' vs' fs R.fr h1 r q
    · exact q.elim
  refine ⟨_, hbody cdv A outer s H E hr (takes_of rfl rfl rfl rfl), ⟨⟨π, [a], G, fun _ => none, G, H⟩, G, _, _, Rel.startI sg hp ar N.length ha ga np, fun y en σ G' H' cls od R rx q => ke cls od y G' H' en.b R.fr rx q, wq.2, ⟨fun G' H' σ en R q => fin R q, fun v y G' H' σ en R r q => ?_, fun _ _ _ _ _ q => q.elim, fun _ _ _ _ _ q => q.elim, fun _ _ _ _ _ _ _ _ _ _ _ q => q.elim⟩⟩⟩
  obtain ⟨rfl, q⟩ := q
  cases r
  exact fin R q
end
section
variable {X : Cx} {W : WX} {e o : Expr} {es : List Expr} {w : WE} {r : WA} {p pos apos : Pos} {x m cn : Str} {k : Nat} {f : Addr} {fd : FuncData} {ps : List Str} {Wn : WN} {st : Stmt}
theorem run_makeSD {C : Addr} {CX : CXT} {sp : Sp} {dvs : List V} {ds : List Value} {E : XK} {pins : List (Addr × Obj)} {σ : L2.St} {H : Hp} {s : Shared} {Q : VK} {us : List Value} {vs : List V} (M : Mk X.K C f) (F : FnOk X.prog X.w X.K X.mg X.base CX k f fd ps sp) (hr : Room (k + 1) X.A) (hb : Binds X.K fd ps ds) (hd : Vals dvs ds)
    (hx : PassesAt CX X σ E) (I : Inv X pins σ H s) (r : Vals vs us)
    (h : ∀ x dx, H x = none → H dx = none → dx ≠ x → sp (.ref x :: (vs ++ dvs)) (upd (upd H dx (.own x)) x (.ins C dx [])) (fun v H2 => v = .non ∧ Q (.ref x) H2) E) :
    wpAny (model X.prog X.w) X.A (call (.ref C) us) (EP X pins σ Q) X.xe s := by
  have hq := h (s.heap.objs.size + 1) s.heap.objs.size (I.hok.fresh (Nat.le_succ _)) (I.hok.fresh (Nat.le_refl _)) (Nat.ne_of_lt (Nat.lt_succ_self _))
  have I2 := Inv.made (C := C) I
  have r2 : Vals (V.ref (s.heap.objs.size + 1) :: (vs ++ dvs)) (Value.ref (s.heap.objs.size + 1) :: (us ++ ds)) := .cons rfl (r.append hd)
  have hl : (Value.ref (s.heap.objs.size + 1) :: us ++ ds).length = ps.length := by
    have e := r2.length
    rw [F.len _ _ _ _ hq] at e
    exact e.symm
  refine wpAny_call (make_map (f := f) I.kIn M.makes M.init (beq_iff_eq.mp M.fn) (codeAny_mono (F.run _ X.stack _ _ ⟨Value.ref (s.heap.objs.size + 1) :: us, []⟩ (Value.ref (s.heap.objs.size + 1) :: (us ++ ds)) _ _ E (hr.make C us [])
    (I2.env0.make C us []) (hb _ (Value.ref (s.heap.objs.size + 1) :: us) I2.kIn hl) r2 hq) fun r s' hq' => ?_))
  cases r with
  | error e => exact hx pins _ _ e s' I2 hq'
  | ok fl =>
    cases fl with
    | ret u =>
      obtain ⟨v, H', I3, rv, ev, q3⟩ := I2.after hq'
      subst ev
      exact ⟨rv, ⟨V.ref (s.heap.objs.size + 1), H', I3, rfl, q3⟩⟩
    | next => exact False.elim hq'
    | brk => exact False.elim hq'
    | cont => exact False.elim hq'
/-- C(..) -/
def eMake (cn : Str) (Wn : WN) (r : WA) : WE := fun en Q E => r en (fun bs en1 => Wn bs en1.b (fun fs b' => Q (.obj cn fs) { en1 with b := b' }) (fun x b' => E x { en1 with b := b' })) E
theorem make_of {K : PySem.W.Frag} {C : Ctx} {G H : Hp} {σ : L2.St} {en : En} {vs : List V} {bs : List B} {Q : D → En → Prop} {E : EK} {Z : VK} (R : Rel K C G H σ en) (xo : XOk K W C E) (ar : ArgsR K C G vs bs)
    (q : Wn bs en.b (fun fs b' => Q (.obj cn fs) { en with b := b' }) (fun x b' => E x { en with b := b' })) (k : ∀ v y G' H' en', Rel K C G' H' σ en' → Same G G' → Rep K G' v y → Q y en' → Z v H') :
    ∀ x dx, H x = none → H dx = none → dx ≠ x → PrI K cn Wn (.ref x :: vs) (upd (upd H dx (.own x)) x (.ins (He.ga K cn) dx [])) (fun v H2 => v = .non ∧ Z (.ref x) H2) (L2.WE W σ) := fun x dx nx ndx ne => by
  have sx : Same H (upd (upd H dx (.own x)) x (.ins (He.ga K cn) dx [])) := (KP.Same.new ndx).trans (KP.Same.new (by rw [upd_ne (Ne.symm ne)]; exact nx))
  have np : ∀ p, C.π = some p → H p.a ≠ none := fun p e z => by
    obtain ⟨kvs, e'⟩ := (R.penG p e).1.is_
    rw [z] at e'; cases e'
  have mk := fun {G' H' : Hp} {b' : Int} {dx' : Addr} {vs' : List (Str × V)} (fr : Fr K C.π [x] G (upd (upd H dx (.own x)) x (.ins (He.ga K cn) dx [])) G' H' b') (ha : H' x = some (.ins (He.ga K cn) dx' vs')) => Fr.made nx ndx R.sub fr ha np
  refine ⟨C.π, G, en.b, bs, _, _, x, dx, vs, rfl, R.sub.trans sx, ⟨fun p e => ⟨(R.penG p e).1.same sx, (R.penG p e).2⟩, R.tb.same sx, R.gtb⟩, ar.ctx rfl, upd_same, R.sub.free nx, fun p e z => np p e (by rw [← z]; exact nx), q, fun G' H' b' dx' vs' fs fr ha rf q' => ⟨rfl, ?_⟩, fun cls od y G' H' b' fr rx q' => ?_⟩
  · have f2 := mk fr ha
    have sg : Same G' (upd G' x (.ins (He.ga K cn) dx' vs')) := KP.Same.new (fr.slf x (List.mem_cons_self ..)).1
    exact k (.ref x) (.obj cn fs) _ H' _ (R.call f2) f2.gg (.obj upd_same (rf.mono sg)) q'
  · have f3 : Fr K C.π [] G H G' H' b' := by
      have up : ∀ c, c ≠ x → c ≠ dx → (upd (upd H dx (.own x)) x (.ins (He.ga K cn) dx [])) c = H c := fun c h1 h2 => by rw [upd_ne h1, upd_ne h2]
      refine ⟨fr.gg, fr.sub, fun c h g => ?_, fun c o h nt n _ => ?_, (TbE.keep fun c o h _ => by rw [up c (ne_of_none h nx) (ne_of_none h ndx)]; exact h).trans fr.tab, fr.nt, fr.pen, fun _ z => nomatch z⟩
      · by_cases q1 : c = x
        · subst q1; exact .inl nx
        · by_cases q2 : c = dx
          · subst q2; exact .inl ndx
          · have z := fr.new c h g
            unfold NewA at z ⊢; rw [up c q1 q2] at z; exact z
      · exact fr.keep c o (by rw [up c (ne_of_none h nx) (ne_of_none h ndx)]; exact h) nt n (fun e => ne_of_none h nx (List.mem_singleton.mp e))
    exact xo y _ σ G' H' cls od (R.call f3) rx q'
theorem d_make (M : Mk X.K (He.ga X.K cn) f) (F : FnOk X.prog X.w X.K X.mg X.base (L2.CX X.prog X.w) k f fd ps (PrI X.K cn Wn)) (hr : Room (k + 1) X.A) (hg : Gl X x) (hm : X.mg x = some (.ref (He.ga X.K cn))) (hb : Binds X.K fd ps []) (tk : Takes X W)
    (ha : DA X W (e :: es) r) (hdb : (x == ("__debug__" : Str)) = false := by decide) (he : starEach (e :: es) X.env = (false, eval e X.env) :: starEach es X.env := by rfl) (hpl : (backTo pos (starEach es X.env)).any (·.1) = false := by rfl) :
    DE X W (.Call (.Name x p) (e :: es) [] pos) (eMake cn Wn r) := by
  refine ⟨fun pins s σ H Z I h => ?_⟩
  refine wpAny_Call_Name_kw (ld_glob I hg hm ?_ hdb)
  obtain ⟨C, G, en, Q, E, R, xo, q, k⟩ := h
  have h1 : RlA X.K W r σ H (fun vs H1 => ∀ x dx, H1 x = none → H1 dx = none → dx ≠ x → PrI X.K cn Wn (.ref x :: vs) (upd (upd H1 dx (.own x)) x (.ins (He.ga X.K cn) dx [])) (fun v H2 => v = .non ∧ Z (.ref x) H2) (L2.WE W σ)) :=
    ⟨C, G, en, _, E, R, xo, q, fun vs bs G1 H1 en1 R1 s1 r1 q1 => make_of R1 xo r1 q1 fun v y G' H' en' R' s' r' q' => k v y G' H' en' R' (s1.trans s') r' q'⟩
  refine PySem.W.callWith_K (h₀ := X.base) I.ok.mod.kin M.kp (thn (ha.run pos pins s σ H _ I h1) fun us s1 ⟨vs, H1, I1, r, q⟩ => ⟨I1.kIn, ?_⟩) he hpl
  exact run_makeSD (dvs := []) (ds := []) M F hr hb .nil (passAt tk σ) I1 r (by simpa using q)
theorem ds_fld {i : Nat} {fn : Str} (hs : PS X st (sFld X.K (tVar i) (Rl X.K W w) fn)) (c : Cls X.K (He.ga X.K cn)) (hn : NoAttr X.K (He.ga X.K cn) fn) : DS X W st (fun N en => w en (fun x en1 => match en1.sl[i]? with
  | some (some (.slf c fs)) => c = cn ∧ fs.length < 1000 ∧ N.nx (en1.set i (some (.slf c (putFD fn x fs))))
  | _ => False) N.ex) := PS.of hs fun D σ H ⟨C, G, en, N, R, xo, q, L⟩ => by
  refine ⟨C, G, en, _, _, R, xo, q, fun v x G1 H1 en1 R1 s1 r1 q1 => ?_⟩
  split at q1
  · rename_i c' fs e2
    obtain ⟨rfl, l, q1⟩ := q1
    obtain ⟨a, dx, vs, m, hi, ha, h0, rf⟩ := R1.slf_ e2
    refine ⟨.ref a, hi, a, _, dx, vs, rfl, ha, c, hn, by rw [rf.length]; exact l, ?_⟩
    exact L.nx G1 _ σ _ (R1.mutS e2 m hi ha h0 (rf.put r1)) q1
  · exact q1.elim
def eConV (cn : Str) (i : Nat) (nm : Str) (y : D) : WE := fun en Q _ => match en.sl[i]? with
  | some (some (.slf c fs)) => c = cn ∧ fs.lookup nm = none ∧ Q y en
  | some (some (.d (.obj c fs))) => c = cn ∧ fs.lookup nm = none ∧ Q y en
  | _ => False
theorem d_conV {i : Nat} {nm y : Str} {z : Int} (hv : PE X (.Name y p) (tVar i)) (c : Cls X.K (He.ga X.K cn)) (hc : ∃ u, Con X.K (He.ga X.K cn) nm (.int z) u) (hab : attributeBase (.Name y p) nm X.env (eval (.Name y p) X.env) = eval (.Name y p) X.env := by rfl) : DE X W (.Attribute (.Name y p) nm pos) (eConV cn i nm (.int z)) := PE.of (pe_con hv hab) fun σ H Z ⟨C, G, en, Q, E, R, xo, q, k⟩ => by
  obtain ⟨u0, hc⟩ := hc
  unfold eConV at q
  split at q
  · rename_i c' fs e2
    obtain ⟨rfl, l, q⟩ := q
    obtain ⟨a, dx, vs, m, hi, ha, h0, rf⟩ := R.slf_ e2
    exact ⟨.ref a, hi, a, _, dx, vs, _, _, rfl, ha, c, hc, rf.lookup0 l, k _ _ G H en R (Same.refl G) (.int z) q⟩
  · rename_i c' fs e2
    obtain ⟨rfl, l, q⟩ := q
    obtain ⟨v, hi, u, e5, rr⟩ := R.var e2
    cases e5
    cases rr with
    | obj ha rf => exact ⟨_, hi, _, _, _, _, _, _, rfl, R.sub _ _ ha, c, hc, rf.lookup0 l, k _ _ G H en R (Same.refl G) (.int z) q⟩
  · exact q.elim
end
end KD

/-! Operators and built-ins over data. -/
namespace KD
open PySem PySem.Spec PyProof.Rows L2 KP
section
variable {X : Cx} {W : WX} {e a b : Expr} {w wa wb : WE} {pos : Pos} {K : PySem.W.Frag} {G H : Hp}
theorem Rep.toH (s : Same G H) {v : V} {x : D} (h : Rep K G v x) : Rep K H v x := h.mono s
/-! ### numbers -/
def oAdd : O2 := fun x y Q => match x, y with
  | .int i, .int j => Q (.int (i + j))
  | .str p, .str q => p.length + q.length ≤ 100000 ∧ Q (.str (p ++ q))
  | .lst xs, .lst ys => xs.length + ys.length ≤ 100000 ∧ Q (.lst (xs ++ ys))
  | .tup xs, .tup ys => xs.length + ys.length ≤ 100000 ∧ Q (.tup (xs ++ ys))
  | _, _ => False
theorem op_addD : OpD X (binaryOp .Add) oAdd := ⟨_, OpR.or op_add (OpR.or op_add_str (OpR.or op_cat op_catA)), fun G H v u x y Q Z s r1 r2 q k => by
  cases r1 with
  | int i =>
    cases r2 with
    | int j => exact .inl ⟨i, j, rfl, rfl, k _ _ G H (Gr.refl s) (.int _) q⟩
    | _ => exact q.elim
  | str p =>
    cases r2 with
    | str j => exact .inr (.inl ⟨p, j, rfl, rfl, sz5 q.1, k _ _ G H (Gr.refl s) (.str _) q.2⟩)
    | _ => exact q.elim
  | lst h1 h2 =>
    cases r2 with
    | lst h3 h4 =>
      refine .inr (.inr (.inl ⟨_, _, _, _, rfl, rfl, s _ _ h1, s _ _ h3, by rw [h2.length, h4.length]; exact sz5 q.1, fun p np => ?_⟩))
      exact k _ _ _ _ (Gr.new1 s np) (.lst upd_same ((h2.mono (KP.Same.new (s.free np))).append (h4.mono (KP.Same.new (s.free np))))) q.2
    | _ => exact q.elim
  | tup h1 h2 =>
    cases r2 with
    | @tup _ vs2 ys h3 h4 =>
      refine .inr (.inr (.inr ⟨_, _, _, _, rfl, rfl, Same.tup s h1, Same.tup s h3, by rw [h2.length, h4.length]; exact sz5 q.1, fun e0 => ?_, fun _ e0 => ?_, fun _ _ p np => ?_⟩))
      · subst e0
        cases h2
        exact k _ _ G H (Gr.refl s) (.tup h3 h4) q.2
      · subst e0
        cases h4
        have q2 := q.2
        rw [List.append_nil] at q2
        exact k _ _ G H (Gr.refl s) (.tup h1 h2) q2
      · exact k _ _ _ _ (Gr.new1 s np) (.tup (SqT.of upd_same) ((h2.mono (KP.Same.new (s.free np))).append (h4.mono (KP.Same.new (s.free np))))) q.2
    | _ => exact q.elim
  | _ => exact q.elim⟩
def oSub : O2 := fun x y Q => match x, y with
  | .int i, .int j => Q (.int (i - j))
  | _, _ => False
theorem op_subD : OpD X (binaryOp .Sub) oSub := ⟨_, op_sub, fun G H v u x y Q Z s r1 r2 q k => by
  cases r1 with
  | int i => cases r2 with
    | int j => exact ⟨i, j, rfl, rfl, k _ _ G H (Gr.refl s) (.int _) q⟩
    | _ => exact q.elim
  | _ => exact q.elim⟩
theorem Reps.flat {vs : List V} {xs : List D} (r : Reps K G vs xs) : ∀ n : Nat, Reps K G (List.replicate n vs).flatten (List.replicate n xs).flatten
  | 0 => .nil
  | n + 1 => by
    rw [List.replicate_succ, List.replicate_succ, List.flatten_cons, List.flatten_cons]
    exact r.append (Reps.flat r n)
def oDiv : O2 := fun x y Q => match x, y with
  | .int i, .int j => CBs i j ∧ Q (.int (i.fdiv j))
  | _, _ => False
theorem op_divD : OpD X (binaryOp .FloorDiv) oDiv := ⟨_, op_fdivS, fun G H v u x y Q Z s r1 r2 q k => by
  cases r1 with
  | int i => cases r2 with
    | int j => exact ⟨i, j, rfl, rfl, q.1, k _ _ G H (Gr.refl s) (.int _) q.2⟩
    | _ => exact q.elim
  | _ => exact q.elim⟩
def oNeg : O1 := fun x Q => match x with | .int i => Q (.int (-i)) | _ => False
theorem un_negD : UnD X (unaryOp .USub) oNeg := ⟨_, un_neg, fun G H v x Q Z s r q k => by
  cases r with
  | int i => exact ⟨i, rfl, k _ _ G H (Gr.refl s) (.int _) q⟩
  | _ => exact q.elim⟩
/-! ### comparisons -/
def oCmp (p : Int → Int → Bool) : O2 := fun x y Q => match x, y with
  | .int i, .int j => Q (.bl (p i j))
  | _, _ => False
theorem cmpD {op : CmpOp} {p : Int → Int → Bool} (h : OpR X (compareOp op) (rI0 fun i j => .bl (p i j))) : OpD X (compareOp op) (oCmp p) := ⟨_, h, fun G H v u x y Q Z s r1 r2 q k => by
  cases r1 with
  | int i => cases r2 with
    | int j => exact ⟨i, j, rfl, rfl, k _ _ G H (Gr.refl s) (.bl _) q⟩
    | _ => exact q.elim
  | _ => exact q.elim⟩
abbrev oLe : O2 := oCmp fun i j => decide (i ≤ j)
abbrev oGt : O2 := oCmp fun i j => decide (j < i)
theorem op_leD : OpD X (compareOp .LtE) oLe := cmpD op_le
theorem op_gtD : OpD X (compareOp .Gt) oGt := cmpD op_gt
/-! data as the library's data -/
mutual
def D.pd : D → Option PyData
  | .non => some .none
  | .bl b => some (.bool b)
  | .int i => some (.int i)
  | .str z => some (.str z)
  | .lst xs => (pds xs).map .list
  | .tup xs => (pds xs).map .tuple
  | _ => none
def pds : List D → Option (List PyData)
  | [] => some []
  | x :: xs => match D.pd x, pds xs with
    | some d, some ds => some (d :: ds)
    | _, _ => none
end
mutual
theorem Rep.dp : ∀ {v : V} {x : D} {d : PyData}, Rep K G v x → x.pd = some d → Dp K G v d
  | _, _, _, .non, e => by cases e; exact .non
  | _, _, _, .bl b, e => by cases e; exact .bl b
  | _, _, _, .int i, e => by cases e; exact .int i
  | _, _, _, .str x, e => by cases e; exact .str x
  | _, _, _, .lst (xs := xs) h r, e => by
    cases q : pds xs with
    | none => rw [D.pd, q] at e; cases e
    | some ds => rw [D.pd, q] at e; cases e; exact .lst (SqL.of h) (Reps.dp r q)
  | _, _, _, .tup (xs := xs) h r, e => by
    cases q : pds xs with
    | none => rw [D.pd, q] at e; cases e
    | some ds => rw [D.pd, q] at e; cases e; exact .tup h (Reps.dp r q)
  | _, _, _, .ty _, e => by simp [D.pd] at e
  | _, _, _, .cls _, e => by simp [D.pd] at e
  | _, _, _, .dic _ _, e => by simp [D.pd] at e
  | _, _, _, .dit _ _, e => by simp [D.pd] at e
  | _, _, _, .obj _ _, e => by simp [D.pd] at e
theorem Reps.dp : ∀ {vs : List V} {xs : List D} {ds : List PyData}, Reps K G vs xs → pds xs = some ds → DpAll K G vs ds
  | _, _, _, .nil, e => by cases e; exact .nil
  | _, _, _, .cons (x := x) (xs := xs) h r, e => by
    cases q1 : D.pd x with
    | none => rw [pds, q1] at e; cases e
    | some d =>
      cases q2 : pds xs with
      | none => rw [pds, q1, q2] at e; cases e
      | some ds => rw [pds, q1, q2] at e; cases e; exact .cons (Rep.dp h q1) (Reps.dp r q2)
end
def oEqG (neg : Bool) : O2 := fun x y Q => match x.pd, y.pd with
  | some d, some e => SeqAt.shaped d = true ∧ SeqAt.shaped e = true ∧ Q (.bl (if neg then !PyData.eqv d e else PyData.eqv d e))
  | _, _ => False
def oEq : O2 := fun x y Q => match x, y with
  | .int i, .int j => Q (.bl (decide (i = j)))
  | .str p, .str q => Q (.bl (decide (p = q)))
  | .bl p, .bl q => Q (.bl (decide (p = q)))
  | x, y => oEqG false x y Q
def oNe : O2 := fun x y Q => match x, y with
  | .int i, .int j => Q (.bl (!decide (i = j)))
  | .str p, .str q => Q (.bl (!decide (p = q)))
  | .bl p, .bl q => Q (.bl (!decide (p = q)))
  | x, y => oEqG true x y Q
theorem dec_vi {i j : Int} : decide (V.int i = V.int j) = decide (i = j) := by
  by_cases h : i = j
  · subst h; simp
  · rw [decide_eq_false h, decide_eq_false (fun z => h (by cases z; rfl))]
theorem dec_vs {i j : Str} : decide (V.str i = V.str j) = decide (i = j) := by
  by_cases h : i = j
  · subst h; simp
  · rw [decide_eq_false h, decide_eq_false (fun z => h (by cases z; rfl))]
theorem dec_vb {i j : Bool} : decide (V.bl i = V.bl j) = decide (i = j) := by
  by_cases h : i = j
  · subst h; simp
  · rw [decide_eq_false h, decide_eq_false (fun z => h (by cases z; rfl))]
theorem eqG {neg : Bool} {v u : V} {x y : D} {Q : D → Prop} {Z : VK} (s : Same G H) (r1 : Rep K G v x) (r2 : Rep K G u y) (q : oEqG neg x y Q) (k : ∀ z w G' H', Gr G H G' H' → Rep K G' w z → Q z → Z w H') :
    ∃ d e, Dp K H v d ∧ Dp K H u e ∧ SeqAt.shaped d = true ∧ SeqAt.shaped e = true ∧ Z (.bl (if neg then !PyData.eqv d e else PyData.eqv d e)) H := by
  unfold oEqG at q
  split at q
  · rename_i d e e1 e2
    exact ⟨d, e, (r1.toH s).dp e1, (r2.toH s).dp e2, q.1, q.2.1, k _ _ G H (Gr.refl s) (.bl _) q.2.2⟩
  · exact q.elim
theorem op_eqDD (hu : X.A.units + 64 < cLine) : OpD X (compareOp .Eq) oEq := ⟨_, OpR.or op_eq (op_eqD hu), fun G H v u x y Q Z s r1 r2 q k => by
  unfold oEq at q
  split at q
  · cases r1; cases r2; refine .inl ⟨rfl, ?_⟩; rw [dec_vi]; exact k _ _ G H (Gr.refl s) (.bl _) q
  · cases r1; cases r2; refine .inl ⟨rfl, ?_⟩; rw [dec_vs]; exact k _ _ G H (Gr.refl s) (.bl _) q
  · cases r1; cases r2; refine .inl ⟨rfl, ?_⟩; rw [dec_vb]; exact k _ _ G H (Gr.refl s) (.bl _) q
  · exact .inr (eqG (neg := false) s r1 r2 q k)⟩
theorem op_neDD (hu : X.A.units + 64 < cLine) : OpD X (compareOp .NotEq) oNe := ⟨_, OpR.or op_ne (op_neD hu), fun G H v u x y Q Z s r1 r2 q k => by
  unfold oNe at q
  split at q
  · cases r1; cases r2; refine .inl ⟨rfl, ?_⟩; rw [dec_vi]; exact k _ _ G H (Gr.refl s) (.bl _) q
  · cases r1; cases r2; refine .inl ⟨rfl, ?_⟩; rw [dec_vs]; exact k _ _ G H (Gr.refl s) (.bl _) q
  · cases r1; cases r2; refine .inl ⟨rfl, ?_⟩; rw [dec_vb]; exact k _ _ G H (Gr.refl s) (.bl _) q
  · exact .inr (eqG (neg := true) s r1 r2 q k)⟩
def D.isN : D → Bool
  | .non => true
  | _ => false
theorem Rep.isN {v : V} {x : D} (h : Rep K G v x) : decide (v = .non) = x.isN := by cases h <;> simp [D.isN]
def oIs : O2 := fun x y Q => match y with | .non => Q (.bl x.isN) | _ => False
theorem op_isD : OpD X (compareOp .Is) oIs := ⟨_, op_isN, fun G H v u x y Q Z s r1 r2 q k => by
  cases r2 with
  | non => refine ⟨rfl, ?_⟩; rw [r1.isN]; exact k _ _ G H (Gr.refl s) (.bl _) q
  | _ => exact q.elim⟩
/-! ### subscripts -/
def keyD : D → Option Key
  | .int i => some (.inl i)
  | .str z => some (.inr z)
  | _ => none
theorem Rep.key {v : V} {x : D} {k : Key} (h : Rep K G v x) (e : keyD x = some k) : v = kV k := by
  cases h <;> first | (cases e; rfl) | cases e
def valD {κ : Type} [DecidableEq κ] (kvs : List (κ × D)) (k : κ) : Option D := (kvs.find? fun kv => decide (kv.1 = k)).map (·.2)
theorem RepK.val : ∀ {vs : List (Key × V)} {xs : List (Key × D)} {k : Key}, RepK K G vs xs → (∀ x, valD xs k = some x → ∃ v, valV vs k = some v ∧ Rep K G v x) ∧ (valD xs k = none → valV vs k = none)
  | _, _, k, .nil => ⟨(fun x e => nomatch e), fun _ => rfl⟩
  | _, _, k, .cons (k := k0) (vs := vs) (xs := xs) h r => by
    have ih := RepK.val (k := k) r
    unfold valD valV at ih ⊢
    by_cases e : k0 = k
    · subst e
      simp only [List.find?_cons, decide_true, Option.map_some]
      exact ⟨fun x z => by cases z; exact ⟨_, rfl, h⟩, fun z => nomatch z⟩
    · simp only [List.find?_cons, decide_eq_false e]
      exact ih
theorem RepT.val : ∀ {vs : List (List Key × V)} {xs : List (List Key × D)} {k : List Key}, RepT K G vs xs → (∀ x, valD xs k = some x → ∃ v, valV vs k = some v ∧ Rep K G v x) ∧ (valD xs k = none → valV vs k = none)
  | _, _, k, .nil => ⟨(fun x e => nomatch e), fun _ => rfl⟩
  | _, _, k, .cons (k := k0) (vs := vs) (xs := xs) h r => by
    have ih := RepT.val (k := k) r
    unfold valD valV at ih ⊢
    by_cases e : k0 = k
    · subst e
      simp only [List.find?_cons, decide_true, Option.map_some]
      exact ⟨fun x z => by cases z; exact ⟨_, rfl, h⟩, fun z => nomatch z⟩
    · simp only [List.find?_cons, decide_eq_false e]
      exact ih
def oIx : O2 := fun x y Q => match x, y with
  | .lst xs, .int i => match atI xs i with | some z => Q z | none => False
  | .tup xs, .int i => match atI xs i with | some z => Q z | none => False
  | .str z, .int i => z.length ≤ 100000 ∧ match atI z.cps.toList i with | some c => Q (.str ⟨#[c]⟩) | none => False
  | .dic kvs, y => match keyD y with
    | some k => match valD kvs k with | some z => Q z | none => False
    | none => False
  | _, _ => False
theorem Reps.atI {vs : List V} {xs : List D} {i : Int} {x : D} (r : Reps K G vs xs) (e : L2.atI xs i = some x) : ∃ v, L2.atI vs i = some v ∧ Rep K G v x := by
  unfold L2.atI at e ⊢
  rw [r.length]
  cases q : ixN xs.length i with
  | none => rw [q] at e; cases e
  | some j => rw [q] at e; exact r.at e
theorem DGet.kf {H : Hp} {a : Addr} {kvs : List (Key × V)} {k : Key} (e : FzK H a kvs) : DGet H a (kV k) (valV kvs k) := .inl ⟨kvs, k, .inr e, rfl, rfl⟩
def rIxD : R2 := fun x y H Q => ∃ a v, x = .ref a ∧ DGet H a y (some v) ∧ Q v H
theorem ix_dict (hu : X.A.units + 1 < cLine) : IxR X rIxD := by
  intro value slice pins s σ H x y v u Q I rx ry h hs
  obtain ⟨a, z, rfl, g, q⟩ := h
  obtain rfl : v = Value.ref a := rx
  have hT := dict_typeIs I g
  have h2 := d_getItem (Q := EP X pins σ Q) (E := X.xe) (A := X.A) hu I g ry fun w' s3 I3 rw' => ⟨z, H, I3, rw', q⟩
  unfold subscriptTail
  refine wpAny_bind ?_
  rw [getitemInPython_of_ne hT.not_modules]
  refine wpAny_bind (wpAny_specialOf hT PySem.F.slot_dict_getitem.lookup ?_)
  have fin : wpAny (model X.prog X.w) X.A (subscripted slice false (.ref a) u) (fun r s₃ => wpAny (model X.prog X.w) X.A (letTemporaryGo value (.ref a) r >>= fun _ => pure r) (EP X pins σ Q) X.xe s₃) X.xe s := by
    rw [hs]
    exact wpAny_operating (wpAny_mono h2 (fun r s₃ h₃ => wpAny_bind (wpAny_letTemporaryGo (wpAny_pure h₃))) fun _ _ x => x)
  first
    | exact wpAny_pure (wpAny_bind fin)
    | exact wpAny_bind (wpAny_pure (wpAny_bind fin))
    | exact wpAny_bind fin
theorem rd_ix (hK : X.K = K) : RD2 K (fun x y H Q => rIx K x y H Q ∨ rIxD x y H Q) oIx := fun G H v u x y Q Z s r1 r2 q k => by
  unfold oIx at q
  split at q
  · cases r2
    cases r1 with
    | lst h1 h2 =>
      split at q
      · rename_i z e
        obtain ⟨v2, e2, r⟩ := h2.atI e
        exact .inl (.inl ⟨_, _, _, v2, rfl, rfl, SqL.of (s _ _ h1), e2, k _ _ G H (Gr.refl s) r q⟩)
      · exact q.elim
  · cases r2
    cases r1 with
    | tup h1 h2 =>
      split at q
      · rename_i z e
        obtain ⟨v2, e2, r⟩ := h2.atI e
        exact .inl (.inr (.inl ⟨_, _, _, v2, rfl, rfl, Same.tup s h1, e2, k _ _ G H (Gr.refl s) r q⟩))
      · exact q.elim
  · cases r2; cases r1
    obtain ⟨hz, q⟩ := q
    split at q
    · rename_i c e
      exact .inl (.inr (.inr ⟨_, _, c, rfl, rfl, sz5 hz, e, k _ _ G H (Gr.refl s) (.str _) q⟩))
    · exact q.elim
  · cases r1 with
    | dic h1 h2 =>
      split at q
      · rename_i k' e
        split at q
        · rename_i z e2
          obtain ⟨v2, e3, r⟩ := (h2.val (k := k')).1 z e2
          refine .inr ⟨_, v2, rfl, ?_, k _ _ G H (Gr.refl s) r q⟩
          rw [r2.key e, ← e3]
          exact DGet.kf (h1.mono s)
        · exact q.elim
      · exact q.elim
  · exact q.elim
theorem d_ix (hu : X.A.units + 1 < cLine) (ha : DE X W a wa) (hb : DE X W b wb) (hs : PlainIx b := by exact fun _ _ => rfl) : DE X W (.Subscript a b pos) (eOp oIx wa wb) := PE.of (pe_ix (IxR.or ix_seq (ix_dict hu)) ha hb hs) fun σ H Z => rl_op (rd_ix rfl)
/-- by a name: the own list is not given away -/
def eIxV (i : Nat) (wb : WE) : WE := fun en Q E => wb en (fun y en1 => match en1.sl[i]? with
  | some (some (.own xs)) => oIx (.lst xs) y fun z => Q z en1
  | some (some (.odk xs)) => oIx (.dic xs) y fun z => Q z en1
  | some (some (.d x)) => oIx x y fun z => Q z en1
  | _ => False) E
theorem rd_ixL {G H : Hp} {a : Addr} {vs : List V} {u : V} {xs : List D} {y : D} {Q : D → Prop} {Z : VK} (h : H a = some (.lst vs)) (s : Same G H) (r : Reps K G vs xs) (r2 : Rep K G u y) (q : oIx (.lst xs) y Q) (k : ∀ z w, Rep K G w z → Q z → Z w H) : rIx K (.ref a) u H Z ∨ rIxD (.ref a) u H Z := by
  cases r2 with
  | int i =>
    have q : (match L2.atI xs i with | some z => Q z | none => False) := q
    split at q
    · rename_i z e
      obtain ⟨v2, e2, r3⟩ := r.atI e
      exact .inl (.inl ⟨_, _, _, v2, rfl, rfl, SqL.of h, e2, k _ _ r3 q⟩)
    · exact q.elim
  | _ => exact q.elim
theorem rd_ixK {G H : Hp} {a : Addr} {vs : List (Key × V)} {u : V} {xs : List (Key × D)} {y : D} {Q : D → Prop} {Z : VK} (h : H a = some (.dK vs)) (s : Same G H) (r : RepK K G vs xs) (r2 : Rep K G u y) (q : oIx (.dic xs) y Q) (k : ∀ z w, Rep K G w z → Q z → Z w H) : rIx K (.ref a) u H Z ∨ rIxD (.ref a) u H Z := by
  have q : (match keyD y with | some k => (match valD xs k with | some z => Q z | none => False) | none => False) := by cases y <;> exact q
  split at q
  · rename_i k' e
    split at q
    · rename_i z e2
      obtain ⟨v2, e3, r4⟩ := (r.val (k := k')).1 z e2
      refine .inr ⟨_, v2, rfl, ?_, k _ _ r4 q⟩
      rw [r2.key e, ← e3]
      exact DGet.k h
    · exact q.elim
  · exact q.elim
theorem d_ixV {i : Nat} {x : Str} {p : Pos} (hu : X.A.units + 1 < cLine) (hv : PE X (.Name x p) (tVar i)) (hb : DE X W b wb) (hs : PlainIx b := by exact fun _ _ => rfl) : DE X W (.Subscript (.Name x p) b pos) (fun en Q E => (en.sl[i]?.getD none).isSome = true ∧ eIxV i wb en Q E) :=
  PE.of (pe_ix (IxR.or ix_seq (ix_dict hu)) hv hb hs) fun σ H Z ⟨C, G, en, Q, E, R, xo, ⟨h0, q⟩, k⟩ => by
  have hv0 : ∃ v, σ[i]? = some (some v) := by
    cases q0 : en.sl[i]? with
    | none => rw [q0] at h0; cases h0
    | some b0 =>
      cases b0 with
      | none => rw [q0] at h0; cases h0
      | some b1 => obtain ⟨v, e1, _⟩ := R.var q0; exact ⟨v, e1⟩
  obtain ⟨v0, e0⟩ := hv0
  refine ⟨v0, e0, C, G, en, _, E, R, xo, q, fun u y G1 H1 en1 R1 s1 r1 q1 => ?_⟩
  split at q1
  · rename_i xs e
    obtain ⟨v, e1, a, vs, e2, h1, h2, h3, r⟩ := R1.var e
    rw [e0] at e1; cases e1; cases e2
    exact rd_ixL h1 R1.sub r r1 q1 fun z w rz qz => k w z G1 H1 en1 R1 s1 rz qz
  · rename_i xs e
    obtain ⟨v, e1, a, vs, e2, h1, h2, h3, r⟩ := R1.var e
    rw [e0] at e1; cases e1; cases e2
    exact rd_ixK h1 R1.sub r r1 q1 fun z w rz qz => k w z G1 H1 en1 R1 s1 rz qz
  · rename_i x e
    obtain ⟨v, e1, u1, e2, r⟩ := R1.var e
    rw [e0] at e1; cases e1; cases e2
    exact rd_ix rfl G1 H1 _ u x y _ Z R1.sub r r1 q1 fun z w G3 H3 g r3 q3 => k w z G3 H3 en1 (R1.grow g) (s1.trans g.gg) r3 q3
  · exact q1.elim
/-! ### slices -/
def cutD (xs : List D) (lo hi : Option Int) : List D := (xs.drop (HT.sIx xs.length 0 lo)).take (HT.sIx xs.length xs.length hi - HT.sIx xs.length 0 lo)
theorem Reps.cut {vs : List V} {xs : List D} (r : Reps K G vs xs) (lo hi : Option Int) : Reps K G (cutV vs lo hi) (cutD xs lo hi) := by
  unfold cutV cutD
  rw [r.length]
  exact (r.drop _).take _
abbrev WO := En → (Option Int → En → Prop) → EK → Prop
def oNo : WO := fun en Q _ => Q none en
def oSo (w : WE) : WO := fun en Q E => w en (fun x en1 => match x with | .int i => Q (some i) en1 | _ => False) E
def RlO (K : PySem.W.Frag) (W : WX) (w : WO) : TO := fun σ H Z => ∃ C G en Q E, Rel K C G H σ en ∧ XOk K W C E ∧ w en Q E ∧ ∀ o G' H' en', Rel K C G' H' σ en' → Same G G' → Q o en' → Z o H'
theorem PO.of {o : Option Expr} {t t' : TO} (h : PO X o t) (k : ∀ σ H Z, t' σ H Z → t σ H Z) : PO X o t' := ⟨fun pins s σ H Q I q => h.run pins s σ H Q I (k σ H Q q)⟩
theorem do_none : PO X none (RlO X.K W oNo) := PO.of po_none fun σ H Z ⟨C, G, en, Q, E, R, xo, q, k⟩ => k none G H en R (Same.refl G) q
theorem do_some (h : DE X W e w) : PO X (some e) (RlO X.K W (oSo w)) := PO.of (po_some h) fun σ H Z ⟨C, G, en, Q, E, R, xo, q, k⟩ => by
  refine ⟨C, G, en, _, E, R, xo, q, fun v x G1 H1 en1 R1 s1 r1 q1 => ?_⟩
  cases r1 with
  | int i => exact ⟨i, rfl, k _ G1 H1 en1 R1 s1 q1⟩
  | _ => exact q1.elim
def oSl (x : D) (lo hi : Option Int) (Q : D → Prop) : Prop := match x with
  | .lst xs => Q (.lst (cutD xs lo hi))
  | .tup xs => Q (.tup (cutD xs lo hi))
  | .str z => z.length ≤ 100000 ∧ Q (.str (cutS z lo hi))
  | _ => False
theorem cut_whole {xs : List D} {lo hi : Option Int} (h : HT.sIx xs.length 0 lo = 0 ∧ HT.sIx xs.length xs.length hi = xs.length) : cutD xs lo hi = xs := by
  unfold cutD
  rw [h.1, h.2]
  simp
end
end KD

/-! Built-in calls over data. -/
namespace KD
open PySem PySem.Spec PyProof.Rows L2 KP
abbrev OC := List D → (D → Prop) → Prop
section
variable {X : Cx} {W : WX} {e a b : Expr} {es : List Expr} {w wa wb : WE} {r : WA} {p pos apos : Pos} {K : PySem.W.Frag} {G H : Hp} {x : Str} {bid T : String}
def RDC (K : PySem.W.Frag) (r : List V → Hp → VK → Prop) (o : OC) : Prop := ∀ G H vs xs Q Z, Same G H → Reps K G vs xs → o xs Q → (∀ z w G' H', Gr G H G' H' → Rep K G' w z → Q z → Z w H') → r vs H Z
def CallD (X : Cx) (f : Value) (o : OC) : Prop := ∃ r, CallR X f r ∧ RDC X.K r o
def eB (o : OC) (r : WA) : WE := fun en Q E => aD r en (fun xs en1 => o xs fun z => Q z en1) E
theorem rl_b {K : PySem.W.Frag} {o : OC} {rr : List V → Hp → VK → Prop} (h2 : RDC K rr o) {σ : L2.St} {H : Hp} {Z : VK} (h : Rl K W (eB o r) σ H Z) : tCB rr (RlA K W r) σ H Z := by
  obtain ⟨C, G, en, Q, E, R, xo, q, k⟩ := h
  exact rla R xo q fun vs xs G1 H1 en1 R1 s1 r1 q1 => h2 G1 H1 vs xs _ Z R1.sub r1 q1 fun z w G3 H3 g r3 q3 => k w z G3 H3 en1 (R1.grow g) (s1.trans g.gg) r3 q3
theorem d_b {o : OC} (ho : CallD X (.builtin bid) o) (hg : Gl X x) (hm : X.mg x = none) (hv : bootBuiltins x = some (.builtin bid)) (ha : DA X W (e :: es) r) (hn : x ≠ "__name__" := by decide) (hdb : (x == ("__debug__" : Str)) = false := by decide)
    (he : starEach (e :: es) X.env = (false, eval e X.env) :: starEach es X.env := by rfl) (hpl : (backTo pos (starEach es X.env)).any (·.1) = false := by rfl) : DE X W (.Call (.Name x p) (e :: es) [] pos) (eB o r) := by
  obtain ⟨rr, h1, h2⟩ := ho
  exact PE.of (pe_callB h1 hg hm hv ha hn hdb he hpl) fun σ H Z => rl_b h2
theorem d_bT {o : OC} (ho : CallD X (.type T) o) (hg : Gl X x) (hm : X.mg x = none) (hv : bootBuiltins x = some (.type T)) (ha : DA X W (e :: es) r) (hn : x ≠ "__name__" := by decide) (hdb : (x == ("__debug__" : Str)) = false := by decide)
    (he : starEach (e :: es) X.env = (false, eval e X.env) :: starEach es X.env := by rfl) (hpl : (backTo pos (starEach es X.env)).any (·.1) = false := by rfl) : DE X W (.Call (.Name x p) (e :: es) [] pos) (eB o r) := by
  obtain ⟨rr, h1, h2⟩ := ho
  exact PE.of (pe_callTy h1 hg hm hv ha hn hdb he hpl) fun σ H Z => rl_b h2
/-! ### len, abs, int, min, max, divmod -/
def oLen : OC := fun xs Q => match xs with
  | [.lst ys] => Q (.int ys.length)
  | [.tup ys] => Q (.int ys.length)
  | [.str z] => z.length ≤ 100000 ∧ Q (.int z.length)
  | [.dic kvs] => Q (.int kvs.length)
  | _ => False
theorem RepK.length : ∀ {vs : List (Key × V)} {xs : List (Key × D)}, RepK K G vs xs → vs.length = xs.length
  | _, _, .nil => rfl
  | _, _, .cons _ r => by simp [RepK.length r]
theorem call_lenRd : CallR X (.builtin "len") (fun xs H Q => ∃ a kvs, xs = [V.ref a] ∧ Rd H a (.dK kvs) ∧ Q (.int kvs.length) H) := by
  intro pins s σ H xs us Q I r h
  obtain ⟨a, kvs, rfl, ha, q⟩ := h
  obtain ⟨u, rfl, ru⟩ := vals1 r
  cases ru
  exact d_len I ha fun t s' I' => ⟨.int kvs.length, H, I', ⟨t, rfl⟩, q⟩
theorem call_lenD_ : CallD X (.builtin "len") oLen := ⟨_, CallR.or call_len call_lenRd, fun G H vs xs Q Z s r q k => by
  unfold oLen at q
  split at q
  · obtain ⟨v, rfl, rv⟩ := reps1 r
    cases rv with
    | lst h1 h2 => refine .inl ⟨_, _, rfl, .inl ⟨_, SqL.of (s _ _ h1), rfl⟩, ?_⟩; rw [h2.length]; exact k _ _ G H (Gr.refl s) (.int _) q
  · obtain ⟨v, rfl, rv⟩ := reps1 r
    cases rv with
    | tup h1 h2 => refine .inl ⟨_, _, rfl, .inr ⟨_, Same.tup s h1, rfl⟩, ?_⟩; rw [h2.length]; exact k _ _ G H (Gr.refl s) (.int _) q
  · obtain ⟨v, rfl, rv⟩ := reps1 r
    cases rv
    exact .inl ⟨_, _, rfl, ⟨sz5 q.1, rfl⟩, k _ _ G H (Gr.refl s) (.int _) q.2⟩
  · obtain ⟨v, rfl, rv⟩ := reps1 r
    cases rv with
    | dic h1 h2 => refine .inr ⟨_, _, rfl, .inr (h1.mono s), ?_⟩; rw [h2.length]; exact k _ _ G H (Gr.refl s) (.int _) q
  · exact q.elim⟩
def oAbs : OC := fun xs Q => match xs with | [.int i] => Q (.int (if i < 0 then -i else i)) | _ => False
theorem call_absD : CallD X (.builtin "abs") oAbs := ⟨_, call_abs, fun G H vs xs Q Z s r q k => by
  unfold oAbs at q
  split at q
  · obtain ⟨v, rfl, rv⟩ := reps1 r
    cases rv
    exact ⟨_, rfl, k _ _ G H (Gr.refl s) (.int _) q⟩
  · exact q.elim⟩
/-- all ints -/
def allI : List D → Option (List Int)
  | [] => some []
  | .int i :: r => (allI r).map (i :: ·)
  | _ :: _ => none
theorem Reps.ints : ∀ {vs : List V} {xs : List D} {ns : List Int}, Reps K G vs xs → allI xs = some ns → vs = ns.map V.int
  | _, _, _, .nil, e => by cases e; rfl
  | _, _, _, .cons (x := x) (xs := xs) h r, e => by
    cases h with
    | int i =>
      cases q : allI xs with
      | none => rw [allI, q] at e; cases e
      | some ms => rw [allI, q] at e; cases e; rw [Reps.ints r q]; rfl
    | _ => cases e
/-! ### list, tuple, all, any, sorted -/
def oList : OC := fun xs Q => match xs with | [.lst ys] => Q (.lst ys) | [.tup ys] => Q (.lst ys) | _ => False
theorem call_listD : CallD X (.type "list") oList := ⟨_, call_list_of, fun G H vs xs Q Z s r q k => by
  unfold oList at q
  split at q
  · obtain ⟨v, rfl, rv⟩ := reps1 r
    cases rv with
    | lst h1 h2 => exact ⟨_, _, rfl, .inl (SqL.of (s _ _ h1)), fun p np => k _ _ _ _ (Gr.new1 s np) (.lst upd_same (h2.mono (KP.Same.new (s.free np)))) q⟩
  · obtain ⟨v, rfl, rv⟩ := reps1 r
    cases rv with
    | tup h1 h2 => exact ⟨_, _, rfl, .inr (Same.tup s h1), fun p np => k _ _ _ _ (Gr.new1 s np) (.lst upd_same (h2.mono (KP.Same.new (s.free np)))) q⟩
  · exact q.elim⟩
def allB : List D → Option (List Bool)
  | [] => some []
  | .bl i :: r => (allB r).map (i :: ·)
  | _ :: _ => none
theorem Reps.bools : ∀ {vs : List V} {xs : List D} {ns : List Bool}, Reps K G vs xs → allB xs = some ns → vs = ns.map V.bl
  | _, _, _, .nil, e => by cases e; rfl
  | _, _, _, .cons (x := x) (xs := xs) h r, e => by
    cases h with
    | bl i =>
      cases q : allB xs with
      | none => rw [allB, q] at e; cases e
      | some ms => rw [allB, q] at e; cases e; rw [Reps.bools r q]; rfl
    | _ => cases e
def oAll : OC := fun xs Q => match xs with | [.lst ys] => (match allB ys with | some bs => Q (.bl (bs.all id)) | none => False) | _ => False
theorem call_allD (hc : X.calm = true) : CallD X (.builtin "all") oAll := ⟨_, cr_all hc, fun G H vs xs Q Z s r q k => by
  unfold oAll at q
  split at q
  · obtain ⟨v, rfl, rv⟩ := reps1 r
    split at q
    · rename_i ns e
      cases rv with
      | lst h1 h2 => exact ⟨_, ns, rfl, SqL.of (by rw [← h2.bools e]; exact s _ _ h1), k _ _ G H (Gr.refl s) (.bl _) q⟩
    · exact q.elim
  · exact q.elim⟩
/-! ### repr, str, f-strings, join -/
@[irreducible] def oRepr : OC := fun xs Q => match xs with
  | [x] => (match x.pd with | some d => d.showable = true ∧ d.hasDict = false ∧ d.depth < 50 ∧ d.shown.length ≤ 1000000 ∧ Q (.str d.shown) | none => False)
  | _ => False
theorem call_reprDD (hg : X.A.guards = some []) (hu : X.A.units + 64 < cLine) : CallD X (.builtin "repr") oRepr := ⟨_, call_reprD hg hu, fun G H vs xs Q Z s r q k => by
  unfold oRepr at q
  split at q
  · obtain ⟨v, rfl, rv⟩ := reps1 r
    split at q
    · rename_i d e
      exact ⟨_, d, rfl, (rv.toH s).dp e, q.1, q.2.1, q.2.2.1, q.2.2.2.1, k _ _ G H (Gr.refl s) (.str _) q.2.2.2.2⟩
    · exact q.elim
  · exact q.elim⟩
def oFmt : O1 := fun x Q => match x with
  | .str y => y.length ≤ 100000 ∧ Q (.str y)
  | .int i => i.natAbs.log2 < 1920 ∧ Q (.str (toString i))
  | _ => False
def eFmt (w : WE) : WE := fun en Q E => w en (fun x en1 => oFmt x fun z => Q z en1) E
theorem d_fmt (he : DE X W e w) : DE X W (.FormattedValue e (-1) none pos) (eFmt w) := PE.of (pe_fmt he) fun σ H Z ⟨C, G, en, Q, E, R, xo, q, k⟩ => by
  refine ⟨C, G, en, _, E, R, xo, q, fun v x G1 H1 en1 R1 s1 r1 q1 => ?_⟩
  cases r1 with
  | str y => exact .inl ⟨y, rfl, sz5 q1.1, k _ _ G1 H1 en1 R1 s1 (.str _) q1.2⟩
  | int i => exact .inr ⟨i, rfl, q1.1, k _ _ G1 H1 en1 R1 s1 (.str _) q1.2⟩
  | _ => exact q1.elim
def jsGo : List WE → Str → En → (D → En → Prop) → EK → Prop
  | [], acc, en, Q, _ => Q (.str acc) en
  | w :: ws, acc, en, Q, E => w en (fun x en1 => match x with | .str y => (acc ++ y).length ≤ 100000 ∧ jsGo ws (acc ++ y) en1 Q E | _ => False) E
def eJs (ws : List WE) : WE := fun en Q E => jsGo ws Str.empty en Q E
theorem js_of {K : PySem.W.Frag} : ∀ (ws : List WE) {σ : L2.St} {H : Hp} {C : Ctx} {G : Hp} {en : En} {Q : D → En → Prop} {E : EK} {acc : Str} {Z : Str → Hp → Prop}, Rel K C G H σ en → XOk K W C E → jsGo ws acc en Q E →
    (∀ z G' H' en', Rel K C G' H' σ en' → Same G G' → Q (.str z) en' → Z z H') → tJs (ws.map (Rl K W)) acc σ H Z
  | [], _, H, C, G, en, Q, E, acc, Z, R, xo, q, k => k acc G H en R (Same.refl G) q
  | w :: ws, σ, H, C, G, en, Q, E, acc, Z, R, xo, q, k => by
    refine ⟨C, G, en, _, E, R, xo, q, fun v x G1 H1 en1 R1 s1 r1 q1 => ?_⟩
    cases r1 with
    | str y => exact ⟨y, rfl, sz5 q1.1, js_of ws R1 xo q1.2 fun z G' H' en' R' s' q' => k z G' H' en' R' (s1.trans s') q'⟩
    | _ => exact q1.elim
theorem d_js {v1 v2 : Expr} {rest : List Expr} {ws : List WE} (h : PJ X (v1 :: v2 :: rest) (ws.map (Rl X.K W))) : DE X W (.JoinedStr (v1 :: v2 :: rest) pos) (eJs ws) := PE.of (pe_joined h) fun σ H Z ⟨C, G, en, Q, E, R, xo, q, k⟩ =>
  js_of ws R xo q fun z G' H' en' R' s' q' => k (.str z) (.str z) G' H' en' R' s' (.str z) q'
def allS : List D → Option (List Str)
  | [] => some []
  | .str i :: r => (allS r).map (i :: ·)
  | _ :: _ => none
theorem Reps.strs : ∀ {vs : List V} {xs : List D} {ns : List Str}, Reps K G vs xs → allS xs = some ns → vs = ns.map V.str
  | _, _, _, .nil, e => by cases e; rfl
  | _, _, _, .cons (x := x) (xs := xs) h r, e => by
    cases h with
    | str i =>
      cases q : allS xs with
      | none => rw [allS, q] at e; cases e
      | some ms => rw [allS, q] at e; cases e; rw [Reps.strs r q]; rfl
    | _ => cases e
def oJoin : O2 := fun x y Q => match x, y with
  | .str a, .lst xs => (match allS xs with | some ys => (ys.map (·.length)).sum + ys.length * a.length ≤ 16777216 ∧ Q (.str (Txt.join a ys)) | none => False)
  | _, _ => False
theorem d_join (ha : DE X W a wa) (hb : DE X W b wb) (hs : starEach [b] X.env = [(false, eval b X.env)] := by rfl) (hbase : attributeBase a "join" X.env (eval a X.env) = eval a X.env := by rfl) (hline : (apos.endLine == pos.line) = true := by rfl) :
    DE X W (.Call (.Attribute a "join" apos) [b] [] pos) (fun en Q E => wa en (fun x en1 => (match x with | .str _ => True | _ => False) ∧ wb en1 (fun y en2 => oJoin x y fun z => Q z en2) E) E) := PE.of (pe_join ha hb hs hbase hline) fun σ H Z ⟨C, G, en, Q, E, R, xo, q, k⟩ => by
  refine ⟨C, G, en, _, E, R, xo, q, fun v x G1 H1 en1 R1 s1 r1 q1 => ?_⟩
  obtain ⟨q0, q1⟩ := q1
  cases r1 with
  | str z =>
    refine ⟨⟨z, rfl⟩, C, G1, en1, _, E, R1, xo, q1, fun u y G2 H2 en2 R2 s2 r2 q2 => ?_⟩
    unfold oJoin at q2
    split at q2
    · rename_i e0; cases e0
      split at q2
      · rename_i ys e
        cases r2 with
        | lst h1 h2 => exact ⟨z, _, ys, rfl, rfl, .inl (SqL.of (by rw [← h2.strs e]; exact R2.sub _ _ h1)), q2.1, k _ _ G2 H2 en2 R2 (s1.trans s2) (.str _) q2.2⟩
      · exact q2.elim
    · exact q2.elim
  | _ => exact q0.elim
/-! ### isinstance -/
def D.tn : D → Option String
  | .non => some "NoneType"
  | .bl _ => some "bool"
  | .int _ => some "int"
  | .str _ => some "str"
  | .lst _ => some "list"
  | .tup _ => some "tuple"
  | .dic _ => some "dict"
  | _ => none
theorem Rep.tyx {v : V} {x : D} {t : String} (h : Rep K G v x) (e : x.tn = some t) : TyX K G v (.type t) := by
  cases h with
  | non => cases e; exact .base .non
  | bl b => cases e; exact .base (.bl b)
  | int b => cases e; exact .base (.int b)
  | str b => cases e; exact .base (.str b)
  | lst h1 _ => cases e; exact .base (.lst h1)
  | tup h1 _ =>
    cases e
    rcases h1 with (h1 | ⟨o, h1⟩) | ⟨o, its, n, h1, h2, _⟩
    · exact .base (.tup h1)
    · exact .fTuple h1
    · exact .kTuple h1 h2
  | dic h1 _ => obtain ⟨_, h1⟩ := h1; cases e; exact .fDict h1
  | _ => cases e
/-- isinstance(x, T), T a built-in class -/
@[irreducible] def oIsi : OC := fun xs Q => match xs with
  | [x, .ty n] => (match x.tn with
    | some t => (match kitB t n with | some b => Q (.bl b) | none => False)
    | none => False)
  | _ => False
theorem call_isiD : CallD X (.builtin "isinstance") oIsi := ⟨_, call_isi, fun G H vs xs Q Z s r q k => by
  unfold oIsi at q
  split at q
  · obtain ⟨v, u, rfl, rv, ru⟩ := reps2 r
    cases ru
    split at q
    · rename_i t e
      split at q
      · rename_i b eb
        exact ⟨_, _, _, _, b, rfl, .ty _, (rv.toH s).tyx e, kit_ty eb, k _ _ G H (Gr.refl s) (.bl _) q⟩
      · exact q.elim
    · exact q.elim
  · exact q.elim⟩
/-! ### by a name: len of an own list, of the script -/
def eLenV (i : Nat) : WE := fun en Q _ => match en.sl[i]? with
  | some (some (.own xs)) => Q (.int xs.length) en
  | some (some (.scr n)) => Q (.int n) en
  | some (some (.d x)) => oLen [x] fun z => Q z en
  | _ => False
theorem d_lenV {i : Nat} {y : Str} {p2 : Pos} (hv : PE X (.Name y p2) (tVar i)) (hg : Gl X "len") (hm : X.mg "len" = none)
    (he : starEach [.Name y p2] X.env = (false, eval (.Name y p2) X.env) :: starEach [] X.env := by rfl) (hpl : (backTo pos (starEach [] X.env)).any (·.1) = false := by rfl) : DE X W (.Call (.Name "len" p) [.Name y p2] [] pos) (eLenV i) := by
  obtain ⟨rr, h1, h2⟩ := call_lenD_ (X := X)
  refine PE.of (pe_callB (CallR.or call_len h1) hg hm PySem.boot_len (pa_cons hv pa_nil he) (by decide) (by decide) he hpl) fun σ H Z ⟨C, G, en, Q, E, R, xo, q, k⟩ => ?_
  unfold eLenV at q
  split at q
  · rename_i xs e
    obtain ⟨v, e1, a, vs, e2, h1, _, _, r⟩ := R.var e
    cases e2
    refine ⟨_, e1, .inl ⟨_, _, rfl, .inl ⟨_, SqL.of h1, rfl⟩, ?_⟩⟩
    rw [r.length]
    exact k _ _ G H en R (Same.refl G) (.int _) q
  · rename_i n e
    obtain ⟨v, e1, a, vs, e2, h1, r⟩ := R.var e
    cases e2
    refine ⟨_, e1, .inl ⟨_, _, rfl, .inl ⟨_, R.sub.seq h1, rfl⟩, ?_⟩⟩
    rw [r]
    exact k _ _ G H en R (Same.refl G) (.int _) q
  · rename_i x e
    obtain ⟨v, e1, u, e2, r⟩ := R.var e
    cases e2
    refine ⟨_, e1, .inr (h2 G H [_] [x] _ Z R.sub (.cons r .nil) q fun z w G3 H3 g r3 q3 => k w z G3 H3 en (R.grow g) g.gg r3 q3)⟩
  · exact q.elim
end
end KD

/-! More rules over data. -/
namespace KD
open PySem PySem.Spec PyProof.Rows L2 KP
section
variable {X : Cx} {W : WX} {e a b : Expr} {es : List Expr} {w wa wb : WE} {r : WA} {p pos apos : Pos} {K : PySem.W.Frag} {G H : Hp} {x : Str} {st : Stmt}
def eIxN (i : Nat) (wb : WE) : WE := fun en Q E => (en.sl[i]?.getD none).isSome = true ∧ eIxV i wb en Q E
theorem d_ixN {i : Nat} (hu : X.A.units + 1 < cLine) (hv : PE X (.Name x p) (tVar i)) (hb : DE X W b wb) (hs : PlainIx b := by exact fun _ _ => rfl) : DE X W (.Subscript (.Name x p) b pos) (eIxN i wb) := d_ixV hu hv hb hs
def eFldC (cn nm : Str) (w : WE) : WE := fun en Q E => w en (fun x en1 => match x with
  | .obj c fs => c = cn ∧ match fs.lookup nm with
    | some y => Q y en1
    | none => False
  | _ => False) E
theorem d_fldC {cn nm : Str} (he : DE X W e w) (c : Cls X.K (He.ga X.K cn)) (hn : NoAttr X.K (He.ga X.K cn) nm) (hab : attributeBase e nm X.env (eval e X.env) = eval e X.env := by rfl) : DE X W (.Attribute e nm pos) (eFldC cn nm w) := d_fld he c hn hab
def sFldC (cn : Str) (i : Nat) (fn : Str) (w : WE) : WS := fun N en => w en (fun x en1 => match en1.sl[i]? with
  | some (some (.slf c fs)) => c = cn ∧ fs.length < 1000 ∧ N.nx (en1.set i (some (.slf c (putFD fn x fs))))
  | _ => False) N.ex
theorem ds_fldC {cn : Str} {i : Nat} {fn : Str} (hs : PS X st (sFld X.K (tVar i) (Rl X.K W w) fn)) (c : Cls X.K (He.ga X.K cn)) (hn : NoAttr X.K (He.ga X.K cn) fn) : DS X W st (sFldC cn i fn w) := ds_fld hs c hn
def eJoin (wa wb : WE) : WE := fun en Q E => wa en (fun x en1 => (match x with | .str _ => True | _ => False) ∧ wb en1 (fun y en2 => oJoin x y fun z => Q z en2) E) E
theorem d_joinN (ha : DE X W a wa) (hb : DE X W b wb) (hs : starEach [b] X.env = [(false, eval b X.env)] := by rfl) (hbase : attributeBase a "join" X.env (eval a X.env) = eval a X.env := by rfl) (hline : (apos.endLine == pos.line) = true := by rfl) :
    DE X W (.Call (.Attribute a "join" apos) [b] [] pos) (eJoin wa wb) := d_join ha hb hs hbase hline
/-- own[lo:hi] by a name: a new list -/
def eSlV (i : Nat) (l h : WO) : WE := fun en Q E => (en.sl[i]?.getD none).isSome = true ∧ l en (fun lo en2 => h en2 (fun hi en3 => match en3.sl[i]? with
  | some (some (.own xs)) => Q (.lst (cutD xs lo hi)) en3
  | some (some (.d x)) => oSl x lo hi fun z => Q z en3
  | _ => False) E) E
theorem d_slV {i : Nat} {wl wh : WO} {lo hi : Option Expr} {p2 : Pos} (he : PE X (.Name x p) (tVar i)) (hl : PO X lo (RlO X.K W wl)) (hh : PO X hi (RlO X.K W wh)) : DE X W (.Subscript (.Name x p) (.Slice lo hi none p2) pos) (eSlV i wl wh) := PE.of (pe_slice (SlR.or sl_list (SlR.or sl_str sl_tupA)) he hl hh) fun σ H Z ⟨C, G, en, Q, E, R, xo, ⟨h0, q⟩, k⟩ => by
  have hv0 : ∃ v, σ[i]? = some (some v) := by
    cases q0 : en.sl[i]? with
    | none => rw [q0] at h0; cases h0
    | some b0 =>
      cases b0 with
      | none => rw [q0] at h0; cases h0
      | some b1 => obtain ⟨v, e1, _⟩ := R.var q0; exact ⟨v, e1⟩
  obtain ⟨v0, e0⟩ := hv0
  refine ⟨v0, e0, C, G, en, _, E, R, xo, q, fun o2 G2 H2 en2 R2 s2 q2 => ?_⟩
  refine ⟨C, G2, en2, _, E, R2, xo, q2, fun o3 G3 H3 en3 R3 s3 q3 => ?_⟩
  have s13 := s2.trans s3
  split at q3
  · rename_i xs e
    obtain ⟨v, e1, a, vs, e2, h1, h2, h3, r⟩ := R3.var e
    rw [e0] at e1; cases e1; cases e2
    refine .inl ⟨_, _, rfl, SqL.of h1, fun p np => ?_⟩
    have g := Gr.new1 (o := .lst (cutV vs o2 o3)) R3.sub np
    exact k _ _ _ _ en3 (R3.grow g) (s13.trans g.gg) (.lst upd_same ((r.mono g.gg).cut o2 o3)) q3
  · rename_i x e
    obtain ⟨v, e1, u1, e2, r3⟩ := R3.var e
    rw [e0] at e1; cases e1; cases e2
    cases r3 with
    | @lst _ vs xs h1 h2 =>
      refine .inl ⟨_, _, rfl, SqL.of (R3.sub _ _ h1), fun p np => ?_⟩
      have g := Gr.new1 (o := .lst (cutV vs o2 o3)) R3.sub np
      exact k _ _ _ _ en3 (R3.grow g) (s13.trans g.gg) (.lst upd_same ((h2.mono g.gg).cut o2 o3)) q3
    | @tup _ vs xs h1 h2 =>
      refine .inr (.inr ⟨_, _, rfl, Same.tup R3.sub h1, fun hw => ?_, fun _ p np => ?_⟩)
      · rw [h2.length] at hw
        have q3 : Q (.tup (cutD xs o2 o3)) en3 := q3
        rw [cut_whole hw] at q3
        exact k _ _ G3 H3 en3 R3 s13 (.tup h1 h2) q3
      · have g := Gr.new1 (o := .tup (cutV vs o2 o3)) R3.sub np
        exact k _ _ _ _ en3 (R3.grow g) (s13.trans g.gg) (.tup (SqT.of upd_same) ((h2.mono g.gg).cut o2 o3)) q3
    | str z => exact .inr (.inl ⟨z, rfl, sz5 q3.1, k _ _ G3 H3 en3 R3 s13 (.str _) q3.2⟩)
    | _ => exact q3.elim
  · exact q3.elim
/-! ### several names at once, some of them lists of their own -/
theorem XOk.unhold {K : PySem.W.Frag} {C : Ctx} {E : EK} {a : Addr} {o : HO} (x : XOk K W C E) (n : C.hk a = none) : XOk K W { C with hk := upd C.hk a o } E := fun y en σ G H cls od R r q => x y en σ G H cls od (R.unhold n) r q
/-- a part of a parallel assignment -/
inductive AK where
  | e (w : WE) | f (w : WF)
theorem Free.set {σ : L2.St} {en : En} {a : Addr} {i : Nat} {w : Option V} {c : Option B} (f : Free H σ en a) (h : a ∉ fpB H (some w) (some c)) : Free H (σ.set i w) (en.set i c) a := fun j z => by
  by_cases e : i = j
  · subst e
    have z : a ∈ fpB H (σ.set i w)[i]? (en.sl.set i c)[i]? := z
    rw [List.getElem?_set, List.getElem?_set] at z
    simp only [if_true] at z
    by_cases l1 : i < σ.length
    · by_cases l2 : i < en.sl.length
      · rw [if_pos l1, if_pos l2] at z; exact h z
      · rw [if_pos l1, if_neg l2] at z; cases w <;> cases z
    · rw [if_neg l1] at z; cases z
  · have z : a ∈ fpB H (σ.set i w)[j]? (en.sl.set i c)[j]? := z
    rw [List.getElem?_set_ne e, List.getElem?_set_ne e] at z
    exact f j z
/-! ### in -/
def D.flat : D → Bool
  | .non => true
  | .bl _ => true
  | .int _ => true
  | .str _ => true
  | _ => false
def D.feq : D → D → Bool
  | .non, .non => true
  | .bl a, .bl b => a == b
  | .bl a, .int b => (if a then 1 else 0) == b
  | .int a, .bl b => a == (if b then 1 else 0)
  | .int a, .int b => a == b
  | .str a, .str b => a == b
  | _, _ => false
def inD (x : D) (xs : List D) : Bool := xs.any fun y => D.feq y x
theorem Rep.flat {v : V} {x : D} (h : Rep K G v x) (e : x.flat = true) : flatV v = true := by cases h <;> first | rfl | cases e
theorem Rep.feq {v u : V} {x y : D} (h : Rep K G v x) (h2 : Rep K G u y) (e : x.flat = true) (e2 : y.flat = true) : eqV v u = D.feq x y := by
  cases h <;> first | (cases e; done) | (cases h2 <;> first | rfl | (cases e2; done))
theorem Reps.flatV : ∀ {vs : List V} {xs : List D}, Reps K G vs xs → xs.all D.flat = true → vs.all L2.flatV = true
  | _, _, .nil, _ => rfl
  | _, _, .cons h r, e => by
    rw [List.all_cons, Bool.and_eq_true] at e ⊢
    exact ⟨h.flat e.1, Reps.flatV r e.2⟩
theorem Reps.inV {u : V} {y : D} (hu : Rep K G u y) (fy : y.flat = true) : ∀ {vs : List V} {xs : List D}, Reps K G vs xs → xs.all D.flat = true → L2.inV u vs = inD y xs
  | _, _, .nil, _ => rfl
  | _, _, .cons h r, e => by
    rw [List.all_cons, Bool.and_eq_true] at e
    have ih := Reps.inV hu fy r e.2
    unfold L2.inV inD at ih ⊢
    rw [List.any_cons, List.any_cons, ih, h.feq hu e.1 fy]
def oIn (neg : Bool) : O2 := fun x y Q => match x, y with
  | x, .lst xs => x.flat = true ∧ xs.all D.flat = true ∧ Q (.bl (if neg then !inD x xs else inD x xs))
  | x, .tup xs => x.flat = true ∧ xs.all D.flat = true ∧ Q (.bl (if neg then !inD x xs else inD x xs))
  | .str c, .str z => (match c.cps.toList with | [c] => Q (.bl (if neg then !decide (c ∈ z.cps.toList) else decide (c ∈ z.cps.toList))) | _ => False)
  | x, .dic kvs => (match keyD x with | some k => Q (.bl (if neg then !(valD kvs k).isSome else (valD kvs k).isSome)) | none => False)
  | _, _ => False
def rInD (neg : Bool) : R2 := fun x y H Q => ∃ a o, y = .ref a ∧ DGet H a x o ∧ Q (.bl (if neg then !o.isSome else o.isSome)) H
theorem op_in_dict (hu : X.A.units + 1 < cLine) : OpR X (compareOp .In) (rInD false) := fun pins s σ H x y v u Q I rx ry h => by
  obtain ⟨a, o, rfl, g, q⟩ := h
  obtain rfl : u = Value.ref a := ry
  exact d_in hu I g rx fun s3 I3 => ⟨.bl o.isSome, H, I3, rfl, q⟩
theorem RepK.isSome {vs : List (Key × V)} {xs : List (Key × D)} {k : Key} (h : RepK K G vs xs) : (valV vs k).isSome = (valD xs k).isSome := by
  cases q2 : valD xs k with
  | none => rw [(h.val (k := k)).2 q2]; rfl
  | some z => obtain ⟨v2, e3, _⟩ := (h.val (k := k)).1 z q2; rw [e3]; rfl
def rSign (neg : Bool) : R2 := fun x y H Q => ∃ (c : Nat) (z : Str), x = .str ⟨#[c]⟩ ∧ y = .str z ∧ Q (.bl (if neg then !decide (c ∈ z.cps.toList) else decide (c ∈ z.cps.toList))) H
theorem rd_in (neg : Bool) : RD2 K (fun x y H Q => rIn K neg x y H Q ∨ rSign neg x y H Q ∨ rInD neg x y H Q) (oIn neg) := fun G H v u x y Q Z s r1 r2 q k => by
  unfold oIn at q
  split at q
  · cases r2 with
    | lst h1 h2 => exact .inl ⟨_, _, rfl, .inl (SqL.of (s _ _ h1)), r1.flat q.1, h2.flatV q.2.1, by rw [h2.inV r1 q.1 q.2.1]; exact k _ _ G H (Gr.refl s) (.bl _) q.2.2⟩
  · cases r2 with
    | tup h1 h2 => exact .inl ⟨_, _, rfl, .inr (Same.tup s h1), r1.flat q.1, h2.flatV q.2.1, by rw [h2.inV r1 q.1 q.2.1]; exact k _ _ G H (Gr.refl s) (.bl _) q.2.2⟩
  · cases r1; cases r2
    rename_i c z
    split at q
    · rename_i c' e
      have e2 : c = ⟨#[c']⟩ := by
        cases c with
        | mk l => congr 1; apply Array.ext'; simpa using e
      subst e2
      exact .inr (.inl ⟨c', z, rfl, rfl, k _ _ G H (Gr.refl s) (.bl _) q⟩)
    · exact q.elim
  · cases r2 with
    | @dic _ vs xs h1 h2 =>
      split at q
      · rename_i k' e
        refine .inr (.inr ⟨_, valV vs k', rfl, by rw [r1.key e]; exact DGet.kf (h1.mono s), ?_⟩)
        rw [h2.isSome]
        exact k _ _ G H (Gr.refl s) (.bl _) q
      · exact q.elim
  · exact q.elim
theorem op_inD (hu : X.A.units + 1 < cLine) : OpD X (compareOp .In) (oIn false) := ⟨_, OpR.or op_in_seq (OpR.or op_in_sign (op_in_dict hu)), rd_in false⟩
/-- a def, as its callers want it -/
structure CalX (P : Program) (w : World) (K : PySem.W.Frag) (mg : Str → Option Value) (base : Heap) (k : Nat) (f : Addr) (fd : FuncData) (ps : List Str) (sp : Sp) : Prop where
  F : FnOk P w K mg base (L2.CX P w) k f fd ps sp
  kp : PySem.W.keepIn K (.ref f) = true
  b : Binds K fd ps []
end
end KD

/-! Star arguments, texts of values. -/
namespace KD
open PySem PySem.Spec PyProof.Rows L2 KP
section
variable {X : Cx} {W : WX} {e a b : Expr} {es : List Expr} {w wa wb : WE} {r : WA} {p pos apos : Pos} {K : PySem.W.Frag} {G H : Hp} {x : Str} {st : Stmt}
def oStr : OC := fun xs Q => match xs with
  | [.str z] => Q (.str z)
  | [.int i] => i.natAbs.log2 < 1920 ∧ Q (.str (toString i))
  | _ => False
theorem call_strDD : CallD X (.type "str") oStr := ⟨_, CallR.or SkE.call_str_str call_str_int, fun G H vs xs Q Z s r q k => by
  unfold oStr at q
  split at q
  · obtain ⟨v, rfl, rv⟩ := reps1 r
    cases rv
    exact .inl ⟨_, rfl, k _ _ G H (Gr.refl s) (.str _) q⟩
  · obtain ⟨v, rfl, rv⟩ := reps1 r
    cases rv
    exact .inr ⟨_, rfl, q.1, k _ _ G H (Gr.refl s) (.str _) q.2⟩
  · exact q.elim⟩
/-- *e: a list or a tuple -/
def starD : D → Option (List D)
  | .lst xs => some xs
  | .tup xs => some xs
  | _ => none
theorem Rep.star {v : V} {x : D} {xs : List D} (h : Rep K G v x) (e : starD x = some xs) (s : Same G H) : ∃ a vs, v = .ref a ∧ (SqT K H a vs ∨ SqL K H a vs) ∧ Reps K G vs xs := by
  cases h with
  | lst h1 h2 => cases e; exact ⟨_, _, rfl, .inr (SqL.of (s _ _ h1)), h2⟩
  | tup h1 h2 => cases e; exact ⟨_, _, rfl, .inl (Same.tup s h1), h2⟩
  | _ => cases e
def aStar (w : WE) (r : WA) : WA := fun en Q E => w en (fun x en1 => match starD x with
  | some xs => r en1 (fun bs en2 => Q (xs.map B.d ++ bs) en2) E
  | none => False) E
theorem da_star (ha : DE X W e w) (hr : DA X W es r) (hs : starEach (.Starred e p :: es) X.env = (true, eval e X.env) :: starEach es X.env := by rfl) : DA X W (.Starred e p :: es) (aStar w r) := PA.of (StX.pa_star ha hr hs) fun σ H Z ⟨C, G, en, Q, E, R, xo, q, k⟩ => by
  refine ⟨C, G, en, _, E, R, xo, q, fun v x G1 H1 en1 R1 s1 r1 q1 => ?_⟩
  split at q1
  · rename_i xs e0
    obtain ⟨a, vs, rfl, hq, rr⟩ := r1.star e0 R1.sub
    exact ⟨a, vs, rfl, hq, C, G1, en1, _, E, R1, xo, q1, fun ws bs G2 H2 en2 R2 s2 r2 q2 => k _ _ G2 H2 en2 R2 (s1.trans s2) ((reps_args (rr.mono s2)).append r2) q2⟩
  · exact q1.elim
/-- f(*e) -/
theorem d_callS1 {sp_ : Pos} {k : Nat} {f : Addr} {fd : FuncData} {ps : List Str} {Wd : WD} (F : FnOk X.prog X.w X.K X.mg X.base (L2.CX X.prog X.w) k f fd ps (Pr X.K Wd)) (hr : Room k X.A) (hg : Gl X x) (hm : X.mg x = some (.ref f)) (hk : PySem.W.keepIn X.K (.ref f) = true) (hb : Binds X.K fd ps []) (tk : Takes X W) (he : DE X W e w)
    (hd : (x == ("__debug__" : Str)) = false := by decide) (hst : starEach [.Starred e sp_] X.env = [(true, eval e X.env)] := by rfl) :
    DE X W (.Call (.Name x p) [.Starred e sp_] [] pos) (eCall Wd (aStar w aNil)) := by
  refine ⟨fun pins s σ H Z I h => ?_⟩
  refine wpAny_Call_Name_kw (ld_glob I hg hm ?_ hd)
  obtain ⟨C, G, en, Q, E, R, xo, q, k⟩ := h
  have h1 : Rl X.K W w σ H (fun y H1 => ∃ a xs, y = V.ref a ∧ (SqT X.K H1 a xs ∨ SqL X.K H1 a xs) ∧ Pr X.K Wd xs H1 Z (L2.WE W σ)) :=
    ⟨C, G, en, _, E, R, xo, q, fun v x G1 H1 en1 R1 s1 r1 q1 => by
      split at q1
      · rename_i xs e0
        obtain ⟨a, vs, rfl, hq, rr⟩ := r1.star e0 R1.sub
        refine ⟨a, vs, rfl, hq, pr_of R1 xo (reps_args rr) (by simpa [aNil] using q1) fun v y G' H' en' R' s' r' q' => k v y G' H' en' R' (s1.trans s') r' q'⟩
      · exact q1.elim⟩
  refine PySem.W.callWith_S (h₀ := X.base) I.ok.mod.kin hk (thn (he.run pins s σ H _ I h1) fun v s1 ⟨y, H1, I1, ry, a, xs, ey, hxs, q⟩ => ?_) hst
  subst ey
  obtain rfl : v = Value.ref a := ry
  refine StX.star_any I1 hxs fun us s2 I2 rv => ⟨I2.kIn, ?_⟩
  exact run_fnSD (dvs := []) (ds := []) (E := L2.WE W) F hr hb .nil (passAt tk σ) I2 rv (by simpa using q)
end
end KD

/-! Defs that repr: where no repr is under way. -/
namespace KD
open PySem PySem.Spec PyProof.Rows L2 KP
structure FnH (P : Program) (w : World) (K : PySem.W.Frag) (mg : Str → Option Value) (base : Heap) (CX : CXT) (k : Nat) (f : Addr) (fd : FuncData) (ps : List Str) (sp : Sp) : Prop where
  lenG : ∀ vs H Q E, sp vs H Q E → vs.length = ps.length
  runG : ∀ (A : Around) (out : List Env) (s : Shared) (H : Hp) (ar : Args) (us : List Value) (vs : List V) (Q : VK) (E : XK), A.guards = some [] → Room k A → Env0 P w K mg base A out s H →
    BindsTo s fd ar (ps.zip us) → Vals vs us → sp vs H Q E → codeAny (model P w) A (.call (.ref f) ar) (CR CX out P w H s Q E) s
section
variable {P : Program} {w : World} {K : PySem.W.Frag} {mg : Str → Option Value} {base : Heap} {k : Nat} {f : Addr} {fd : FuncData} {ps : List Str} {sp : Sp} {CX : CXT} {x qual : Str} {pm : Arguments} {bd : List Stmt} {sc : Scope} {dvs : List V} {kws : List (Str × V)} {N : List Str}
/-- such a def, as its callers want it -/
structure CalG (P : Program) (w : World) (K : PySem.W.Frag) (mg : Str → Option Value) (base : Heap) (k : Nat) (f : Addr) (fd : FuncData) (ps : List Str) (sp : Sp) : Prop where
  F : FnH P w K mg base (L2.CX P w) k f fd ps sp
  kp : PySem.W.keepIn K (.ref f) = true
  b : Binds K fd ps []
end
section
variable {X : Cx} {W : WX} {e o : Expr} {es : List Expr} {w : WE} {r : WA} {p pos apos : Pos} {x m : Str} {k : Nat} {f : Addr} {fd : FuncData} {ps : List Str} {Wd : WD} {CX : CXT} {sp : Sp} {dvs : List V} {ds : List Value} {E : L2.St → XK} {t : TA}
end
end KD

/-! Operators that are methods of own classes. -/
namespace KD
open PySem PySem.Spec PyProof.Rows L2 KP
section
variable {M : Model} {h : Heap} {K : PySem.W.Frag} {C f : Addr} {nm : String}
theorem nsip_K (X : K.In h) (hs : PySem.W.findIn K (.ref C) (PySem.dunder nm) = some (some (.ref f))) (hr : PySem.W.findIn K (.ref C) (dunderR nm) = some none) : PySem.W.Looks M h (numberSlotInPython (.ref C) nm) true := by
  intro A Q E s k q
  unfold numberSlotInPython
  refine wpAny_bind (PySem.W.looks_findIn X hs A _ E s k ?_)
  refine wpAny_bind (wpAny_pure ?_)
  refine wpAny_bind (PySem.W.looks_findIn X hr A _ E s k ?_)
  refine wpAny_bind (wpAny_pure ?_)
  rw [if_pos (by rfl)]
  exact wpAny_pure q
end
section
variable {prog : Program} {w : World} {A : Around} {E : Value → Shared → Prop} {s : Shared} {K : PySem.W.Frag} {x C L f : Addr} {h₀ : Heap} {m : Str → Option Value} {ox : Obj} {od : Option Obj}
/-- x op b, b of another type: its class's slot is asked for first, to no end -/
theorem binop2_K {op : Operator} {b tb : Value} {r q : Bool} {rr : Option Value} {Q : Value → Shared → Prop} (X : K.In s.heap) (I : PySem.W.InstAt s.heap x ox C od) (hb : PySem.W.Looks (model prog w) s.heap (typeOf b) tb) (hne : (Value.ref C == tb) = false) (hc : PySem.W.selfFirst K C = true)
    (hs : PySem.W.findIn K (.ref C) (PySem.dunder op.info.2) = some (some (.ref f))) (hr : PySem.W.findIn K (.ref C) (dunderR op.info.2) = some none) (hf : PySem.W.isFn K (.ref f) = true)
    (hfl : PySem.W.Looks (model prog w) s.heap (fillsNumberSlot tb op.info.2) r) (hsub : PySem.W.Looks (model prog w) s.heap (isSubtype tb (.ref C)) false) (hin : PySem.W.Looks (model prog w) s.heap (numberSlotInPython tb op.info.2) q) (hrr : PySem.W.Looks (model prog w) s.heap (typeLookup tb (dunderR op.info.2)) rr)
    (h : wpAny (model prog w) A (call (.ref f) [.ref x, b]) (PySem.W.CmpBack Q) E s) : wpAny (model prog w) A (binaryOp op (.ref x) b) Q E s := by
  obtain ⟨cd, hcd, hm⟩ := PySem.W.any_some hc
  obtain ⟨rest, hm⟩ : ∃ rest, cd.mro = .ref C :: rest := by
    cases q : cd.mro with
    | nil => rw [q] at hm; cases hm
    | cons a r => rw [q] at hm; exact ⟨r, by rw [List.head?_cons] at hm; cases (beq_iff_eq.mp hm); rfl⟩
  have fin : ∀ {α : Type} {k : Option Value → Sem α} {R : α → Shared → Prop}, (∀ v s', Q v s' → wpAny (model prog w) A (k (some v)) R E s') → wpAny (model prog w) A (tryMethod (.ref x) (PySem.dunder op.info.2) b >>= k) R E s := by
    intro α k R hk
    refine wpAny_bind ?_
    unfold tryMethod
    refine wpAny_bind (PySem.W.special_fn X I hs (beq_iff_eq.mp hf) (wpAny_mono h (fun v s' hv => ?_) fun _ _ e => e))
    cases v <;> first | exact hv.elim | exact wpAny_pure (hk _ _ hv)
  unfold binaryOp
  refine wpAny_holding (wpAny_bind ?_)
  unfold binaryOp1
  refine wpAny_bind (I.type.here (wpAny_bind (hb.here (wpAny_bind ((PySem.W.fills_K X hcd hm hs).here ?_)))))
  simp only [hne, Bool.false_eq_true, if_false]
  refine wpAny_bind (hfl.here ?_)
  cases r with
  | false =>
    simp only [Bool.and_false, Bool.false_eq_true, if_false, Bool.false_and, pure_bind, if_true]
    exact fin fun v s' hq => wpAny_pure (wpAny_pure hq)
  | true =>
    simp only [Bool.and_self, if_true]
    refine wpAny_bind (hsub.here ?_)
    simp only [Bool.false_eq_true, if_false, pure_bind, Bool.not_false, Bool.and_self, if_true]
    refine wpAny_bind ((nsip_K X hs hr).here ?_)
    simp only [if_true]
    refine wpAny_bind (hin.here ?_)
    cases q with
    | true =>
      simp only [Bool.not_true, Bool.false_eq_true, if_false, pure_bind]
      exact fin fun v s' hq => wpAny_pure (wpAny_pure hq)
    | false =>
      simp only [Bool.not_false, if_true]
      refine wpAny_bind (hrr.here ?_)
      exact fin fun v s' hq => wpAny_pure (wpAny_pure hq)
end
section
variable {X : Cx} {W : WX} {e a b : Expr} {w wa wb : WE} {r : WA} {p pos apos : Pos} {x m : Str} {k : Nat} {f : Addr} {fd : FuncData} {ps : List Str} {Wd : WD} {cn : Str}
def eOwn2 (cn : Str) (ok : D → Bool) (Wd : WD) (wa wb : WE) : WE := fun en Q E => wa en (fun x en1 => wb en1 (fun y en2 => match x with
  | .obj c fs => c = cn ∧ ok y = true ∧ Wd [.d (.obj c fs), .d y] en2.b (fun z b' => Q z { en2 with b := b' }) (fun z b' => E z { en2 with b := b' })
  | _ => False) E) E
def eOwn1 (cn : Str) (Wd : WD) (wa : WE) : WE := fun en Q E => wa en (fun x en1 => match x with
  | .obj c fs => c = cn ∧ Wd [.d (.obj c fs)] en1.b (fun z b' => Q z { en1 with b := b' }) (fun z b' => E z { en1 with b := b' })
  | _ => False) E
theorem ep_back {pins : List (Addr × Obj)} {σ : L2.St} {Z : VK} {u : Value} {s' : Shared} (h : EP X pins σ Z u s') : PySem.W.CmpBack (EP X pins σ Z) u s' := by
  obtain ⟨v, H', I', rv, q⟩ := h
  have h2 : EP X pins σ Z u s' := ⟨v, H', I', rv, q⟩
  cases v <;> first | (cases rv; exact h2) | (obtain ⟨t, rfl⟩ := rv; exact h2)
/-- the type of a plain value -/
def tyP : D → Option String
  | .int _ => some "int"
  | .str _ => some "str"
  | .bl _ => some "bool"
  | .non => some "NoneType"
  | _ => none
theorem ty_looks {K : PySem.W.Frag} {G : Hp} {v : V} {u : Value} {y : D} {T : String} {P : Program} {w : World} {h : Heap} (r : Rep K G v y) (rv : RelV v u) (e : tyP y = some T) : PySem.W.Looks (model P w) h (typeOf u) (.type T) := by
  cases r with
  | int i => cases e; obtain ⟨t, rfl⟩ := rv; exact PySem.W.Looks.of_pure rfl
  | str i => cases e; obtain ⟨t, rfl⟩ := rv; exact PySem.W.Looks.of_pure rfl
  | bl i => cases e; cases rv; exact PySem.W.Looks.of_pure rfl
  | non => cases e; cases rv; exact PySem.W.Looks.of_pure rfl
  | _ => cases e
def okT (T : String) (y : D) : Bool := tyP y == some T
/-- own op plain value -/
theorem d_binT {op : Operator} {T : String} {l : List Value} {r : Bool} {rr : Option Value} (ha : DE X W a wa) (hb : DE X W b wb) (hm : Meth X.K (He.ga X.K cn) (PySem.dunder op.info.2) f) (hr : NoAttr X.K (He.ga X.K cn) (dunderR op.info.2)) (sf : PySem.W.selfFirst X.K (He.ga X.K cn) = true) (hl : fastBuiltinMro T = some l)
    (hlc : (l.all fun v => match v with | .type _ => true | _ => false) = true) (hfl : fillsNumberSlot (.type T) op.info.2 = pure r) (hin : numberSlotInPython (.type T) op.info.2 = pure false) (hrr : typeLookup (.type T) (dunderR op.info.2) = pure rr)
    (F : FnOk X.prog X.w X.K X.mg X.base (L2.CX X.prog X.w) k f fd ps (Pr X.K Wd)) (hroom : Room k X.A) (hbd : Binds X.K fd ps []) (tk : Takes X W) : DE X W (.BinOp a op b pos) (eOwn2 cn (okT T) Wd wa wb) := by
  refine ⟨fun pins s σ H Z I h => ?_⟩
  obtain ⟨C, G, en, Q, E, R, xo, q, kk⟩ := h
  refine wpAny_BinOp (binT ha hb I (R := fun x y H2 => ∃ G2 en2 dx dy, Rel X.K C G2 H2 σ en2 ∧ Same G G2 ∧ Rep X.K G2 x dx ∧ Rep X.K G2 y dy ∧ (match dx with
      | .obj c fs => c = cn ∧ okT T dy = true ∧ Wd [.d (.obj c fs), .d dy] en2.b (fun z b' => Q z { en2 with b := b' }) (fun z b' => E z { en2 with b := b' })
      | _ => False)) ?_ fun v u s2 x y H2 I2 rx ry q2 => ?_)
  · refine ⟨C, G, en, _, E, R, xo, q, fun v x G1 H1 en1 R1 s1 r1 q1 => ?_⟩
    exact ⟨C, G1, en1, _, E, R1, xo, q1, fun u y G2 H2 en2 R2 s2 r2 q2 => ⟨G2, en2, x, y, R2, s1.trans s2, r1.mono s2, r2, q2⟩⟩
  · obtain ⟨G2, en2, dx, dy, R2, s2', r1, r2, q2⟩ := q2
    cases r1 with
    | @obj a0 dx0 c0 vs0 xs0 h1 h2 =>
      obtain ⟨ec, ok, q2⟩ := q2
      subst ec
      obtain rfl : v = Value.ref _ := rx
      obtain ⟨mA, J, _⟩ := ins_get I2.hok (R2.sub _ _ h1)
      obtain ⟨od, J, _⟩ := J.look
      have hsub : PySem.W.subIn X.K (.type T) (.ref (He.ga X.K c0)) = some false := by
        show (fastBuiltinMro T).map (fun l => l.contains (Value.ref (He.ga X.K c0))) = some false
        rw [hl]
        show some _ = some false
        congr 1
        show l.contains (Value.ref (He.ga X.K c0)) = false
        rw [List.contains_eq_any_beq, List.any_eq_false]
        intro z hz
        have := List.all_eq_true.mp hlc z hz
        intro q
        rw [← beq_iff_eq.mp q] at this
        exact Bool.false_ne_true this
      have hT : tyP dy = some T := beq_iff_eq.mp ok
      refine binop2_K I2.kIn J (ty_looks r2 ry hT) rfl sf hm.at_ hr hm.fn (PySem.W.Looks.of_pure hfl) (PySem.W.looks_subIn I2.kIn hsub) (PySem.W.Looks.of_pure hin) (PySem.W.Looks.of_pure hrr) ?_
      refine wpAny_mono (run_fnSD (dvs := []) (ds := []) (E := L2.WE W) (Q := Z) (us := [.ref _, u]) (vs := [.ref _, y]) F hroom hbd .nil (passAt tk σ) I2 (.cons rfl (.cons ry .nil)) ?_) (fun _ _ h => ep_back h) fun _ _ h => h
      exact pr_of R2 xo (.cons (argd (Rep.obj h1 h2)) (.cons (argd r2) .nil)) q2 fun v y G' H' en' R' s' r' q' => kk v y G' H' en' R' (s2'.trans s') r' q'
    | _ => exact q2.elim
/-- -own -/
theorem d_negO (ha : DE X W a wa) (hm : Meth X.K (He.ga X.K cn) "__neg__" f) (F : FnOk X.prog X.w X.K X.mg X.base (L2.CX X.prog X.w) k f fd ps (Pr X.K Wd)) (hroom : Room k X.A) (hbd : Binds X.K fd ps []) (tk : Takes X W) : DE X W (.UnaryOp .USub a pos) (eOwn1 cn Wd wa) := by
  refine ⟨fun pins s σ H Z I h => ?_⟩
  obtain ⟨C, G, en, Q, E, R, xo, q, kk⟩ := h
  refine UnaryOp_ (thn (ha.run pins s σ H _ I ⟨C, G, en, _, E, R, xo, q, fun v x G1 H1 en1 R1 s1 r1 q1 => (show (∃ G2 en2 dx, Rel X.K C G2 H1 σ en2 ∧ Same G G2 ∧ Rep X.K G2 v dx ∧ (match dx with
      | .obj c fs => c = cn ∧ Wd [.d (.obj c fs)] en2.b (fun z b' => Q z { en2 with b := b' }) (fun z b' => E z { en2 with b := b' })
      | _ => False)) from ⟨G1, en1, x, R1, s1, r1, q1⟩)⟩) fun v s1 ⟨x, H1, I1, rx, G2, en2, dx, R2, s2', r1, q2⟩ => ?_)
  cases r1 with
  | obj h1 h2 =>
    obtain ⟨rfl, q2⟩ := q2
    obtain rfl : v = Value.ref _ := rx
    obtain ⟨mA, J, _⟩ := ins_get I1.hok (R2.sub _ _ h1)
    obtain ⟨od, J, _⟩ := J.look
    unfold unaryOp
    refine wpAny_holding ?_
    dsimp only
    rw [if_neg (by decide)]
    refine wpAny_bind (PySem.W.special_fn I1.kIn J hm.at_ (beq_iff_eq.mp hm.fn) (wpAny_mono (run_fnSD (dvs := []) (ds := []) (E := L2.WE W) (Q := Z) (us := [.ref _]) (vs := [.ref _]) F hroom hbd .nil (passAt tk σ) I1 (.cons rfl .nil) ?_) (fun _ _ h => wpAny_pure h) fun _ _ h => h))
    exact pr_of R2 xo (.cons (argd (Rep.obj h1 h2)) .nil) q2 fun v y G' H' en' R' s' r' q' => kk v y G' H' en' R' (s2'.trans s') r' q'
  | _ => exact q2.elim
end
end KD

/-! Calls with keywords. -/
namespace KD
open PySem PySem.Spec PyProof.Rows L2 KP
section
variable {X : Cx} {W : WX} {e : Expr} {es : List Expr} {w : WE} {r rk : WA} {p pos kpos : Pos} {x : Str} {k n : Nat} {f : Addr} {fd : FuncData} {ps ks : List Str} {Wd : WD} {kws : List Keyword} {nm : Option Str} {CX : CXT} {sp : Sp} {g : List Value → List Value → List Value} {gV : List V → List V → List V} {E : L2.St → XK}
theorem PK.of {t t' : TA} (h : PK X kws t) (k : ∀ σ H Z, t' σ H Z → t σ H Z) : PK X kws t' := ⟨fun p pins s σ H Q I q => h.run p pins s σ H Q I (k σ H Q q)⟩
end
end KD

/-! enumerate over a tuple. -/
namespace KD
open PySem PySem.Spec PyProof.Rows L2 KP
open AutoSeq1 (wpAny_loadPart')
section
variable {prog : Program} {w : World} {A : Around} {E : Value → Shared → Prop} {s : Shared}
theorem nextOf_tuple_item {it t : Addr} {i : Nat} {items : Array Value} {x : Value} {Q : Value → Shared → Prop} (hit : s.heap.IsTupleIter it t i) (ht : s.heap.IsTuple t items) (hx : items[i]? = some x)
    (hQ : ∀ h', h'.IsTupleIter it t (i + 1) → Heap.SameBut it s.heap h' → Q x { s with heap := h' }) : wpAny (model prog w) A (Builtin.SmallTypes.nextOf (.ref it)) Q E s := by
  obtain ⟨o, ho, hc, hd⟩ := id hit
  obtain ⟨ol, hol, _, nl, hdl⟩ := ht
  unfold Builtin.SmallTypes.nextOf
  refine wpAny_bind (wpAny_callSpecial?_slot (name := Str.ofString "__next__") hit.typeIs slot_tupleiter_next
    (wpAny_call_entry slot_tupleiter_next hit.typeIs entry_tupleiter_next ?_ (args_tupleiter_next _)))
  show wpAny _ _ (field (.ref it) 0 >>= _) _ _ s
  refine wpAny_bind (wpAny_field ho hd (x := .ref t) rfl ?_)
  show wpAny _ _ (if (Value.ref t == Value.none) = true then _ else _) _ _ s
  rw [if_neg (show ¬ ((Value.ref t == Value.none) = true) from Bool.false_ne_true)]
  show wpAny _ _ (field (.ref it) 1 >>= _) _ _ s
  refine wpAny_bind (wpAny_field ho hd (x := .int i 0) rfl ?_)
  show wpAny _ _ (seqItems? (.ref t) >>= _) _ _ s
  refine wpAny_bind (wpAny_seqItems hol hdl ?_)
  simp only [Int.toNat_natCast, hx]
  refine wpAny_bind (wpAny_setField ho hd (by simp) (wpAny_pure ⟨x, rfl, wpAny_pure (hQ _ ?_ (Heap.SameBut.update ..))⟩))
  exact ⟨_, Heap.get?_update_self _ ho (Obj.isFreed_of_fields (Obj.data_mapFields hd _)), (Obj.cls_mapFields ..).trans hc, by
    rw [Obj.data_mapFields hd]; simp [rawInt]⟩
theorem nextOf_tuple_end {it t : Addr} {i : Nat} {items : Array Value} {Q : Value → Shared → Prop} (hh : A.handled = none) (hit : s.heap.IsTupleIter it t i) (ht : s.heap.IsTuple t items) (hx : items[i]? = none)
    (hE : ∀ h' e, Heap.ExtBut it s.heap h' → (∃ o, h'.get? e = some o ∧ o.cls = .type "StopIteration") → E (.ref e) { s with heap := h' }) :
    wpAny (model prog w) A (Builtin.SmallTypes.nextOf (.ref it)) Q E s := by
  obtain ⟨o, ho, hc, hd⟩ := id hit
  obtain ⟨ol, hol, _, nl, hdl⟩ := ht
  unfold Builtin.SmallTypes.nextOf
  refine wpAny_bind (wpAny_callSpecial?_slot (name := Str.ofString "__next__") hit.typeIs slot_tupleiter_next
    (wpAny_call_entry slot_tupleiter_next hit.typeIs entry_tupleiter_next ?_ (args_tupleiter_next _)))
  show wpAny _ _ (field (.ref it) 0 >>= _) _ _ s
  refine wpAny_bind (wpAny_field ho hd (x := .ref t) rfl ?_)
  show wpAny _ _ (if (Value.ref t == Value.none) = true then _ else _) _ _ s
  rw [if_neg (show ¬ ((Value.ref t == Value.none) = true) from Bool.false_ne_true)]
  show wpAny _ _ (field (.ref it) 1 >>= _) _ _ s
  refine wpAny_bind (wpAny_field ho hd (x := .int i 0) rfl ?_)
  show wpAny _ _ (seqItems? (.ref t) >>= _) _ _ s
  refine wpAny_bind (wpAny_seqItems hol hdl ?_)
  simp only [Int.toNat_natCast, hx]
  refine wpAny_bind (wpAny_rule (wpAny_bind (wpAny_setField ho hd (by simp) ?_)))
  show wpAny _ _ (newExc (.type "StopIteration") [] >>= _) _ _ _
  refine wpAny_bind ?_
  simp only [newExc, newTuple]
  refine wpAny_bind (wpAny_newObj_type ?_ (by size_fits))
  refine wpAny_bind (m := firstArgMember _ _) (wpAny_of_eq (a := Value.none) (by first | rfl | (simp only [firstArgMember]; rfl)) ?_)
  refine wpAny_newObj_type ?_ (by size_fits)
  simp only [raiseNew]
  refine wpAny_bind (wpAny_handled ?_)
  first | rw [show A.in1.handled = none from hh] | rw [hh]
  refine wpAny_bind (wpAny_pure (wpAny_throw ?_))
  exact hE _ _ (((Heap.SameBut.update ..).extBut.push _).push _) ⟨_, Heap.get?_push_size _ rfl, rfl⟩
end
theorem drawsTuple {prog : Program} {w : World} {A : Around} (hh : A.handled = none) (it l : Addr) (hne : l ≠ it) (items : Array Value) :
    Draws prog w A it [it, l] items.size (fun i v => items[i]? = some v) (fun i h => h.IsTupleIter it l i ∧ h.IsTuple l items) where
  live := fun _ _ st => let ⟨o, ho, _⟩ := st.1; ⟨o, ho⟩
  frame := fun _ _ _ st hk => ⟨st.1.at fun o e => hk it (by simp) o e, let ⟨o, ho, r⟩ := st.2; ⟨o, hk l (by simp) o ho, r⟩⟩
  item := fun i s Q E hi st hQ => by
    refine nextOf_tuple_item st.1 st.2 (x := items[i]) (by simp [hi]) fun h' hit' hs' => ?_
    exact hQ _ h' s.toks (by simp [hi]) ⟨hit', let ⟨o, ho, r⟩ := st.2; ⟨o, (hs'.2 l hne).trans ho, r⟩⟩ hs'
  done := fun s Q E st hE => nextOf_tuple_end hh st.1 st.2 (by simp) hE
theorem meets_enumerate_newT (l : Addr) (items : Array Value) (n : Nat) (dct : Option Addr) (sl : Array (Option Value)) :
    Meets (Builtin.«enumerate.__new__» ⟨[.type "enumerate", .ref l], []⟩) (fun _ R s => s.heap.get? l = some { cls := .type "tuple", dict := dct, data := .seq items n, slots := sl } ∧
      R (.ok (.ret (.ref (s.heap.push { cls := .type "tuple_iterator", data := .fields #[.ref l, .int 0 0] }).objs.size)))
        { s with heap := (s.heap.push { cls := .type "tuple_iterator", data := .fields #[.ref l, .int 0 0] }).push { cls := .type "enumerate", data := .fields #[.none, .bool false, .ref s.heap.objs.size, rawInt 0, .none, .none] } }) :=
  .of_wp fun prog w A R s h => by
    obtain ⟨hp, g, d, tk, os⟩ := s; obtain ⟨hl, h⟩ := h
    have hsub := sub_enumerate
    have hL : Heap.IsTuple (Shared.heap ⟨hp, g, d, tk, os⟩) l items := ⟨_, hl, rfl, n, rfl⟩
    wp_walk using wpAny_loadPart' hl
    refine wpAny_stack_any fun st => wpAny_pure ?_
    split
    · rename_i c _ _ _ _ _
      cases (c == Value.type "enumerate")
      · wp_walk using wpAny_loadPart' hl, wpAny_pyIter_tuple hL
        exact ⟨_, rfl, h⟩
      · wp_walk using wpAny_loadPart' hl, wpAny_pyIter_tuple hL
        exact ⟨_, rfl, h⟩
    · wp_walk using wpAny_loadPart' hl, wpAny_pyIter_tuple hL
      exact ⟨_, rfl, h⟩
section
variable {prog : Program} {w : World} {A : Around} {E : Value → Shared → Prop} {s : Shared}
theorem call_enumerate_tuple {l : Addr} {items : Array Value} {Q : Value → Shared → Prop} (hL : s.heap.IsTuple l items)
    (h : ∀ h', IsEnum h' (s.heap.objs.size + 1) s.heap.objs.size 0 .none → h'.IsTupleIter s.heap.objs.size l 0 → h'.objs.size = s.heap.objs.size + 2 →
      (∀ b o, s.heap.get? b = some o → h'.get? b = some o) → Q (.ref (s.heap.objs.size + 1)) { s with heap := h' }) :
    wpAny (model prog w) A (call (.type "enumerate") [.ref l]) Q E s := by
  obtain ⟨⟨c, dct, dt, sl⟩, hl, hc, n, hd⟩ := hL
  replace hc : c = .type "tuple" := hc
  replace hd : dt = .seq items n := hd
  subst hc hd
  refine callType_new F.called_enumerate (by decide) (F.typeCall_enumerate_1 _) (F.newCall_enumerate_1 _) (fun obj => F.args_object_init_2 obj _) F.entry_enumerate_new
    (meets_enumerate_newT l items n dct sl) ⟨hl, ?_⟩
  have hz : (s.heap.push { cls := .type "tuple_iterator", data := .fields #[.ref l, .int 0 0] }).objs.size = s.heap.objs.size + 1 := Heap.size_push ..
  show _ ∧ _
  rw [hz]
  have he : IsEnum ((s.heap.push { cls := .type "tuple_iterator", data := .fields #[.ref l, .int 0 0] }).push
      { cls := .type "enumerate", data := .fields #[.none, .bool false, .ref s.heap.objs.size, rawInt 0, .none, .none] }) (s.heap.objs.size + 1) s.heap.objs.size 0 .none := by
    have := Heap.get?_push_size (s.heap.push { cls := .type "tuple_iterator", data := .fields #[.ref l, .int 0 0] })
      (o := { cls := .type "enumerate", data := .fields #[.none, .bool false, .ref s.heap.objs.size, rawInt 0, .none, .none] }) rfl
    rw [hz] at this; exact this
  refine ⟨⟨_, he, rfl⟩, h _ he ⟨_, Heap.get?_push_of_some _ (Heap.get?_push_size _ rfl), rfl, rfl⟩ (by rw [Heap.size_push, hz]) fun b o x => Heap.get?_push_of_some _ (Heap.get?_push_of_some _ x)⟩
end
def IteT (K : PySem.W.Frag) (a : Addr) : It :=
  ⟨fun i H => ∃ (xs : List V) (x : V), SqT K H a xs ∧ xs[i]? = some x, fun i H v H' => ∃ T x, v = .ref T ∧ H T = none ∧ H' = upd H T (.tup [.int (i : Nat), x]) ∧ ∀ xs, SqT K H a xs → xs[i]? = some x, fun i H => ∃ xs : List V, SqT K H a xs ∧ xs.length = i⟩
theorem turn_enumT {P : Program} {w : World} {K : PySem.W.Frag} {elts : List Expr} {kk : Nat} {tpos : Pos} (a e it : Addr) (hai : a ≠ it) (hae : a ≠ e) :
    Turn P w K (.Tuple elts kk tpos) (IteT K a) [e, it] e (fun i h => (∃ old, IsEnum h e it ((i : Nat) : Int) old) ∧ h.IsTupleIter it a i ∧ e ≠ it) where
  mem := by simp
  obj := fun i h st b hb => by
    obtain ⟨⟨old, he⟩, ⟨o, ho, hc, hd⟩, _⟩ := st
    have e' : b = e ∨ b = it := by simpa using hb
    rcases e' with z | z
    · rw [z]; exact ⟨_, he, fun v q => nomatch q⟩
    · rw [z]; exact ⟨o, ho, fun v q => by rw [hd] at q; cases q⟩
  keep := fun i h h' st k => let ⟨⟨old, he⟩, hi, hne⟩ := st; ⟨⟨old, k e (by simp) _ he⟩, hi.at fun o q => k it (by simp) o q, hne⟩
  item := by
    intro X hP hw hK hc i pins s σ H E I hf st hg
    subst hP hw hK
    obtain ⟨⟨old, he⟩, hit, hne⟩ := st
    obtain ⟨xs, x, hq, hx⟩ := hg
    obtain ⟨its, rv, p, hz⟩ := I.tuple hq
    obtain ⟨u, hu, ru⟩ := rv.get hx
    have hel : e < s.heap.objs.size := Heap.lt_size he
    have hil : it < s.heap.objs.size := by obtain ⟨_, q, _⟩ := hit; exact Heap.lt_size q
    have hlt : i < its.toArray.size := by
      have := (List.getElem?_eq_some_iff.mp hu).1
      simpa using this
    refine wpAny_pyNext_enum_itemD (drawsTuple (A := X.A.in1) (I.ok.hd hc) it a hai its.toArray) he ⟨hit, p⟩ hlt hne (by simp [hne, Ne.symm hae]) fun u' h' tk hPx ho hst' hT hsz hk => ?_
    obtain rfl : u' = u := by
      have : its[i]? = some u' := by simpa using hPx
      rw [hu] at this; cases this; rfl
    refine ⟨_, rfl, wpAny_letOwnedTupleGo_enum (s := { s with heap := h', toks := tk + 1 }) ho fun h'' he' sb => ?_⟩
    have hT2 : h''.get? s.heap.objs.size = some { cls := .type "tuple", data := .seq #[.int i tk, u'] } := (sb.2 _ (Nat.ne_of_gt hel)).trans hT
    have new : ObjOk X.prog X.w (upd H s.heap.objs.size (.tup [.int (i : Nat), x])) h'' s.heap.objs.size (.tup [.int (i : Nat), x]) :=
      ⟨by show 2 ≤ sizeLine; decide, [.int i tk, u'], .cons ⟨_, rfl⟩ (.cons ru .nil), ⟨_, hT2, rfl, _, rfl⟩⟩
    have I1 : Inv X pins σ (upd H s.heap.objs.size (.tup [.int (i : Nat), x])) { s with heap := h'', toks := tk + 1 } :=
      I.turnedNew (ch := [e, it]) (fun b ob hb q => (sb.2 b (fun z => hb (by simp [z]))).trans (hk b ob (fun z => hb (by simp [z])) (fun z => hb (by simp [z])) q)) hf (Nat.le_refl _) new
    refine ⟨.ref s.heap.objs.size, _, I1, rfl, ⟨_, x, rfl, I.hok.fresh (Nat.le_refl _), rfl, fun ys hy => by rw [I.tuple_inj hy hq]; exact hx⟩, ⟨⟨u', ?_⟩, hst'.1.at fun o q => (sb.2 it (Ne.symm hne)).trans q, hne⟩, fun b hb => ?_⟩
    · have e1 : ((i + 1 : Nat) : Int) = (i : Int) + 1 := by omega
      rw [e1]; exact he'
    · have hb' : b < s.heap.objs.size := by
        have e' : b = e ∨ b = it := by simpa using hb
        rcases e' with z | z
        · rw [z]; exact hel
        · rw [z]; exact hil
      rw [upd_ne (Nat.ne_of_lt hb')]
      exact (hf b hb).1
  done := by
    intro X hP hw hK hc i pins s σ H E I hf st hg
    subst hP hw hK
    obtain ⟨⟨old, he⟩, hit, hne⟩ := st
    obtain ⟨xs, hq, hx⟩ := hg
    obtain ⟨its, rv, p, hz⟩ := I.tuple hq
    obtain ⟨f0, f1, f2, f3, f4, f5⟩ := hf it (by simp)
    have hl := rv.length
    have hn : its.toArray.size = i := by simp; omega
    exact wpAny_pyNext_enum_endD (drawsTuple (A := X.A.in1) (I.ok.hd hc) it a hai its.toArray) he (by rw [hn]; exact ⟨hit, p⟩) fun h' eb => ⟨rfl, I.turned (t' := s.toks) (fun b o hb q => eb b o hb q) f0 f1 f3 f4 f5⟩
  self := fun A i s Q E st h => let ⟨⟨_, he⟩, _⟩ := st; wpAny_pyIter_enum he h
def iEnumT (K : PySem.W.Frag) (ta : TA) : TI := fun σ H R => ta σ H fun vs H1 => ∃ a xs, vs = [.ref a] ∧ SqT K H1 a xs ∧ R (IteT K a) H1
theorem pi_enumT {X : Cx} {e : Expr} {ta : TA} {p pos tpos : Pos} {elts : List Expr} {kk : Nat} (hg : Gl X "enumerate") (hm : X.mg "enumerate" = none) (ha : PA X [e] ta) (hs : starEach [e] X.env = [(false, eval e X.env)] := by rfl) :
    PI X (.Tuple elts kk tpos) (.Call (.Name "enumerate" p) [e] [] pos) (iEnumT X.K ta) := by
  refine ⟨fun pins s σ H R I h => ?_⟩
  refine Call_ (ld_blt I hg hm boot_enumerate (PyProof.Rows.callWith_type1 (thn (ha.run pos pins s σ H _ I h) fun us s1 ⟨vs, H1, I1, r1, q1⟩ => ?_) hs rfl))
  obtain ⟨a, xs, ex, hq, q⟩ := q1
  subst ex
  cases r1 with
  | cons r rr =>
    cases rr
    cases r
    obtain ⟨its, rv, p', hz⟩ := I1.tuple hq
    have hal : a < s1.heap.objs.size := by obtain ⟨o, ho, _⟩ := p'; exact Heap.lt_size ho
    refine call_enumerate_tuple p' fun h' he hit hsz hk => wpAny_pyIter_enum he ?_
    have I2 : Inv X pins σ H1 { s1 with heap := h' } := I1.kept (t' := s1.toks) hk
    refine ⟨s1.heap.objs.size + 1, [s1.heap.objs.size + 1, s1.heap.objs.size], _, _, H1, rfl, I2, turn_enumT a (s1.heap.objs.size + 1) s1.heap.objs.size (Nat.ne_of_lt hal) (Nat.ne_of_lt (Nat.lt_succ_of_lt hal)), ⟨⟨.none, he⟩, hit, Nat.succ_ne_self _⟩, fun b hb => ?_, q⟩
    have e' : b = s1.heap.objs.size + 1 ∨ b = s1.heap.objs.size := by simpa using hb
    have hle : s1.heap.objs.size ≤ b := by
      rcases e' with z | z
      · rw [z]; exact Nat.le_add_right _ _
      · rw [z]; exact Nat.le_refl _
    exact I1.fpOk hle (I1.hok.fresh hle)
def iEnT (r : WA) : WI := fun en Q E => aD r en (fun xs en1 => match xs with | [.tup ys] => Q (pairs ys) en1 | _ => False) E
theorem goes_enumT {hk : Hp} {K : PySem.W.Frag} {G : Hp} {a : Addr} {vs : List V} {xs : List D} (h : SqT K G a vs) (r : Reps K G vs xs) : Goes K hk (IteT K a) (pairs xs) G := fun G1 H1 s1 s2 _ => by
  have hl : SqT K H1 a vs := Same.tup (s1.trans s2) h
  refine ⟨fun i x hx => ?_, vs, hl, by rw [r.length, pairs_length]⟩
  obtain ⟨y, hy, rfl⟩ := pairs_get hx
  obtain ⟨v, hv, rv⟩ := r.at hy
  refine ⟨⟨vs, v, hl, hv⟩, fun u H2 ⟨T, x', e1, n, e2, hy⟩ => ?_⟩
  have := hy vs hl
  rw [hv] at this; cases this
  subst e1; subst e2
  have g := Gr.new1 (o := .tup [.int (i : Nat), v]) s2 n
  exact ⟨_, g, .tup (SqT.of upd_same) (.cons (.int _) (.cons ((rv.mono s1).mono g.gg) .nil))⟩
theorem di_enT {X : Cx} {W : WX} {e tg : Expr} {r : WA} (h : PI X tg e (iEnumT X.K (RlA X.K W r))) : DI X W tg e (iEnT r) := PI.of h fun σ H R ⟨C, G, en, Q, E, R0, xo, q, k⟩ => by
  refine rla R0 xo q fun vs xs G1 H1 en1 R1 s1 rr q1 => ?_
  split at q1
  · obtain ⟨v, rfl, rv⟩ := reps1 rr
    cases rv with
    | tup h1 h2 => exact ⟨_, _, rfl, Same.tup R1.sub h1, k _ _ G1 H1 en1 R1 s1 (goes_enumT h1 h2) q1⟩
  · exact q1.elim
end KD

/-! Star parameters of an __init__, star arguments. -/
namespace KD
open PySem PySem.Spec PyProof.Rows L2 KP
section
variable {M : Model} {A : Around} {E : Value → Shared → Prop} {s : Shared}
end
/-- n parameters, then a star parameter -/
def starN (n : Nat) (W : WN) : WN := fun bs b Q E => n ≤ bs.length ∧ match allD (bs.drop n) with
  | some xs => xs.length ≤ 100000 ∧ W (bs.take n ++ [.d (.tup xs)]) b Q E
  | none => False
section
variable {P : Program} {w : World} {K : PySem.W.Frag} {mg : Str → Option Value} {base : Heap} {x qual : Str} {params : Arguments} {body : List Stmt} {scope : Scope} {dvs : List V} {kws : List (Str × V)} {f : Addr} {fd : FuncData} {k : Nat}
theorem ArgsR.take {C : Ctx} {G : Hp} : ∀ (n : Nat) {vs : List V} {bs : List B}, ArgsR K C G vs bs → ArgsR K C G (vs.take n) (bs.take n)
  | 0, _, _, _ => by simp; exact .nil
  | _ + 1, _, _, .nil => .nil
  | n + 1, _, _, .cons h r => .cons h (ArgsR.take n r)
theorem ArgsR.drop {C : Ctx} {G : Hp} : ∀ (n : Nat) {vs : List V} {bs : List B}, ArgsR K C G vs bs → ArgsR K C G (vs.drop n) (bs.drop n)
  | 0, _, _, r => r
  | _ + 1, _, _, .nil => .nil
  | n + 1, _, _, .cons _ r => ArgsR.drop n r
theorem Fr.after {π : Option Pid} {μ : List Addr} {G H G1 H1 G2 H2 : Hp} {b : Int} (g : Gr G H G1 H1) (y : Fr K π μ G1 H1 G2 H2 b) (hp : ∀ p, π = some p → H p.a ≠ none) : Fr K π μ G H G2 H2 b := by
  refine ⟨g.gg.trans y.gg, y.sub, fun a h gn => ?_, fun a o h nt n m => y.keep a o (g.hh a o h) nt n m, (TbE.same g.hh).trans y.tab, g.nt.trans y.nt, y.pen, y.slf⟩
  cases q : G1 a with
  | some o => exact .inl (g.new a (by rw [q]; exact fun z => nomatch z) gn)
  | none =>
    rcases y.new a h q with z | ⟨u, z, m⟩
    · cases r : H a with
      | none => exact .inl r
      | some o => rw [g.hh a o r] at z; cases z
    · cases r : H a with
      | none => exact .inl r
      | some o => rw [g.hh a o r] at z; cases z; exact .inr ⟨_, r, m⟩
theorem init_okS {N ps : List Str} {pv : Str} {wb : WS} {cn : Str} (F : FunD K x qual params body scope dvs kws f fd) (S : FnScope N (ps ++ [pv]) scope)
    (hb : ∀ us rest : List Value, us.length = ps.length → bindArgs fd ⟨us ++ rest, []⟩ = (newTuple rest >>= fun t => pure (ps.zip us ++ [(pv, t)])))
    (hps : 0 < ps.length)
    (hbody : ∀ (cdv : Value) (A : Around) (outer : List Env) (s : Shared) (H : Hp) (E : XK), Room k (A.deeper (envOfC qual scope s.heap.objs.size f cdv)) →
      Takes (cxOf (L2.CX P w) P w K mg base N qual scope f cdv A outer s H E) (fun cls d _ H => E cls d H) →
      DSs (cxOf (L2.CX P w) P w K mg base N qual scope f cdv A outer s H E) (fun cls d _ H => E cls d H) body wb) : FnR P w K mg base (L2.CX P w) (k + 1) f (PrI K cn (starN (ps.length - 1) (runN cn (ps.length + 1) N.length wb))) := by
  obtain ⟨oc, od, dV, kV, doc, pmv, an, cdv, ct, osl, e, lk, hcd, _, _⟩ := F.ex
  subst e
  refine FnR.imp (StX.fn_star (sp := PrI K cn (runN cn (ps.length + 1) N.length wb)) lk hcd S StX.cxUp hb fun A outer s H vs Z E hr ⟨π, G, b, bs, Q, EQ, a, dx, us, ev, sg, hp, ar, ha, ga, np, wq, kq, ke⟩ => ?_) fun vs H Z E ⟨π, G, b, bs, Q, EQ, a, dx, us, ev, sg, hp, ar, ha, ga, np, wq, kq, ke⟩ => ?_
  · subst ev
    have fin : ∀ {G' H' : Hp} {σ : L2.St} {en : En}, Rel K ⟨π, [a], G, fun _ => none, G, H⟩ G' H' σ en → (slfF cn en fun fs => Q fs en.b) → Z .non H' := fun {G' H' σ en} R q => by
      unfold slfF at q
      split at q
      · rename_i c fs e
        obtain ⟨v, e1, a', dx', vs', m, e2, h1, h2, r⟩ := R.var e
        cases m; cases e2
        obtain ⟨rfl, q⟩ := q
        exact kq G' H' en.b dx' vs' fs R.fr h1 r q
      · exact q.elim
    refine ⟨_, hbody cdv A outer s H E hr (takes_of rfl rfl rfl rfl), ⟨⟨π, [a], G, fun _ => none, G, H⟩, G, _, _, Rel.startI sg hp ar N.length ha ga np, fun y en σ G' H' cls od R rx q => ke cls od y G' H' en.b R.fr rx q, wq.2, ⟨fun G' H' σ en R q => fin R q, fun v y G' H' σ en R r q => ?_, fun _ _ _ _ _ q => q.elim, fun _ _ _ _ _ q => q.elim, fun _ _ _ _ _ _ _ _ _ _ _ q => q.elim⟩⟩⟩
    obtain ⟨rfl, q⟩ := q
    cases r
    exact fin R q
  · subst ev
    obtain ⟨hn, wq⟩ := wq
    split at wq
    · rename_i xs e
      have rx := (ar.drop (ps.length - 1)).reps e
      have ln := ar.length
      refine ⟨.ref a :: us.take (ps.length - 1), us.drop (ps.length - 1), by simp, by simp; omega, by rw [rx.length]; exact sz5 wq.1, fun p np' => ?_⟩
      have g := Gr.new1 (o := .tup (us.drop (ps.length - 1))) sg np'
      have nap : a ≠ p := ne_of_none ha np'
      have nph : ∀ q, π = some q → H q.a ≠ none := fun q e z => by
        obtain ⟨kvs, e'⟩ := (hp.1 q e).1.is_
        rw [z] at e'; cases e'
      refine ⟨π, _, b, _, Q, EQ, a, dx, us.take (ps.length - 1) ++ [.ref p], rfl, g.sub, ⟨fun q e => ⟨(hp.1 q e).1.same g.hh, by rw [upd_ne (fun z => nph q e (by rw [z]; exact np'))]; exact (hp.1 q e).2⟩, hp.2.1.same g.hh, fun a ps e => hp.2.2 a ps (g.nt a ps e)⟩, (ArgsR.mono g.gg (ar.take (ps.length - 1))).append (.cons (argd (Rep.tup (SqT.of upd_same) (rx.mono g.gg))) .nil), g.hh _ _ ha, by rw [upd_ne nap]; exact ga, np, wq.2, fun G' H' b' dx' vs' fs fr ha' rf q => ?_, fun cls od y G' H' b' fr rx' q => ?_⟩
      · exact kq G' H' b' dx' vs' fs (Fr.after g fr nph) ha' rf q
      · exact ke cls od y G' H' b' (Fr.after g fr nph) rx' q
    · exact wq.elim
end
section
variable {X : Cx} {W : WX} {e o : Expr} {es : List Expr} {w : WE} {r : WA} {p pos apos sp_ : Pos} {x m cn : Str} {k : Nat} {f : Addr} {Wn : WN}
theorem run_makeRS {C : Addr} {CX : CXT} {sp : Sp} {E : XK} {pins : List (Addr × Obj)} {σ : L2.St} {H : Hp} {s : Shared} {Q : VK} {us : List Value} {vs : List V} (M : Mk X.K C f) (F : FnR X.prog X.w X.K X.mg X.base CX k f sp) (hr : Room (k + 1) X.A) (hx : PassesAt CX X σ E) (I : Inv X pins σ H s) (r : Vals vs us)
    (h : ∀ x dx, H x = none → H dx = none → dx ≠ x → sp (.ref x :: vs) (upd (upd H dx (.own x)) x (.ins C dx [])) (fun v H2 => v = .non ∧ Q (.ref x) H2) E) :
    wpAny (model X.prog X.w) X.A (call (.ref C) us) (EP X pins σ Q) X.xe s := by
  have hq := h (s.heap.objs.size + 1) s.heap.objs.size (I.hok.fresh (Nat.le_succ _)) (I.hok.fresh (Nat.le_refl _)) (Nat.ne_of_lt (Nat.lt_succ_self _))
  have I2 := Inv.made (C := C) I
  have r2 : Vals (V.ref (s.heap.objs.size + 1) :: vs) (Value.ref (s.heap.objs.size + 1) :: us) := .cons rfl r
  refine wpAny_call (make_map (f := f) I.kIn M.makes M.init (beq_iff_eq.mp M.fn) (codeAny_mono (F _ X.stack _ _ (Value.ref (s.heap.objs.size + 1) :: us) _ _ E (hr.make C us []) (I2.env0.make C us []) r2 hq) fun r s' hq' => ?_))
  cases r with
  | error e => exact hx pins _ _ e s' I2 hq'
  | ok fl =>
    cases fl with
    | ret u =>
      obtain ⟨v, H', I3, rv, ev, q3⟩ := I2.after hq'
      subst ev
      exact ⟨rv, ⟨V.ref (s.heap.objs.size + 1), H', I3, rfl, q3⟩⟩
    | next => exact False.elim hq'
    | brk => exact False.elim hq'
    | cont => exact False.elim hq'
end
end KD

/-! isinstance of own classes; dicts of one's own, dict comprehensions. -/
namespace KD
open PySem PySem.Spec PyProof.Rows L2 KP
/-! ### isinstance -/
def tyL : List String := ["NoneType", "bool", "int", "str", "list", "tuple", "dict"]
theorem tn_mem {x : D} {t : String} (e : x.tn = some t) : t ∈ tyL := by
  cases x <;> first | (cases e; decide) | cases e
theorem sub_no {K : PySem.W.Frag} {C : Addr} {t : String} (h : t ∈ tyL) : PySem.W.subIn K (.type t) (.ref C) = some false := by
  have key : ∀ t ∈ tyL, ∃ l, fastBuiltinMro t = some l ∧ (l.all fun v => match v with | .type _ => true | _ => false) = true := by
    intro t ht
    simp only [tyL, List.mem_cons, List.mem_nil_iff, or_false] at ht
    rcases ht with rfl | rfl | rfl | rfl | rfl | rfl | rfl <;> exact ⟨_, rfl, by decide +kernel⟩
  obtain ⟨l, hl, hlc⟩ := key t h
  show (fastBuiltinMro t).map (fun l => l.contains (Value.ref C)) = some false
  rw [hl]
  show some _ = some false
  congr 1
  show l.contains (Value.ref C) = false
  rw [List.contains_eq_any_beq, List.any_eq_false]
  intro z hz
  have := List.all_eq_true.mp hlc z hz
  intro q
  rw [← beq_iff_eq.mp q] at this
  exact Bool.false_ne_true this
/-- isinstance(x, C): others: classes that are not below C -/
@[irreducible] def oIsiC (cn : Str) (others : List Str) : OC := fun xs Q => match xs with
  | [.obj c _, .cls d] => d = cn ∧ ((c = cn ∧ Q (.bl true)) ∨ (c ∈ others ∧ Q (.bl false)))
  | [x, .cls d] => d = cn ∧ x.tn.isSome = true ∧ Q (.bl false)
  | _ => False
theorem call_isiC {X : Cx} {cn : Str} {others : List Str} (c : Cls X.K (He.ga X.K cn)) (i : IsC X.K (He.ga X.K cn)) (ho : ∀ d ∈ others, Cls X.K (He.ga X.K d) ∧ IsC X.K (He.ga X.K d) ∧ PySem.W.subIn X.K (.ref (He.ga X.K d)) (.ref (He.ga X.K cn)) = some false ∧ (Value.ref (He.ga X.K d) == Value.ref (He.ga X.K cn)) = false) : CallD X (.builtin "isinstance") (oIsiC cn others) := ⟨_, call_isi, fun G H vs xs Q Z s r q k => by
  unfold oIsiC at q
  split at q
  · obtain ⟨v, u, rfl, rv, ru⟩ := reps2 r
    cases ru
    obtain ⟨rfl, q⟩ := q
    cases rv with
    | obj h1 h2 =>
      rcases q with ⟨rfl, q⟩ | ⟨hm, q⟩
      · exact ⟨_, _, _, _, true, rfl, .own _, .base (.ins (s _ _ h1) c i.ha i.hn i.htk i.hm), by unfold PySem.W.kitOne; rw [if_pos (beq_self_eq_true _)], k _ _ G H (Gr.refl s) (.bl _) q⟩
      · obtain ⟨c', i', hs, hne⟩ := ho _ hm
        refine ⟨_, _, _, _, false, rfl, .own _, .base (.ins (s _ _ h1) c' i'.ha i'.hn i'.htk i'.hm), ?_, k _ _ G H (Gr.refl s) (.bl _) q⟩
        unfold PySem.W.kitOne
        rw [if_neg (by rw [hne]; exact Bool.false_ne_true)]
        show (if _ then _ else _) = _
        rw [if_pos i.ic]; exact hs
  · obtain ⟨v, u, rfl, rv, ru⟩ := reps2 r
    cases ru
    obtain ⟨rfl, ht, q⟩ := q
    obtain ⟨t, et⟩ := Option.isSome_iff_exists.mp ht
    refine ⟨_, _, _, _, false, rfl, .own _, (rv.toH s).tyx et, ?_, k _ _ G H (Gr.refl s) (.bl _) q⟩
    unfold PySem.W.kitOne
    rw [if_neg (show ¬ ((Value.type t == Value.ref (He.ga X.K _)) = true) from Bool.false_ne_true)]
    show (if _ then _ else _) = _
    rw [if_pos i.ic]; exact sub_no (tn_mem et)
  · exact q.elim⟩
/-! ### dicts of one's own -/
def putD {κ : Type} [DecidableEq κ] (kvs : List (κ × D)) (k : κ) (v : D) : List (κ × D) :=
  if (kvs.any fun kv => decide (kv.1 = k)) = true then kvs.map (fun kv => if kv.1 = k then (kv.1, v) else kv) else kvs ++ [(k, v)]
def dropD {κ : Type} [DecidableEq κ] (kvs : List (κ × D)) (k : κ) : List (κ × D) := kvs.filter fun kv => decide (kv.1 ≠ k)
section
variable {K : PySem.W.Frag} {G H : Hp}
theorem RepK.any {k : Key} : ∀ {vs : List (Key × V)} {xs : List (Key × D)}, RepK K G vs xs → (vs.any fun kv => decide (kv.1 = k)) = (xs.any fun kv => decide (kv.1 = k))
  | _, _, .nil => rfl
  | _, _, .cons _ r => by rw [List.any_cons, List.any_cons, RepK.any r]
theorem RepK.snoc {k : Key} {v : V} {x : D} (h : Rep K G v x) : ∀ {vs : List (Key × V)} {xs : List (Key × D)}, RepK K G vs xs → RepK K G (vs ++ [(k, v)]) (xs ++ [(k, x)])
  | _, _, .nil => .cons h .nil
  | _, _, .cons h0 r => .cons h0 (RepK.snoc h r)
theorem RepK.mapK {k : Key} {v : V} {x : D} (h : Rep K G v x) : ∀ {vs : List (Key × V)} {xs : List (Key × D)}, RepK K G vs xs → RepK K G (vs.map fun kv => if kv.1 = k then (kv.1, v) else kv) (xs.map fun kv => if kv.1 = k then (kv.1, x) else kv)
  | _, _, .nil => .nil
  | _, _, .cons (k := k0) h0 r => by
    rw [List.map_cons, List.map_cons]
    by_cases e : k0 = k
    · rw [if_pos e, if_pos e]; exact .cons h (RepK.mapK h r)
    · rw [if_neg e, if_neg e]; exact .cons h0 (RepK.mapK h r)
theorem RepK.put {k : Key} {v : V} {x : D} {vs : List (Key × V)} {xs : List (Key × D)} (h : Rep K G v x) (r : RepK K G vs xs) : RepK K G (putK vs k v) (putD xs k x) := by
  unfold putK putD
  rw [r.any (k := k)]
  split
  · exact r.mapK h
  · exact r.snoc h
theorem RepK.drop {k : Key} : ∀ {vs : List (Key × V)} {xs : List (Key × D)}, RepK K G vs xs → RepK K G (dropK vs k) (dropD xs k)
  | _, _, .nil => .nil
  | _, _, .cons (k := k0) h r => by
    unfold dropK dropD
    rw [List.filter_cons, List.filter_cons]
    by_cases e : k0 = k
    · rw [if_neg (by simp [e]), if_neg (by simp [e])]; exact RepK.drop r
    · rw [if_pos (by simp [e]), if_pos (by simp [e])]; exact .cons h (RepK.drop r)
theorem RepT.any {k : List Key} : ∀ {vs : List (List Key × V)} {xs : List (List Key × D)}, RepT K G vs xs → (vs.any fun kv => decide (kv.1 = k)) = (xs.any fun kv => decide (kv.1 = k))
  | _, _, .nil => rfl
  | _, _, .cons _ r => by rw [List.any_cons, List.any_cons, RepT.any r]
theorem RepT.snoc {k : List Key} {v : V} {x : D} (h : Rep K G v x) : ∀ {vs : List (List Key × V)} {xs : List (List Key × D)}, RepT K G vs xs → RepT K G (vs ++ [(k, v)]) (xs ++ [(k, x)])
  | _, _, .nil => .cons h .nil
  | _, _, .cons h0 r => .cons h0 (RepT.snoc h r)
theorem RepT.mapK {k : List Key} {v : V} {x : D} (h : Rep K G v x) : ∀ {vs : List (List Key × V)} {xs : List (List Key × D)}, RepT K G vs xs → RepT K G (vs.map fun kv => if kv.1 = k then (kv.1, v) else kv) (xs.map fun kv => if kv.1 = k then (kv.1, x) else kv)
  | _, _, .nil => .nil
  | _, _, .cons (k := k0) h0 r => by
    rw [List.map_cons, List.map_cons]
    by_cases e : k0 = k
    · rw [if_pos e, if_pos e]; exact .cons h (RepT.mapK h r)
    · rw [if_neg e, if_neg e]; exact .cons h0 (RepT.mapK h r)
theorem RepT.put {k : List Key} {v : V} {x : D} {vs : List (List Key × V)} {xs : List (List Key × D)} (h : Rep K G v x) (r : RepT K G vs xs) : RepT K G (putK vs k v) (putD xs k x) := by
  unfold putK putD
  rw [r.any (k := k)]
  split
  · exact r.mapK h
  · exact r.snoc h
theorem RepT.length : ∀ {vs : List (List Key × V)} {xs : List (List Key × D)}, RepT K G vs xs → vs.length = xs.length
  | _, _, .nil => rfl
  | _, _, .cons _ r => by simp [RepT.length r]
end
/-! ### dict comprehensions -/
def dcGo (g : WG) (tt : WT) (tk tv : WE) (vs : List Nat) (Q : List (Key × D) → En → Prop) : List D → List (Key × D) → En → Prop
  | [], acc, en => Q acc en
  | x :: xs, acc, en => g x en (fun en1 => tt en1 (fun c en2 => if c = true then tk en2 (fun y en3 => tv en3 (fun z en4 => match keyD y with
      | some k => acc.length < 100000 ∧ dcGo g tt tk tv vs Q xs (putD acc k z) (wipeE en4 vs)
      | none => False) noE) noE else dcGo g tt tk tv vs Q xs acc (wipeE en2 vs)) noE)
abbrev WFK := En → (List (Key × D) → En → Prop) → EK → Prop
def fDc (wi : WI) (g : WG) (tt : WT) (tk tv : WE) (vs : List Nat) : WFK := fun en Q E => wi en (fun xs en1 => dcGo g tt tk tv vs Q xs [] (wipeE en1 vs)) E
/-- a new dict that no name has -/
def RlFK (K : PySem.W.Frag) (W : WX) (w : WFK) : TE := fun σ H Z => ∃ C G en Q E, Rel K C G H σ en ∧ XOk K W C E ∧ w en Q E ∧
  ∀ a vs xs G' H' en', Rel K C G' H' σ en' → Same G G' → H' a = some (.dK vs) → Nw C G' H' σ en' a → RepK K G' vs xs → Q xs en' → Z (.ref a) H'
def eFK (w : WFK) : WE := fun en Q E => w en (fun xs en1 => Q (.dic xs) en1) E
section
variable {W : WX} {J : It} {n : Nat} {g : TG} {tt : TT} {tk tv : TE} {vs : List Nat} {σ : L2.St} {H H1 : Hp} {Dl : Addr} {Qd : Hp → Prop}
theorem dc_by (Pv : Nat → Hp → Prop) (h0 : Pv 0 (upd H1 Dl (.dK []))) (hgo : ∀ i H, i < n → Pv i H → J.go i H) (hst : ∀ H, Pv n H → J.stop n H)
    (hs : ∀ i H x H', i < n → Pv i H → J.yld i H x H' → g x (L2.wipe σ vs) H' fun σ2 H2 => L2.wipe σ2 vs = L2.wipe σ vs ∧ tt σ2 H2 fun b H3 => if b = true then tk σ2 H3 fun y H4 => tv σ2 H4 fun z H5 => ∃ kvs k, y = kV k ∧ H5 Dl = some (.dK kvs) ∧ kvs.length < sizeLine ∧ Pv (i + 1) (upd H5 Dl (.dK (putK kvs k z))) else Pv (i + 1) H3)
    (hd : ∀ H, Pv n H → Qd H) : ∃ W : Nat → Nat → Hp → Prop, (∃ m, W 0 m (upd H1 Dl (.dK []))) ∧ ∀ i m H, W i m H → (J.stop i H ∧ Qd H) ∨ (J.go i H ∧ ∃ Nx : Hp → Prop, (∀ H', Nx H' → ∃ m', m' < m ∧ W (i + 1) m' H') ∧
      ∀ x H', J.yld i H x H' → g x (L2.wipe σ vs) H' fun σ2 H2 => L2.wipe σ2 vs = L2.wipe σ vs ∧ tt σ2 H2 fun b H3 => if b = true then tk σ2 H3 fun y H4 => tv σ2 H4 fun z H5 => ∃ kvs k, y = kV k ∧ H5 Dl = some (.dK kvs) ∧ kvs.length < sizeLine ∧ Nx (upd H5 Dl (.dK (putK kvs k z))) else Nx H3) := by
  refine ⟨fun i m H => m = n - i ∧ i ≤ n ∧ Pv i H, ⟨n, by omega, Nat.zero_le _, h0⟩, fun i m H ⟨hm, hi, pv⟩ => ?_⟩
  by_cases lt : i < n
  · exact .inr ⟨hgo i H lt pv, Pv (i + 1), fun H' z => ⟨n - (i + 1), by omega, rfl, lt, z⟩, fun x H' y => hs i H x H' lt pv y⟩
  · have e : i = n := by omega
    subst e
    exact .inl ⟨hst H pv, hd H pv⟩
theorem rlf_dc {K : PySem.W.Frag} {wi : WI} {g : WG} {tt : WT} {tk tv : WE} {vs : List Nat} {σ : L2.St} {H : Hp} {Z : VK} (h : RlFK K W (fDc wi g tt tk tv vs) σ H Z) :
    tDc (RlI K W wi) (RlG K vs g) (RlT K (fun _ _ _ _ => False) tt) (Rl K (fun _ _ _ _ => False) tk) (Rl K (fun _ _ _ _ => False) tv) vs σ H Z := by
  obtain ⟨C0, G, en, Q, E, R, xo0, q, k⟩ := h
  refine ⟨C0, G, en, _, E, R, xo0, q, fun J xs G1 H1 en1 R1' s1 go q1 Dl nD => ?_⟩
  have xw : ∀ C : Ctx, XOk K (fun _ _ _ _ => False) C noE := fun C _ _ _ _ _ _ _ _ _ z => z
  have hk0 := R1'.hk0 nD
  have h00 := R1'.H0 nD
  have R1 := ((R1'.newH (o := .dK []) nD).wipe vs).anchor
  have ha : ∀ G H σ en, Rel K { C0 with an := G1 } G H σ en → Same G1 G := fun _ _ _ _ R => R.anc
  have hh : ∀ G H σ en, Rel K { C0 with an := G1 } G H σ en → Same C0.hk H := fun _ _ _ _ R a o h => (R.hkk a o h).1
  have hw : ∀ {G H σ en}, Rel K { C0 with an := G1 } G H σ en → Rel K C0 G H σ en := fun R => R.weak R1'.anc
  have e1 : ({ C0 with an := G1 } : Ctx).H0 Dl = none := h00
  have e2 : ({ C0 with an := G1 } : Ctx).hk Dl = none := hk0
  generalize { C0 with an := G1 } = C at R1 ha hw e1 e2 hh
  refine dc_by (n := xs.length) (fun i H => ∃ G2 en2 vacc acc, Rel K C G2 H (L2.wipe σ vs) en2 ∧ H Dl = some (.dK vacc) ∧ Nw C G2 H (L2.wipe σ vs) en2 Dl ∧ RepK K G2 vacc acc ∧ (∀ i ∈ vs, en2.sl[i]? = some none ∨ en2.sl[i]? = none) ∧ dcGo g tt tk tv vs Q (xs.drop i) acc en2)
    ⟨G1, _, [], [], R1, upd_same, ⟨R1'.sub.free nD, e1, freeW (R1'.freeN nD), e2⟩, .nil, fun i hi => wipeE_none hi, q1⟩ (fun i H2 hi ⟨G2, en2, vacc, acc, R2, _⟩ => ?_) (fun H2 ⟨G2, en2, vacc, acc, R2, _⟩ => ?_) (fun i H2 v H3 hi ⟨G2, en2, vacc, acc, R2, hd, nw, rp, en0, q2⟩ hy => ?_) fun H2 ⟨G2, en2, vacc, acc, R2, hd, nw, rp, en0, q2⟩ => ?_
  · exact ((go G2 H2 (ha _ _ _ _ R2) R2.sub (hh _ _ _ _ R2)).1 i _ (List.getElem?_eq_getElem hi)).1
  · exact (go G2 H2 (ha _ _ _ _ R2) R2.sub (hh _ _ _ _ R2)).2
  · obtain ⟨G3, g3, r3⟩ := ((go G2 H2 (ha _ _ _ _ R2) R2.sub (hh _ _ _ _ R2)).1 i _ (List.getElem?_eq_getElem hi)).2 v H3 hy
    rw [List.drop_eq_getElem_cons hi] at q2
    have R3 := (R2.hold hd rfl nw.1 (.inr nw.2.1) nw.2.2.1).grow g3
    refine ⟨_, G3, en2, _, _, R3, r3, q2, fun G4 H4 σ4 en4 R4 s4 t4 q4 => ⟨(wipe_eq t4).trans wipe_wipe, ?_⟩⟩
    refine ⟨_, G4, en4, _, _, R4, xw _, q4, fun c G5 H5 en5 R5 s5 q5 => ?_⟩
    have wσ : L2.wipe σ4 vs = L2.wipe σ vs := (wipe_eq t4).trans wipe_wipe
    cases c with
    | true =>
      rw [if_pos rfl] at q5
      refine iteT ?_
      refine ⟨_, G5, en5, _, _, R5, xw _, q5, fun y x G6 H6 en6 R6 s6 r6 q6 => ?_⟩
      refine ⟨_, G6, en6, _, _, R6, xw _, q6, fun y2 x2 G7 H7 en7 R7 s7 r7 q7 => ?_⟩
      split at q7
      · rename_i ky eky
        obtain ⟨d1, _, d2, d3, d4⟩ := R7.hkk Dl _ upd_same
        refine ⟨vacc, ky, r6.key eky, d1, by rw [rp.length]; exact sz5l q7.1, ?_⟩
        have R7' := R7.unhold nw.2.2.2
        have R8 := (R7'.mutN (o := .dK (putK vacc ky y2)) d2 e1 (mo_h d1 rfl) rfl d4 nw.2.2.2).wipe vs
        have fw := freeW (vs := vs) (R7'.freeU (o := .dK (putK vacc ky y2)) d4)
        rw [wσ] at R8 fw
        exact ⟨G7, _, _, _, R8, upd_same, ⟨d2, e1, fw, nw.2.2.2⟩, (rp.mono ((((g3.gg.trans s4).trans s5).trans s6).trans s7)).put r7, fun i hi => wipeE_none hi, q7.2⟩
      · exact q7.elim
    | false =>
      rw [if_neg (by decide)] at q5
      refine iteF ?_
      obtain ⟨d1, _, d2, d3, d4⟩ := R5.hkk Dl _ upd_same
      have R8 := (R5.unhold nw.2.2.2).wipe vs
      have fw := freeW (vs := vs) d4
      rw [wσ] at R8 fw
      exact ⟨G5, _, _, _, R8, d1, ⟨d2, e1, fw, nw.2.2.2⟩, rp.mono ((g3.gg.trans s4).trans s5), fun i hi => wipeE_none hi, q5⟩
  · rw [List.drop_length] at q2
    have hu : Rel K C G2 H2 σ en2 := R2.unwipe en0
    exact k Dl vacc acc G2 H2 en2 (hw hu) (s1.trans (ha _ _ _ _ R2)) hd ⟨nw.1, h00, fun j z => nw.2.2.1 j (by rw [fpW en0]; exact z), hk0⟩ rp q2
theorem rlFK {K : PySem.W.Frag} {wf : WFK} {σ : L2.St} {H : Hp} {Z : VK} (h : Rl K W (eFK wf) σ H Z) : RlFK K W wf σ H (fun v H1 => Lok (Z v) H1) := by
  obtain ⟨C, G, en, Q, E, R, xo, q, k⟩ := h
  refine ⟨C, G, en, _, E, R, xo, q, fun a vs xs G1 H1 en1 R1 s1 h1 n r1 q1 => .lock h1 trivial fun od => .here ?_⟩
  have sg : Same G1 (upd G1 a (.frz od (.dK vs))) := KP.Same.new n.1
  have R2 := R1.mutN (o := .frz od (.dK vs)) n.1 n.2.1 (mo_h h1 rfl) rfl n.2.2.1 n.2.2.2
  exact k (.ref a) (.dic xs) _ _ en1 (R2.adopt upd_same n.1 n.2.1 (R1.freeU n.2.2.1) n.2.2.2) (s1.trans sg) (.dic ⟨_, upd_same⟩ (r1.mono sg)) q1
/-- {k: v for ..} as data -/
theorem d_dc {X : Cx} {e : Expr} {wi : WI} {g : WG} {tt : WT} {tk tv : WE} {vs : List Nat} (h : PE X e (tDc (RlI X.K W wi) (RlG X.K vs g) (RlT X.K (fun _ _ _ _ => False) tt) (Rl X.K (fun _ _ _ _ => False) tk) (Rl X.K (fun _ _ _ _ => False) tv) vs)) : DE X W e (eFK (fDc wi g tt tk tv vs)) := PE.of (PE.lk h) fun _ _ _ q => rlf_dc (rlFK q)
end
/-! ### names with a dict of their own -/
section
variable {X : Cx} {W : WX} {st : Stmt} {w : WE}
end
end KD

/-! tuple(d), list(d) of a dict. -/
namespace KD
open PySem PySem.Spec PyProof.Rows L2 KP
section
variable {prog : Program} {w : World} {A : Around} {E : Value → Shared → Prop} {s : Shared} {T : String} {r d : Addr} {n : Nat} {P : Nat → Value → Prop} {OK : Heap → Prop}
end
end KD

/-! + and - of own classes, as they are printed. -/
namespace KD
open PySem PySem.Spec PyProof.Rows L2 KP
theorem fl_int_add : fillsNumberSlot (.type "int") "add" = pure true := by
  unfold fillsNumberSlot
  simp only [typeLookup_type, builtinLookup_eq_fast]
  kernel_rfl
theorem ra_int_add : typeLookup (.type "int") (dunderR "add") = pure (some (.builtin "int.__radd__")) := by rw [typeLookup_type, builtinLookup_eq_fast]; kernel_rfl
theorem mro_int : fastBuiltinMro "int" = some [.type "int", .type "object"] := by kernel_rfl
theorem dn_add : PySem.dunder "add" = ("__add__" : Str) := by decide +kernel
theorem dn_radd : dunderR "add" = ("__radd__" : Str) := by decide +kernel
section
variable {X : Cx} {W : WX} {a b : Expr} {wa wb : WE} {pos : Pos} {k : Nat} {f : Addr} {fd : FuncData} {ps : List Str} {Wd : WD} {cn : Str}
theorem d_addI (ha : DE X W a wa) (hb : DE X W b wb) (hm : Meth X.K (He.ga X.K cn) "__add__" f) (hr : NoAttr X.K (He.ga X.K cn) "__radd__") (sf : PySem.W.selfFirst X.K (He.ga X.K cn) = true)
    (F : FnOk X.prog X.w X.K X.mg X.base (L2.CX X.prog X.w) k f fd ps (Pr X.K Wd)) (hroom : Room k X.A) (hbd : Binds X.K fd ps []) (tk : Takes X W) : DE X W (.BinOp a .Add b pos) (eOwn2 cn (okT "int") Wd wa wb) :=
  d_binT (op := .Add) ha hb (by show Meth X.K _ (PySem.dunder "add") f; rw [dn_add]; exact hm) (by show NoAttr X.K _ (dunderR "add"); rw [dn_radd]; exact hr) sf mro_int (by decide +kernel) fl_int_add rfl ra_int_add F hroom hbd tk
end
/-- a def with keyword-only parameters, as its callers want it -/
structure CalK (P : Program) (w : World) (K : PySem.W.Frag) (mg : Str → Option Value) (base : Heap) (k : Nat) (f : Addr) (fd : FuncData) (ps : List Str) (sp : Sp) : Prop where
  F : FnOk P w K mg base (L2.CX P w) k f fd ps sp
  kp : PySem.W.keepIn K (.ref f) = true
end KD

/-! What the law's drawing defs do, over data. -/
namespace KD
open PySem PySem.Spec PyProof.Rows L2 KP
@[irreducible] def W_around : WD := fun bs b Q _ => match bs with
  | [.pen, .d (.int most)] => 0 ≤ most ∧ most ≤ 10 ^ 99 ∧ b < 10 ^ 11 ∧ ∀ r b', b' ≤ b + 13 → -most ≤ r → r ≤ most → Q (.int r) b'
  | _ => False
/-- the items of a list, a tuple, a text -/
def seqD : D → Option (List D)
  | .lst xs => some xs
  | .tup xs => some xs
  | .str z => if z.length ≤ 1000 then some (z.cps.toList.map fun c => .str ⟨#[c]⟩) else none
  | _ => none
@[irreducible] def W_pick : WD := fun bs b Q _ => match bs with
  | [.pen, .d x] => (match seqD x with
    | some xs => xs ≠ [] ∧ xs.length ≤ 1000 ∧ b < 10 ^ 11 ∧ ∀ y, y ∈ xs → ∀ b', b' ≤ b + 13 → Q y b'
    | none => False)
  | _ => False
/-- a name: one to eight small letters -/
def NameD (z : Str) : Prop := 1 ≤ z.length ∧ z.length ≤ 8 ∧ ∀ c ∈ z.cps.toList, 97 ≤ c ∧ c ≤ 122
@[irreducible] def W_great : WD := fun bs b Q _ => match bs with
  | [.pen, .d (.int n)] => 1 ≤ n ∧ n ≤ 90 ∧ b < 10 ^ 10 ∧ ∀ (r b' : Int), b' ≤ b + 100 → 0 ≤ r → r < 10 ^ n.toNat → Q (.int r) b'
  | _ => False
/-- a painter's parts -/
structure Pt where
  nm : Str
  dy : Int
  po : Int
  sr : Int
def Pt.d (q : Pt) : D := .tup [.str q.nm, .int q.dy, .int q.po, .int q.sr]
structure Pt.In (q : Pt) (D0 P0 S0 : Int) : Prop where
  nm : NameD q.nm
  d0 : 0 ≤ q.dy
  d1 : q.dy ≤ D0
  p0 : -P0 ≤ q.po
  p1 : q.po ≤ P0
  s0 : -S0 ≤ q.sr
  s1 : q.sr ≤ S0
  sn : q.sr ≠ 0
/-- what a painter may be -/
abbrev Pt.Ok (q : Pt) : Prop := q.In (10 ^ 30) (10 ^ 30) (10 ^ 18)
theorem Pt.In.mono {q : Pt} {a b c a' b' c' : Int} (h : q.In a b c) (h1 : a ≤ a') (h2 : b ≤ b') (h3 : c ≤ c') : q.In a' b' c' :=
  ⟨h.nm, h.d0, by have := h.d1; omega, by have := h.p0; omega, by have := h.p1; omega, by have := h.s0; omega, by have := h.s1; omega, h.sn⟩
@[irreducible] def W_painters : WD := fun bs b Q _ => match bs with
  | [.pen] => b < 10 ^ 8 ∧ ∀ (qs : List Pt) (b' : Int), b' ≤ b + 70000 → (∀ q ∈ qs, q.In (2 * 10 ^ 29) (2 * 10 ^ 29) (2 * 10 ^ 17)) → qs.length ≤ 6 → (qs.map Pt.nm).Nodup → Q (.lst (qs.map Pt.d)) b'
  | _ => False
section
variable {K : PySem.W.Frag} {G H H' G2 : Hp} {π : Option Pid} {p : Pid} {b b' : Int}
theorem args1 {C : Ctx} {vs : List V} {c : B} (h : ArgsR K C G vs [c]) : ∃ v, vs = [v] ∧ ArgR K C G v c := by
  cases h with
  | cons h r => cases r; exact ⟨_, rfl, h⟩
theorem args2 {C : Ctx} {vs : List V} {c d : B} (h : ArgsR K C G vs [c, d]) : ∃ v u, vs = [v, u] ∧ ArgR K C G v c ∧ ArgR K C G u d := by
  cases h with
  | cons h r => obtain ⟨u, rfl, h2⟩ := args1 r; exact ⟨_, _, rfl, h, h2⟩
/-- all but the pen is kept: behind an old promise -/
theorem fr_ext (s : Same G H) (e : Ext p.a H H') (hp : Pen K H' p b') (g : G p.a = none) : Fr K (some p) [] G H G H' b' :=
  ⟨Same.refl G, fun a o h => e.keep a o (fun z => by subst z; rw [g] at h; cases h) (s a o h), fun a h g => absurd g h, fun a o h _ n _ => e.keep a o (n p rfl) h, .keep fun a o h m => e.keep a o (fun z => by obtain ⟨kvs, hk⟩ := e.was; rw [← z, h] at hk; cases hk; cases m) h, .refl, fun q eq => by cases eq; exact ⟨hp, g⟩, fun x e => nomatch e⟩
/-- a new list of data behind an old promise -/
theorem fr_list (s : Same G H) (e : Ext p.a H H') (hp : Pen K H' p b') (g : G p.a = none) {l : Addr} {vs : List V} (nl : H l = none) (hl : H' l = some (.lst vs)) : Fr K (some p) [] G H (upd G l (.lst vs)) H' b' := by
  have f := fr_ext s e hp g
  have gl : G l = none := s.free nl
  refine ⟨KP.Same.new gl, fun a o h => ?_, fun a h g => ?_, f.keep, f.tab, f.nt.trans (.upd rfl), fun q eq => ⟨(f.pen q eq).1, ?_⟩, fun x e => nomatch e⟩
  · by_cases q : a = l
    · subst q; rw [upd_same] at h; cases h; exact hl
    · rw [upd_ne q] at h; exact f.sub a o h
  · by_cases q : a = l
    · subst q; exact .inl nl
    · rw [upd_ne q] at h; exact absurd g h
  · cases eq
    obtain ⟨kvs, hk⟩ := e.was
    rw [upd_ne (ne_of_none hk nl)]; exact g
/-- all tuples become data -/
def tups (G H' : Hp) : Hp := fun a => match H' a with
  | some (.tup xs) => some (.tup xs)
  | _ => G a
theorem fr_tups (f : Fr K (some p) [] G H G2 H' b') : Fr K (some p) [] G H (tups G2 H') H' b' := by
  have gt : Same G2 (tups G2 H') := fun a o h => by
    have := f.sub a o h
    unfold tups
    split
    · rename_i xs e; rw [this] at e; rw [← e]
    · exact h
  refine ⟨f.gg.trans gt, fun a o h => ?_, fun a h g => ?_, f.keep, f.tab, (fun a ps h => f.nt a ps (by
    unfold tups at h
    split at h
    · cases h
    · exact h)), fun q eq => ⟨(f.pen q eq).1, ?_⟩, fun x e => nomatch e⟩
  · unfold tups at h
    split at h
    · rename_i xs e; rw [e]; exact h
    · exact f.sub a o h
  · unfold tups at h
    split at h
    · rename_i xs e
      cases r : H a with
      | none => exact .inl r
      | some o =>
        by_cases z : a = p.a
        · subst z
          obtain ⟨kvs, e2⟩ := (f.pen p rfl).1.is_
          rw [e] at e2; cases e2
        · have := f.keep a o r (fun ps eo => by subst eo; obtain ⟨qs, hq⟩ := f.tab.k a ps r; rw [e] at hq; cases hq) (fun q eq => by cases eq; exact z) (fun q => nomatch q)
          rw [e] at this; cases this
          exact .inr ⟨_, r, rfl⟩
    · exact f.new a h g
  · have g := (f.pen q eq).2
    obtain ⟨kvs, e2⟩ := (f.pen q eq).1.is_
    unfold tups
    rw [e2]; exact g
/-- the law: what is wanted, where it begins (its script of n ints, its pen) -/
def lawN : DN := ⟨fun _ => False, fun x _ => x = .bl true, fun _ => False, fun _ => False, fun _ _ => False, fun _ _ => False⟩
def lawE (m n : Nat) : En := ⟨some (.scr n) :: some .pen :: List.replicate (m - 2) none, 0⟩
theorem law_start {W : WX} {ns : List Int} {a : Addr} {wl : WS} {m : Nat} {Q : VK} (tb : TbH K H) (hS : SqL K H a (ns.map V.int)) (s1 : Same H H') (np : H p.a = none) (hP : Pen K H' p 0) (hw : wl lawN (lawE (m + 2) ns.length)) (k : ∀ H2, Q (.bl true) H2) :
    RlS K W wl { nx := fun _ H' => Q .non H', rt := Q } (((V.ref a :: []).map some ++ List.replicate (m + 2 - 1) none).set 1 (some (V.ref p.a))) H' := by
  let G : Hp := fun x => if x = p.a then none else match H' x with
    | some (.tbl _) => none
    | o => o
  have gs : Same G H' := fun x o h => by
    by_cases e : x = p.a
    · simp [G, e] at h
    · simp only [G, if_neg e] at h
      split at h
      · cases h
      · exact h
  have gp : G p.a = none := by simp [G]
  have gt : ∀ a ps, G a ≠ some (.tbl ps) := fun x ps h => by
    have h2 := gs x _ h
    by_cases e : x = p.a
    · simp [G, e] at h
    · simp only [G, if_neg e, h2] at h
      cases h
  have gH : ∀ x o, isTb o = false → H x = some o → G x = some o := fun x o ht h => by
    have ne : x ≠ p.a := ne_of_none h np
    simp only [G, if_neg ne]
    rw [s1 x o h]
    cases o <;> first | rfl | cases ht
  have hS' : SqL K G a (ns.map V.int) := by
    rcases hS with (h | ⟨o2, h⟩) | h
    · exact .inl (.inl (gH _ _ rfl h))
    · exact .inl (.inr ⟨o2, gH _ _ rfl h⟩)
    · exact .inr h
  have hs : (((V.ref a :: []).map some ++ List.replicate (m + 2 - 1) none).set 1 (some (V.ref p.a)) : L2.St) = some (V.ref a) :: some (V.ref p.a) :: List.replicate m none := by
    show (some (V.ref a) :: List.replicate (m + 1) none).set 1 (some (V.ref p.a)) = _
    rw [List.replicate_succ]; rfl
  rw [hs]
  refine ⟨⟨some p, [], G, fun _ => none, G, H'⟩, G, lawE (m + 2) ns.length, lawN, ⟨⟨Same.refl G, gs, fun a h g => absurd g h, fun a o h _ _ _ => h, .refl, .refl, fun q e => by cases e; exact ⟨hP, gp⟩, fun x e => nomatch e⟩, fun q e => by cases e; exact ⟨0, hP⟩, (fun p x _ e => nomatch e), (fun x e => nomatch e), tb.same s1, gt, Same.refl G, (fun a o h => nomatch h), by simp [lawE], fun i v c h1 h2 => ?_, fun i j c h1 h2 => ?_⟩,
    fun _ _ _ _ _ _ _ _ _ z => z.elim, hw, ⟨fun _ _ _ _ _ z => z.elim, fun v x G H σ en R r q => by subst q; cases r; exact k H, fun _ _ _ _ _ z => z.elim, fun _ _ _ _ _ z => z.elim, fun _ _ _ _ _ _ _ _ _ _ _ z => z.elim⟩⟩
  · have h2 : (some (B.scr ns.length) :: some B.pen :: List.replicate m none)[i]? = some c := h2
    match i, h1, h2 with
    | 0, h1, h2 => cases h1; cases h2; exact ⟨a, _, rfl, hS', by simp⟩
    | 1, h1, h2 => cases h1; cases h2; exact ⟨p, rfl, rfl⟩
    | i + 2, h1, h2 =>
      have : (List.replicate m (none : Option B))[i]? = some c := by simpa using h2
      rw [List.getElem?_replicate] at this
      split at this <;> cases this
      trivial
  · have h1 : c ∈ fpB H' (some (V.ref a) :: some (V.ref p.a) :: List.replicate m none)[i]? (some (B.scr ns.length) :: some B.pen :: List.replicate m none)[i]? := h1
    match i, h1 with
    | 0, h1 => cases h1
    | 1, h1 => cases h1
    | i + 2, h1 =>
      have h1 : c ∈ fpB H' (List.replicate m (none : Option V))[i]? (List.replicate m (none : Option B))[i]? := by simpa using h1
      rw [List.getElem?_replicate, List.getElem?_replicate] at h1
      split at h1 <;> cases h1
end
end KD

/-! Methods whose self changes. -/
namespace KD
open PySem PySem.Spec PyProof.Rows L2 KP
abbrev Ms := List (Str × MF)
abbrev WM := Ms → List B → Int → (D → Ms → Int → Prop) → (XC → Ms → Int → Prop) → Prop
/-- the object at a, of the class cn, with the fields ms -/
structure MobAt (K : PySem.W.Frag) (G H : Hp) (cn : Str) (a : Addr) (ms : Ms) : Prop where
  at_ : ∃ dx fv, H a = some (.ins (He.ga K cn) dx fv) ∧ MFs K G H fv ms
  nd : (fpO H ms (.ref a)).Nodup
  no : ∀ c ∈ fpO H ms (.ref a), G c = none
theorem MobAt.trk {K : PySem.W.Frag} {G H : Hp} {cn : Str} {a : Addr} {ms : Ms} (h : MobAt K G H cn a ms) : ∀ c ∈ fpO H ms (.ref a), Trk H c := fun c hc => by
  obtain ⟨dx, fv, h1, h2⟩ := h.at_
  rw [fpO_ref h1] at hc
  rcases List.mem_cons.mp hc with rfl | hc
  · exact ⟨_, h1, rfl⟩
  · exact h2.trk c hc
section
variable {K : PySem.W.Frag} {C : Ctx} {G H G' H' : Hp} {π : Option Pid} {b b' : Int} {vs : List V} {bs : List B} {σ : L2.St} {en : En} {a dx : Addr} {cn : Str} {ms : Ms} {st : Bool}
end
section
variable {P : Program} {w : World} {K : PySem.W.Frag} {mg : Str → Option Value} {base : Heap} {x qual : Str} {params : Arguments} {body : List Stmt} {scope : Scope} {dvs : List V} {kws : List (Str × V)} {f : Addr} {fd : FuncData} {k : Nat}
end
end KD

/-! Objects that change: what is lent while an expression runs, and what comes back. -/
namespace KD
open PySem PySem.Spec PyProof.Rows L2 KP
def holdL (hk H : Hp) (l : List Addr) : Hp := fun c => if c ∈ l then H c else hk c
theorem holdL_in {hk H : Hp} {l : List Addr} {c : Addr} (h : c ∈ l) : holdL hk H l c = H c := if_pos h
theorem holdL_out {hk H : Hp} {l : List Addr} {c : Addr} (h : c ∉ l) : holdL hk H l c = hk c := if_neg h
structure Lent (K : PySem.W.Frag) (C : Ctx) (G H : Hp) (σ : L2.St) (i : Nat) (me : Option Bool) (cn : Str) (ms : Ms) (a dx : Addr) (fv : List (Str × V)) : Prop where
  hv : σ[i]? = some (some (.ref a))
  hi : H a = some (.ins (He.ga K cn) dx fv)
  fs : MFs K G H fv ms
  nd : (fpO H ms (.ref a)).Nodup
  gn : ∀ c ∈ fpO H ms (.ref a), G c = none
  ow : ∀ c ∈ fpO H ms (.ref a), c ∈ C.μ ∨ C.H0 c = none
  me_ : ∀ s, me = some s → C.μ.head? = some a ∧ (s = true → H a = C.H0 a)
  hk : ∀ c ∈ fpO H ms (.ref a), C.hk c = none
  tr : ∀ c ∈ fpO H ms (.ref a), Trk H c
section
variable {K : PySem.W.Frag} {C : Ctx} {G H G' H' : Hp} {b b' : Int} {σ : L2.St} {en en' : En} {a dx : Addr} {cn f : Str} {ms : Ms} {me : Option Bool} {i : Nat} {fv : List (Str × V)} {m m' : MF} {v : V}
theorem Lent.fo (L : Lent K C G H σ i me cn ms a dx fv) : fpO H ms (.ref a) = a :: fpFs H fv ms := fpO_ref L.hi
theorem Rel.lent (R : Rel K C G H σ en) (e : en.sl[i]? = some (some (.mob me cn ms))) : ∃ a dx fv, Lent K C G H σ i me cn ms a dx fv := by
  obtain ⟨v, e1, a, dx, fv, e2, h1, h2, h3, h4, h5⟩ := R.var e
  cases e2
  have hm : ∀ c ∈ fpO H ms (.ref a), c ∈ fpB H σ[i]? en.sl[i]? := fun c hc => by rw [e1, e]; exact hc
  refine ⟨a, dx, fv, e1, h1, h2, h3, fun c hc => (h4 c hc).1, fun c hc => (h4 c hc).2, h5, fun c hc => R.hkF (hm c hc), fun c hc => ?_⟩
  obtain ⟨_, _, _, _, _, t, _⟩ := R.at_ (hm c hc)
  exact t
theorem Rel.unslot (R : Rel K C G H σ en) {w : Option V} (e1 : σ[i]? = some w) : Rel K C G H σ (en.set i none) := by
  have := R.forget (i := i) w
  rw [set_self e1] at this
  exact this
theorem Rel.lend (R : Rel K C G H σ en) (e : en.sl[i]? = some (some (.mob me cn ms))) (L : Lent K C G H σ i me cn ms a dx fv) : Rel K { C with hk := holdL C.hk H (fpO H ms (.ref a)) } G H σ (en.set i none) := by
  have R1 := R.unslot L.hv
  refine ⟨R1.fr, R1.pen0, R1.npn, R1.slf0, R1.tb0, R1.gt0, R1.anc, fun c u h => ?_, R1.len, R1.slot, R1.dist⟩
  have h : holdL C.hk H (fpO H ms (.ref a)) c = some u := h
  by_cases q : c ∈ fpO H ms (.ref a)
  · rw [holdL_in q] at h
    have hm : c ∈ fpB H σ[i]? en.sl[i]? := by rw [L.hv, e]; exact q
    obtain ⟨_, _, _, _, _, ⟨o, ho, nt⟩, g, w⟩ := R.at_ hm
    rw [h] at ho; cases ho
    exact ⟨h, nt, g, w, R.freeF hm⟩
  · rw [holdL_out q] at h
    exact R1.hkk c u h
theorem Lent.back (L : Lent K C G H σ i me cn ms a dx fv) (R : Rel K { C with hk := holdL C.hk H (fpO H ms (.ref a)) } G' H' σ en') (sg : Same G G') :
    Rel K C G' H' σ (en'.set i (some (.mob me cn ms))) ∧ Lent K C G' H' σ i me cn ms a dx fv := by
  have key : ∀ c ∈ fpO H ms (.ref a), H' c = H c ∧ G' c = none ∧ Free H' σ en' c := fun c hc => by
    obtain ⟨o, ho, nt⟩ := L.tr c hc
    have := R.hkk c o (by show holdL C.hk H (fpO H ms (.ref a)) c = some o; rw [holdL_in hc]; exact ho)
    exact ⟨this.1.trans ho.symm, this.2.2.1, this.2.2.2.2⟩
  have eO := L.fo
  obtain ⟨f1, f2⟩ := MFs.frame sg (fun c hc => (key c (by rw [eO]; exact List.mem_cons_of_mem _ hc)).1) L.fs
  have ka := key a (by rw [eO]; exact List.mem_cons_self ..)
  have e1 : fpO H' ms (.ref a) = fpO H ms (.ref a) := by rw [eO, fpO_ref (ka.1.trans L.hi), f2]
  have R0 : Rel K C G' H' σ en' := ⟨R.fr, R.pen0, R.npn, R.slf0, R.tb0, R.gt0, R.anc, fun c u h => R.hkk c u (by
    show holdL C.hk H (fpO H ms (.ref a)) c = some u
    rw [holdL_out (fun z => by rw [L.hk c z] at h; cases h)]; exact h), R.len, R.slot, R.dist⟩
  have st : ∀ s, me = some s → C.μ.head? = some a ∧ (s = true → H' a = C.H0 a) := fun s hs => ⟨(L.me_ s hs).1, fun t => ka.1.trans ((L.me_ s hs).2 t)⟩
  have nd' : (fpO H' ms (.ref a)).Nodup := by rw [e1]; exact L.nd
  have z := R0.put (i := i) (w := some (.ref a)) (c := some (.mob me cn ms)) R0.fr (Same.refl G') R0.kp0 R0.hkH ⟨a, dx, fv, rfl, ka.1.trans L.hi, f1, nd', fun c hc => by
    rw [e1] at hc; exact ⟨(key c hc).2.1, L.ow c hc⟩, st⟩ fun d hd => by
      have hd : d ∈ fpO H' ms (.ref a) := hd
      rw [e1] at hd
      exact ⟨L.hk d hd, fun j _ => (key d hd).2.2 j⟩
  rw [set_self L.hv] at z
  refine ⟨z, L.hv, ka.1.trans L.hi, f1, nd', fun c hc => ?_, fun c hc => ?_, st, fun c hc => ?_, fun c hc => ?_⟩
  · rw [e1] at hc; exact (key c hc).2.1
  · rw [e1] at hc; exact L.ow c hc
  · rw [e1] at hc; exact L.hk c hc
  · rw [e1] at hc
    obtain ⟨o, ho, nt⟩ := L.tr c hc
    exact ⟨o, (key c hc).1.trans ho, nt⟩
theorem MFs.look (h : MFs K G H fv ms) (e : ms.lookup f = some m) : ∃ v, fv.lookup f = some v ∧ MFR K G H v m ∧ ∀ c ∈ fpF H v m, c ∈ fpFs H fv ms := by
  induction h with
  | nil => simp at e
  | @cons x y fv ms h r ih =>
    obtain ⟨kx, vx⟩ := x
    obtain ⟨ky, my⟩ := y
    obtain ⟨h1, h2⟩ := h
    cases h1
    rw [List.lookup_cons] at e ⊢
    cases q : f == kx with
    | true => rw [q] at e; cases e; exact ⟨vx, rfl, h2, fun c hc => List.mem_append_left _ hc⟩
    | false =>
      rw [q] at e
      obtain ⟨v, e1, e2, e3⟩ := ih e
      exact ⟨v, e1, e2, fun c hc => List.mem_append_right _ (e3 c hc)⟩
def putMF (f : Str) (m : MF) : Ms → Ms
  | [] => [(f, m)]
  | (g, x) :: r => if g = f then (g, m) :: r else (g, x) :: putMF f m r
/-- a container of the object changes: at l -/
theorem MFs.upd {l : Addr} {o : HO} (h : MFs K G H fv ms) (nd : (fpFs H fv ms).Nodup) (e : ms.lookup f = some m) (ev : fv.lookup f = some v) (hl : l ∈ fpF H v m) (r : MFR K G (upd H l o) v m') (ef : fpF (upd H l o) v m' = fpF H v m) :
    MFs K G (L2.upd H l o) fv (putMF f m' ms) ∧ fpFs (L2.upd H l o) fv (putMF f m' ms) = fpFs H fv ms := by
  induction h with
  | nil => simp at e
  | @cons x y fv ms h r' ih =>
    obtain ⟨kx, vx⟩ := x
    obtain ⟨ky, my⟩ := y
    obtain ⟨h1, h2⟩ := h
    cases h1
    have nd : (fpF H vx my ++ fpFs H fv ms).Nodup := nd
    rw [List.nodup_append] at nd
    obtain ⟨n1, n2, n3⟩ := nd
    rw [List.lookup_cons] at e ev
    cases q : f == kx with
    | true =>
      rw [q] at e ev
      cases e; cases ev
      have hq : kx = f := (eq_of_beq q).symm
      obtain ⟨g1, g2⟩ := MFs.frame (Same.refl G) (H' := L2.upd H l o) (fun c hc => by rw [upd_ne (fun z => n3 l hl c hc z.symm)]) r'
      have ep : putMF f m' ((kx, m) :: ms) = (kx, m') :: ms := by show (if kx = f then _ else _) = _; rw [if_pos hq]
      rw [ep]
      refine ⟨.cons ⟨rfl, r⟩ g1, ?_⟩
      show fpF _ v m' ++ fpFs _ fv ms = fpF H v m ++ fpFs H fv ms
      rw [ef, g2]
    | false =>
      rw [q] at e ev
      have e : List.lookup f ms = some m := e
      have ev : List.lookup f fv = some v := ev
      have hq : ¬ kx = f := fun z => by subst z; simp at q
      have hin : l ∈ fpFs H fv ms := by
        obtain ⟨v', e1, e2, e3⟩ := MFs.look r' e
        rw [ev] at e1; cases e1
        exact e3 l hl
      obtain ⟨g1, g2⟩ := MFR.frame (Same.refl G) (H' := L2.upd H l o) (fun c hc => by rw [upd_ne (fun z => n3 c hc l hin z)]) h2
      obtain ⟨i1, i2⟩ := ih n2 e ev
      have ep : putMF f m' ((kx, my) :: ms) = (kx, my) :: putMF f m' ms := by show (if kx = f then _ else _) = _; rw [if_neg hq]
      rw [ep]
      refine ⟨.cons ⟨rfl, g1⟩ i1, ?_⟩
      show fpF _ vx my ++ fpFs _ fv _ = fpF H vx my ++ fpFs H fv ms
      rw [g2, i2]
/-- .. and the name's slot with it -/
theorem Rel.updF {l : Addr} {o : HO} (R : Rel K C G H σ (en.set i (some (.mob me cn ms)))) (L : Lent K C G H σ i me cn ms a dx fv) (e : ms.lookup f = some m) (ev : fv.lookup f = some v) (hl : l ∈ fpF H v m) (ht : Mo o = true) (r : MFR K G (upd H l o) v m') (ef : fpF (upd H l o) v m' = fpF H v m) :
    Rel K C G (upd H l o) σ (en.set i (some (.mob me cn (putMF f m' ms)))) := by
  have nd := L.nd
  rw [L.fo] at nd
  obtain ⟨na, nd⟩ := List.nodup_cons.mp nd
  obtain ⟨g1, g2⟩ := L.fs.upd nd e ev hl r ef
  have hin : l ∈ fpFs H fv ms := by
    obtain ⟨v', e1, e2, e3⟩ := L.fs.look e
    rw [ev] at e1; cases e1
    exact e3 l hl
  have la : a ≠ l := fun z => na (by rw [z]; exact hin)
  have ha : upd H l o a = some (.ins (He.ga K cn) dx fv) := by rw [upd_ne la]; exact L.hi
  have e1 : fpO (upd H l o) (putMF f m' ms) (.ref a) = fpO H ms (.ref a) := by rw [fpO_ref ha, L.fo, g2]
  have hlen : i < en.sl.length := by
    have := (List.getElem?_eq_some_iff.mp L.hv).1
    have e2 := R.len
    unfold En.set at e2
    simp at e2
    omega
  have hs : (en.set i (some (.mob me cn ms))).sl[i]? = some (some (.mob me cn ms)) := by
    unfold En.set
    simp [hlen]
  have z := R.updO (i := i) (a := l) (o := o) (v := .ref a) (b0 := .mob me cn ms) (b := .mob me cn (putMF f m' ms)) L.hv hs (by show l ∈ fpO H ms (.ref a); rw [L.fo]; exact List.mem_cons_of_mem _ hin) ht
    ⟨a, dx, fv, rfl, ha, g1, by rw [e1]; exact L.nd, fun c hc => by rw [e1] at hc; exact ⟨L.gn c hc, L.ow c hc⟩, fun s hs => ⟨(L.me_ s hs).1, fun t => by rw [upd_ne la]; exact (L.me_ s hs).2 t⟩⟩
    (fun d hd => by
      have hd : d ∈ fpO (upd H l o) (putMF f m' ms) (.ref a) := hd
      rw [e1] at hd; exact hd)
  have ee : ((en.set i (some (.mob me cn ms))).set i (some (.mob me cn (putMF f m' ms)))) = en.set i (some (.mob me cn (putMF f m' ms))) := by
    unfold En.set
    simp
  rw [ee] at z
  exact z
end
end KD

/-! Objects that change: reading and writing their fields. -/
namespace KD
open PySem PySem.Spec PyProof.Rows L2 KP
def mobG (cn : Str) (i : Nat) (f : Str) (en : En) (Q : Option Bool → Ms → MF → Prop) : Prop := match en.sl[i]? with
  | some (some (.mob me c ms)) => c = cn ∧ (match ms.lookup f with | some m => Q me ms m | none => False)
  | _ => False
section
variable {K : PySem.W.Frag} {C : Ctx} {G H G' H' : Hp} {σ : L2.St} {en en' : En} {cn f : Str} {i : Nat}
theorem mobG_open {Q : Option Bool → Ms → MF → Prop} (R : Rel K C G H σ en) (q : mobG cn i f en Q) : ∃ me ms m a dx fv v, en.sl[i]? = some (some (.mob me cn ms)) ∧ ms.lookup f = some m ∧ Lent K C G H σ i me cn ms a dx fv ∧
    Rel K { C with hk := holdL C.hk H (fpO H ms (.ref a)) } G H σ (en.set i none) ∧ fv.lookup f = some v ∧ MFR K G H v m ∧ Q me ms m := by
  unfold mobG at q
  split at q
  · rename_i me c ms e
    obtain ⟨rfl, q⟩ := q
    split at q
    · rename_i m em
      obtain ⟨a, dx, fv, L⟩ := R.lent e
      obtain ⟨v, e1, e2, _⟩ := L.fs.look em
      exact ⟨me, ms, m, a, dx, fv, v, e, em, L, R.lend e L, e1, e2, q⟩
    · exact q.elim
  · exact q.elim
theorem xo0 {W : WX} (C : Ctx) : XOk K W C noE := fun _ _ _ _ _ _ _ _ _ z => z.elim
end
section
variable {X : Cx} {W : WX} {e a b : Expr} {w wa wb wk wy : WE} {p pos apos pos' : Pos} {st : Stmt} {x cn f : Str} {i : Nat}
/-! ### writing -/
/-! ### dicts in a list -/
theorem ldk_keep {K : PySem.W.Frag} {G H : Hp} {us : List V} {ds : List (List (Key × D))} {c : Addr} {o : HO} (h : Paired (fun (u : V) (kvs : List (Key × D)) => ∃ c vs, u = .ref c ∧ H c = some (.dK vs) ∧ RepK K G vs kvs) us ds) (n : c ∉ us.flatMap adL) :
    Paired (fun (u : V) (kvs : List (Key × D)) => ∃ c' vs, u = .ref c' ∧ upd H c o c' = some (.dK vs) ∧ RepK K G vs kvs) us ds := by
  induction h with
  | nil => exact .nil
  | @cons u kvs us ds h r0 ih =>
    obtain ⟨c1, vs1, rfl, g1, g2⟩ := h
    have n : c ∉ c1 :: us.flatMap adL := n
    exact .cons ⟨c1, vs1, rfl, by rw [upd_ne (fun z => n (by rw [z]; exact List.mem_cons_self ..))]; exact g1, g2⟩ (ih fun z => n (List.mem_cons_of_mem _ z))
theorem ldk_set {K : PySem.W.Frag} {G H : Hp} {us : List V} {ds : List (List (Key × D))} {j : Nat} {c : Addr} {vs' : List (Key × V)} {kvs' : List (Key × D)} (h : Paired (fun (u : V) (kvs : List (Key × D)) => ∃ c vs, u = .ref c ∧ H c = some (.dK vs) ∧ RepK K G vs kvs) us ds) (e : us[j]? = some (.ref c)) (nd : (us.flatMap adL).Nodup) (r : RepK K G vs' kvs') :
    Paired (fun (u : V) (kvs : List (Key × D)) => ∃ c' vs, u = .ref c' ∧ upd H c (.dK vs') c' = some (.dK vs) ∧ RepK K G vs kvs) us (ds.set j kvs') := by
  induction h generalizing j with
  | nil => exact .nil
  | @cons u kvs us ds h r0 ih =>
    obtain ⟨c0, vs, rfl, h1, h2⟩ := h
    have nd : (c0 :: us.flatMap adL).Nodup := nd
    obtain ⟨n1, n2⟩ := List.nodup_cons.mp nd
    cases j with
    | zero =>
      have e : c0 = c := by simpa using e
      subst e
      exact .cons ⟨_, _, rfl, upd_same, r⟩ (ldk_keep r0 n1)
    | succ j =>
      have e : us[j]? = some (.ref c) := by simpa using e
      have : c ∈ us.flatMap adL := List.mem_flatMap.mpr ⟨_, List.mem_of_getElem? e, List.mem_cons_self ..⟩
      exact .cons ⟨c0, vs, rfl, by rw [upd_ne (fun z => n1 (by rw [z]; exact this))]; exact h1, h2⟩ (ih e n2)
/-- the j-th dict of a list of dicts changes -/
theorem Rel.updD {K : PySem.W.Frag} {C : Ctx} {G H : Hp} {σ : L2.St} {en : En} {i : Nat} {me : Option Bool} {cn f : Str} {ms : Ms} {a dx l c : Addr} {fv : List (Str × V)} {us : List V} {ds : List (List (Key × D))} {j : Nat} {vs' : List (Key × V)} {kvs' : List (Key × D)}
    (R : Rel K C G H σ (en.set i (some (.mob me cn ms)))) (L : Lent K C G H σ i me cn ms a dx fv) (e : ms.lookup f = some (.ldk ds)) (ev : fv.lookup f = some (.ref l)) (hl : H l = some (.lst us)) (pr : Paired (fun (u : V) (kvs : List (Key × D)) => ∃ c vs, u = .ref c ∧ H c = some (.dK vs) ∧ RepK K G vs kvs) us ds) (ec : us[j]? = some (.ref c)) (r : RepK K G vs' kvs') :
    Rel K C G (upd H c (.dK vs')) σ (en.set i (some (.mob me cn (putMF f (.ldk (ds.set j kvs')) ms)))) := by
  have hc : c ∈ us.flatMap adL := List.mem_flatMap.mpr ⟨_, List.mem_of_getElem? ec, List.mem_cons_self ..⟩
  obtain ⟨v', e1, e2, e3⟩ := L.fs.look e
  rw [ev] at e1; cases e1
  have nd := L.nd
  rw [L.fo] at nd
  have ndF := (List.nodup_cons.mp nd).2
  have ef : fpF H (.ref l) (.ldk ds) = l :: us.flatMap adL := by show adL (.ref l) ++ itL H (.ref l) = _; rw [itL_ref hl]; rfl
  have ndl : (l :: us.flatMap adL).Nodup := by
    rw [← ef]
    have : ∀ {fv : List (Str × V)} {ms : Ms}, MFs K G H fv ms → (fpFs H fv ms).Nodup → fv.lookup f = some (.ref l) → ms.lookup f = some (.ldk ds) → (fpF H (.ref l) (.ldk ds)).Nodup := fun {fv ms} h => by
      induction h with
      | nil => intro _ z _; simp at z
      | @cons x y fv ms h r ih =>
        intro nd e1 e2
        obtain ⟨kx, vx⟩ := x
        obtain ⟨ky, my⟩ := y
        obtain ⟨h1, h2⟩ := h
        cases h1
        have nd : (fpF H vx my ++ fpFs H fv ms).Nodup := nd
        rw [List.nodup_append] at nd
        rw [List.lookup_cons] at e1 e2
        cases q : f == kx with
        | true => rw [q] at e1 e2; cases e1; cases e2; exact nd.1
        | false => rw [q] at e1 e2; exact ih nd.2.1 e1 e2
    exact this L.fs ndF ev e
  obtain ⟨n1, n2⟩ := List.nodup_cons.mp ndl
  have lc : l ≠ c := fun z => n1 (by rw [z]; exact hc)
  have hl' : upd H c (.dK vs') l = some (.lst us) := by rw [upd_ne lc]; exact hl
  refine R.updF (m' := .ldk (ds.set j kvs')) L e ev (by rw [ef]; exact List.mem_cons_of_mem _ hc) rfl ⟨l, us, rfl, hl', ldk_set pr ec n2 r⟩ ?_
  show adL (.ref l) ++ itL (upd H c (.dK vs')) (.ref l) = adL (.ref l) ++ itL H (.ref l)
  rw [itL_ref hl', itL_ref hl]
end
end KD

/-! Objects that change: their attributes set, their methods called. -/
namespace KD
open PySem PySem.Spec PyProof.Rows L2 KP
/-- what an attribute is given: data, or a container that is nobody's yet -/
structure Fsh (K : PySem.W.Frag) (C : Ctx) (G H : Hp) (σ : L2.St) (en : En) (v : V) (m : MF) : Prop where
  r : MFR K G H v m
  nd : (fpF H v m).Nodup
  g : ∀ c ∈ fpF H v m, G c = none
  h0 : ∀ c ∈ fpF H v m, C.H0 c = none
  fr : ∀ c ∈ fpF H v m, Free H σ en c
  hk : ∀ c ∈ fpF H v m, C.hk c = none
section
variable {X : Cx} {W : WX} {e : Expr} {w : WE} {pos : Pos} {st : Stmt}
end
section
variable {X : Cx} {W : WX} {st : Stmt} {i : Nat}
end
section
variable {K : PySem.W.Frag} {C : Ctx} {G H G' H' : Hp} {b b' : Int} {σ : L2.St} {en en' : En} {a dx : Addr} {cn f : Str} {ms : Ms} {me : Option Bool} {i : Nat} {fv : List (Str × V)} {m m' : MF} {v : V}
theorem MFs.put (h : MFs K G H fv ms) (r : MFR K G H v m) (nd : (fpFs H fv ms).Nodup) (nm : (fpF H v m).Nodup) (dj : ∀ c ∈ fpF H v m, c ∉ fpFs H fv ms) :
    MFs K G H (putF f v fv) (putMF f m ms) ∧ (fpFs H (putF f v fv) (putMF f m ms)).Nodup ∧ ∀ c ∈ fpFs H (putF f v fv) (putMF f m ms), c ∈ fpFs H fv ms ∨ c ∈ fpF H v m := by
  induction h with
  | nil =>
    refine ⟨.cons ⟨rfl, r⟩ .nil, ?_, ?_⟩
    · show (fpF H v m ++ []).Nodup
      rw [List.append_nil]; exact nm
    · intro c hc
      have hc : c ∈ fpF H v m ++ [] := hc
      rw [List.append_nil] at hc; exact .inr hc
  | @cons x y fv ms h r' ih =>
    obtain ⟨kx, vx⟩ := x
    obtain ⟨ky, my⟩ := y
    obtain ⟨h1, h2⟩ := h
    cases h1
    have nd : (fpF H vx my ++ fpFs H fv ms).Nodup := nd
    have dj : ∀ c ∈ fpF H v m, c ∉ fpF H vx my ++ fpFs H fv ms := dj
    rw [List.nodup_append] at nd
    obtain ⟨n1, n2, n3⟩ := nd
    by_cases q : kx = f
    · have e1 : putF f v ((kx, vx) :: fv) = (kx, v) :: fv := by unfold putF; rw [if_pos q]
      have e2 : putMF f m ((kx, my) :: ms) = (kx, m) :: ms := by unfold putMF; rw [if_pos q]
      rw [e1, e2]
      refine ⟨.cons ⟨rfl, r⟩ r', ?_, ?_⟩
      · show (fpF H v m ++ fpFs H fv ms).Nodup
        rw [List.nodup_append]
        exact ⟨nm, n2, fun c hc d hd z => dj c hc (List.mem_append_right _ (by rw [z]; exact hd))⟩
      · intro c hc
        have hc : c ∈ fpF H v m ++ fpFs H fv ms := hc
        rcases List.mem_append.mp hc with z | z
        · exact .inr z
        · exact .inl (List.mem_append_right _ z)
    · have e1 : putF f v ((kx, vx) :: fv) = (kx, vx) :: putF f v fv := by show (if kx = f then _ else _) = _; rw [if_neg q]
      have e2 : putMF f m ((kx, my) :: ms) = (kx, my) :: putMF f m ms := by show (if kx = f then _ else _) = _; rw [if_neg q]
      rw [e1, e2]
      obtain ⟨i1, i2, i3⟩ := ih n2 fun c hc z => dj c hc (List.mem_append_right _ z)
      refine ⟨.cons ⟨rfl, h2⟩ i1, ?_, ?_⟩
      · show (fpF H vx my ++ fpFs H (putF f v fv) (putMF f m ms)).Nodup
        rw [List.nodup_append]
        refine ⟨n1, i2, fun c hc d hd z => ?_⟩
        rcases i3 d hd with y | y
        · exact n3 c hc d y z
        · exact dj d y (List.mem_append_left _ (by rw [← z]; exact hc))
      · intro c hc
        have hc : c ∈ fpF H vx my ++ fpFs H (putF f v fv) (putMF f m ms) := hc
        rcases List.mem_append.mp hc with z | z
        · exact .inl (List.mem_append_left _ z)
        · rcases i3 c z with y | y
          · exact .inl (List.mem_append_right _ y)
          · exact .inr y
end
section
variable {X : Cx} {W : WX} {st : Stmt} {i : Nat} {cn f : Str} {wk wy : WE}
end
/-! ### methods -/
section
variable {K : PySem.W.Frag} {C : Ctx} {G H G' H' G2 H2 : Hp} {b b' : Int} {σ : L2.St} {en en' : En} {a dx : Addr} {cn f : Str} {ms ms' : Ms} {me : Option Bool} {i : Nat} {fv : List (Str × V)} {π : Option Pid} {μ fp : List Addr}
end
section
variable {X : Cx} {W : WX} {e o : Expr} {es : List Expr} {w : WE} {r : WA} {p pos apos : Pos} {x m cn : Str} {k : Nat} {f : Addr} {fd : FuncData} {ps : List Str} {Wm : WM} {i : Nat}
end
end KD

/-! Objects that change: made and used at once, walked, made data. -/
namespace KD
open PySem PySem.Spec PyProof.Rows L2 KP
section
variable {X : Cx} {W : WX} {e o : Expr} {es : List Expr} {w : WE} {r : WA} {p pos apos pos1 : Pos} {x m cn : Str} {k k2 : Nat} {f f2 : Addr} {fd fd2 : FuncData} {ps ps2 : List Str} {Wi Wm : WM} {i : Nat}
end
/-! ### cells in sight, several at once -/
section
variable {K : PySem.W.Frag} {C : Ctx} {G H G' H' : Hp} {σ : L2.St} {en : En} {l : List Addr} {d : Addr} {u o : HO}
end
section
variable {K : PySem.W.Frag} {C : Ctx} {G H : Hp} {σ : L2.St} {en : En} {a p : Addr} {o : HO}
end
/-! ### [{} for ..] as a field -/
section
variable {X : Cx} {W : WX} {e : Expr}
end
end KD

/-! Objects that change: their lists and dicts walked; an __init__ whose containers become data. -/
namespace KD
open PySem PySem.Spec PyProof.Rows L2 KP
/-! ### for k, x in enumerate(self.f), the attributes stay -/
section
variable {K : PySem.W.Frag} {C : Ctx} {G H : Hp} {σ : L2.St} {en : En} {cn f : Str} {i : Nat}
/-- the list of a field, of an object whose attributes stay: at the same place at all times -/
theorem Rel.stay (R : Rel K C G H σ en) {Q : Ms → MF → Prop} (q : mobG cn i f en fun me ms m => me = some true ∧ Q ms m) : ∃ a dx fv v ms m, C.μ.head? = some a ∧ C.H0 a = some (.ins (He.ga K cn) dx fv) ∧ fv.lookup f = some v ∧ MFR K G H v m ∧ Q ms m := by
  obtain ⟨me, ms, m, a, dx, fv, v, e, el, L, R1, ev, rm, em, q⟩ := mobG_open R q
  obtain ⟨h1, h2⟩ := L.me_ true em
  exact ⟨a, dx, fv, v, ms, m, h1, by rw [← h2 rfl]; exact L.hi, ev, rm, q⟩
end
section
variable {X : Cx} {W : WX} {st : Stmt} {cn f : Str} {i : Nat}
end
/-! ### [.. for k, x in self.f[j].items()] -/
theorem RepK.at {K : PySem.W.Frag} {G : Hp} : ∀ {vs : List (Key × V)} {xs : List (Key × D)} {i : Nat} {k : Key} {x : D}, RepK K G vs xs → xs[i]? = some (k, x) → ∃ v, vs[i]? = some (k, v) ∧ Rep K G v x
  | _, _, _, _, _, .nil, e => by simp at e
  | _, _, 0, _, _, .cons h _, e => by simp at e; obtain ⟨rfl, rfl⟩ := e; exact ⟨_, rfl, h⟩
  | _, _, i + 1, _, _, .cons _ r, e => by
    obtain ⟨v, h1, h2⟩ := RepK.at (i := i) r (by simpa using e)
    exact ⟨v, by simpa using h1, h2⟩
section
variable {X : Cx} {W : WX} {e : Expr} {cn f : Str} {i j : Nat}
end
end KD

/-! min of tuples of ints; dicts as data: get, walks; an __init__ whose containers become data. -/
namespace KD
open PySem PySem.Spec PyProof.Rows L2 KP
def tI (l : List Int) : D := .tup (l.map D.int)
abbrev minL (l : List Int) (ls : List (List Int)) : List Int := ls.foldl (fun a y => if PySem.W.listLt y a = true then y else a) l
section
variable {X : Cx} {W : WX}
variable {e d : Expr} {p pos kpos : Pos} {wa wd : WE}
end
/-! ### dicts as data: get, items, values, keys -/
section
variable {X : Cx} {W : WX} {e o : Expr} {apos cpos : Pos} {wa wb : WE} {tg : Expr}
end
end KD

/-! An __init__ whose containers become data; dicts of one's own with keys that are tuples; functions as values. -/
namespace KD
open PySem PySem.Spec PyProof.Rows L2 KP
section
variable {K : PySem.W.Frag} {C : Ctx} {σ : L2.St} {en : En}
end
section
variable {P : Program} {w : World} {K : PySem.W.Frag} {mg : Str → Option Value} {base : Heap} {x qual : Str} {params : Arguments} {body : List Stmt} {scope : Scope} {dvs : List V} {kws : List (Str × V)} {f : Addr} {fd : FuncData} {k : Nat}
end
/-! ### dicts of one's own -/
section
variable {X : Cx} {W : WX} {st : Stmt} {i : Nat} {w wk wa : WE} {r : WA}
theorem DGet.tf {H : Hp} {a b : Addr} {kvs : List (List Key × V)} {k : List Key} (e : FzT H a kvs) (eb : H b = some (.tup (k.map kV))) : DGet H a (.ref b) (valV kvs k) := .inr ⟨kvs, k, b, .inr e, rfl, eb, rfl⟩
end
/-! ### functions as values -/
section
variable {X : Cx} {W : WX} {e fe : Expr} {es : List Expr} {r : WA} {pos : Pos} {wf : WE}
def Callb (X : Cx) (n : Str) (Wd : WD) : Prop := ∃ k fd ps, FnOk X.prog X.w X.K X.mg X.base (L2.CX X.prog X.w) k (He.ga X.K n) fd ps (Pr X.K Wd) ∧ Room k X.A ∧ PySem.W.keepIn X.K (.ref (He.ga X.K n)) = true ∧ Binds X.K fd ps []
inductive Callbs (X : Cx) : List (Str × WD) → Prop
  | nil : Callbs X []
  | cons {n : Str} {Wd : WD} {r : List (Str × WD)} : Callb X n Wd → Callbs X r → Callbs X ((n, Wd) :: r)
theorem Callbs.look {tb : List (Str × WD)} (h : Callbs X tb) {n : Str} {Wd : WD} (e : tb.lookup n = some Wd) : Callb X n Wd := by
  induction h with
  | nil => simp at e
  | @cons m Wm r h _ ih =>
    rw [List.lookup_cons] at e
    cases q : n == m with
    | true => rw [q] at e; cases e; rw [eq_of_beq q]; exact h
    | false => rw [q] at e; exact ih e
end
end KD

/-! Lists of one's own: [x] * n, xs[k] as a target, lent to a call, walked. -/
namespace KD
open PySem PySem.Spec PyProof.Rows L2 KP
section
variable {X : Cx} {W : WX} {a b e : Expr} {es : List Expr} {wa wb wk : WE} {r : WA} {pos p : Pos} {x : Str} {i : Nat}
/-! ### an own list lent to a call -/
mutual
def D.nol : D → Bool
  | .lst _ => false
  | .tup xs => nols xs
  | .non => true
  | .bl _ => true
  | .int _ => true
  | .str _ => true
  | .ty _ => true
  | .cls _ => true
  | _ => false
def nols : List D → Bool
  | [] => true
  | x :: xs => D.nol x && nols xs
end
def rmL (G : Hp) (ls : List Addr) : Hp := fun c => if c ∈ ls then none else G c
theorem rmL_out {G : Hp} {ls : List Addr} {c : Addr} (h : c ∉ ls) : rmL G ls c = G c := if_neg h
end
section
variable {K : PySem.W.Frag} {G : Hp} {ls : List Addr}
theorem SqT.rm {a : Addr} {vs : List V} (hl : ∀ l ∈ ls, ∃ us, G l = some (.lst us)) (h : SqT K G a vs) : SqT K (rmL G ls) a vs := by
  rcases h with h | h
  · have na : a ∉ ls := fun z => by
      obtain ⟨us, e⟩ := hl a z
      rcases h with h | ⟨o, h⟩ <;> (rw [e] at h; cases h)
    rcases h with h | ⟨o, h⟩
    · exact .inl (.inl (by rw [rmL_out na]; exact h))
    · exact .inl (.inr ⟨o, by rw [rmL_out na]; exact h⟩)
  · exact .inr h
mutual
theorem Rep.rm (hl : ∀ l ∈ ls, ∃ us, G l = some (.lst us)) : ∀ {v : V} {x : D}, Rep K G v x → x.nol = true → Rep K (rmL G ls) v x
  | _, _, .non, _ => .non
  | _, _, .bl b, _ => .bl b
  | _, _, .int i, _ => .int i
  | _, _, .str x, _ => .str x
  | _, _, .ty n, _ => .ty n
  | _, _, .cls C, _ => .cls C
  | _, _, .tup h r, e => .tup (SqT.rm hl h) (Reps.rm hl r (by simpa [D.nol] using e))
  | _, _, .lst _ _, e => by simp [D.nol] at e
  | _, _, .dic _ _, e => by simp [D.nol] at e
  | _, _, .dit _ _, e => by simp [D.nol] at e
  | _, _, .obj _ _, e => by simp [D.nol] at e
theorem Reps.rm (hl : ∀ l ∈ ls, ∃ us, G l = some (.lst us)) : ∀ {vs : List V} {xs : List D}, Reps K G vs xs → nols xs = true → Reps K (rmL G ls) vs xs
  | _, _, .nil, _ => .nil
  | _, _, .cons (x := x) (xs := xs) h r, e => by
    have e : x.nol = true ∧ nols xs = true := by simpa [nols] using e
    exact .cons (Rep.rm hl h e.1) (Reps.rm hl r e.2)
end
end
section
variable {X : Cx} {W : WX} {e : Expr} {es : List Expr} {w : WE} {r : WA} {p pos : Pos} {x : Str} {i k : Nat} {f : Addr} {fd : FuncData} {ps : List Str} {Wd : WD}
end
/-! ### an own list walked, in a comprehension -/
section
variable {X : Cx} {W : WX} {e : Expr} {i : Nat}
end
end KD

/-! What callers want of star parameters and of methods whose self changes. -/
namespace KD
open PySem PySem.Spec PyProof.Rows L2 KP
section
variable {K : PySem.W.Frag} {x qual : Str} {params : Arguments} {body : List Stmt} {scope : Scope} {kws : List (Str × V)} {f : Addr} {fd : FuncData} {ps : List Str} {pv : Str}
theorem bindsS (F : FunD K x qual params body scope [] kws f fd)
    (h : ∀ (kV doc pm : Value) (an : Option Addr) (cdv ct : Value) (us rest : List Value), us.length = ps.length → bindArgs (PySem.W.fnOf x qual params body scope .none kV doc pm an cdv ct) ⟨us ++ rest, []⟩ = (newTuple rest >>= fun t => pure (ps.zip us ++ [(pv, t)]))) :
    ∀ us rest : List Value, us.length = ps.length → bindArgs fd ⟨us ++ rest, []⟩ = (newTuple rest >>= fun t => pure (ps.zip us ++ [(pv, t)])) := by
  obtain ⟨oc, od, dV, kV, doc, pm, an, cdv, ct, osl, rfl, lk, hcd, hD, hK⟩ := F.ex
  rcases hD with ⟨_, rfl⟩ | ⟨e, _⟩
  · exact fun us rest hl => h kV doc pm an cdv ct us rest hl
  · exact absurd rfl e
end
structure CalR (P : Program) (w : World) (K : PySem.W.Frag) (mg : Str → Option Value) (base : Heap) (k : Nat) (f : Addr) (sp : Sp) : Prop where
  F : FnR P w K mg base (L2.CX P w) k f sp
end KD

/-! a, b, .. = .., where names are cells: by a tuple. -/
namespace KD
open PySem PySem.Spec PyProof.Rows L2 KP
section
variable {X : Cx} {W : WX} {st : Stmt}
end
end KD

/-! list(..) as an own list; xs.pop(k). -/
namespace KD
open PySem PySem.Spec PyProof.Rows L2 KP
section
variable {X : Cx} {W : WX} {e a b : Expr} {w : WE} {r : WA} {pos p : Pos} {es : List Expr} {x : Str} {i : Nat}
theorem Reps.erase {K : PySem.W.Frag} {G : Hp} : ∀ {vs : List V} {xs : List D} (j : Nat), Reps K G vs xs → Reps K G (vs.eraseIdx j) (xs.eraseIdx j)
  | _, _, _, .nil => by simp; exact .nil
  | _, _, 0, .cons _ r => r
  | _, _, j + 1, .cons h r => .cons h (Reps.erase j r)
end
end KD

/-! x[k], k in x, len(x), where x is of an own class. -/
namespace KD
open PySem PySem.Spec PyProof.Rows L2 KP
section
variable {X : Cx} {CX : CXT} {k : Nat} {f : Addr} {fd : FuncData} {ps : List Str} {sp : Sp} {dvs : List V} {ds : List Value} {E : L2.St → XK}
theorem run_in1 {pins : List (Addr × Obj)} {σ : L2.St} {H : Hp} {s : Shared} {Q : VK} {us : List Value} {vs : List V} (F : FnOk X.prog X.w X.K X.mg X.base CX k f fd ps sp) (hr : Room (k + 1) X.A) (hb : Binds X.K fd ps ds) (hd : Vals dvs ds) (hx : PassesAt CX X σ (E σ))
    (I : Inv X pins σ H s) (r : Vals vs us) (h : sp (vs ++ dvs) H Q (E σ)) : wpAny (model X.prog X.w) X.A.in1 (call (.ref f) us) (EP X pins σ Q) X.xe s := by
  have r2 : Vals (vs ++ dvs) (us ++ ds) := r.append hd
  have hl : (us ++ ds).length = ps.length := by rw [← r2.length]; exact F.len _ _ _ _ h
  have e0 : Env0 X.prog X.w X.K X.mg X.base X.A.in1 X.stack s H := by
    have e := I.env0
    exact ⟨e.frames, e.mod, e.bs, e.bsz, e.funs, e.frf, e.hok, e.bare⟩
  refine wpAny_call (codeAny_mono (F.run X.A.in1 X.stack s H ⟨us, []⟩ (us ++ ds) (vs ++ dvs) Q (E σ) hr.in1 e0 (hb s us I.kIn hl) r2 h) fun r s' hq => ?_)
  cases r with
  | error e => exact hx pins H s e s' I hq
  | ok fl =>
    cases fl with
    | ret u => exact I.after hq
    | next => exact False.elim hq
    | brk => exact False.elim hq
    | cont => exact False.elim hq
end
theorem fnin {K : PySem.W.Frag} {x qual : Str} {params : Arguments} {body : List Stmt} {scope : Scope} {dvs : List V} {kws : List (Str × V)} {f : Addr} {fd : FuncData} (F : FunD K x qual params body scope dvs kws f fd) : PySem.W.fnIn K f = true := by
  obtain ⟨oc, od, dV, kV, doc, pm, an, cdv, ct, osl, rfl, lk, _⟩ := F.ex
  unfold PySem.W.fnIn
  rw [lk]
section
variable {X : Cx} {W : WX} {e a b : Expr} {w wa wb : WE} {r : WA} {p pos apos : Pos} {x m : Str} {k : Nat} {f : Addr} {fd : FuncData} {ps : List Str} {Wd : WD} {cn : Str}
/-- own[..] -/
theorem d_ixO (ha : DE X W a wa) (hb : DE X W b wb) (hm : Meth X.K (He.ga X.K cn) "__getitem__" f) (hfn : PySem.W.fnIn X.K f = true)
    (F : FnOk X.prog X.w X.K X.mg X.base (L2.CX X.prog X.w) k f fd ps (Pr X.K Wd)) (hroom : Room (k + 1) X.A) (hbd : Binds X.K fd ps []) (tk : Takes X W)
    (hs : ∀ o i, subscripted b true o i = runValue (.builtin "lifetime.subscript" ⟨[o, i], []⟩) := by intro _ _; rfl) : DE X W (.Subscript a b pos) (eOwn2 cn (fun _ => true) Wd wa wb) := by
  refine ⟨fun pins s σ H Z I h => ?_⟩
  obtain ⟨C, G, en, Q, E, R, xo, q, kk⟩ := h
  refine Subscript_ (binT (f := subscriptTail a b) ha hb I (R := fun x y H2 => ∃ G2 en2 dx dy, Rel X.K C G2 H2 σ en2 ∧ Same G G2 ∧ Rep X.K G2 x dx ∧ Rep X.K G2 y dy ∧ (match dx with
      | .obj c fs => c = cn ∧ true = true ∧ Wd [.d (.obj c fs), .d dy] en2.b (fun z b' => Q z { en2 with b := b' }) (fun z b' => E z { en2 with b := b' })
      | _ => False)) ?_ fun v u s2 x y H2 I2 rx ry q2 => ?_)
  · refine ⟨C, G, en, _, E, R, xo, q, fun v x G1 H1 en1 R1 s1 r1 q1 => ?_⟩
    exact ⟨C, G1, en1, _, E, R1, xo, q1, fun u y G2 H2 en2 R2 s2 r2 q2 => ⟨G2, en2, x, y, R2, s1.trans s2, r1.mono s2, r2, q2⟩⟩
  · obtain ⟨G2, en2, dx, dy, R2, s2', r1, r2, q2⟩ := q2
    cases r1 with
    | @obj a0 dx0 c0 vs0 xs0 h1 h2 =>
      obtain ⟨ec, _, q2⟩ := q2
      subst ec
      obtain rfl : v = Value.ref _ := rx
      obtain ⟨mA, J, _⟩ := ins_get I2.hok (R2.sub _ _ h1)
      obtain ⟨od, J, _⟩ := J.look
      obtain ⟨mf, hF⟩ := I2.fr
      refine PySem.W.sub_K hF I2.ok.mod.kin J hm.at_ hfn hm.fn ?_ (hs _ _)
      refine run_in1 (dvs := []) (ds := []) (E := L2.WE W) (Q := Z) (us := [.ref _, u]) (vs := [.ref _, y]) F hroom hbd .nil (passAt tk σ) I2 (.cons rfl (.cons ry .nil)) ?_
      exact pr_of R2 xo (.cons (argd (Rep.obj h1 h2)) (.cons (argd r2) .nil)) q2 fun v y G' H' en' R' s' r' q' => kk v y G' H' en' R' (s2'.trans s') r' q'
    | _ => exact q2.elim
/-- k in own, k not in own -/
def eOwnIn (cn : Str) (neg : Bool) (Wd : WD) (wa wb : WE) : WE := fun en Q E => wa en (fun y en1 => wb en1 (fun x en2 => match x with
  | .obj c fs => c = cn ∧ Wd [.d (.obj c fs), .d y] en2.b (fun z b' => match z with | .bl t => Q (.bl (if neg then !t else t)) { en2 with b := b' } | _ => False) (fun z b' => E z { en2 with b := b' })
  | _ => False) E) E
theorem own_in {op : CmpOp} {neg : Bool} (hop : (op = .In ∧ neg = false) ∨ (op = .NotIn ∧ neg = true)) (ha : DE X W a wa) (hb : DE X W b wb) (hm : Meth X.K (He.ga X.K cn) "__contains__" f)
    (F : FnOk X.prog X.w X.K X.mg X.base (L2.CX X.prog X.w) k f fd ps (Pr X.K Wd)) (hroom : Room k X.A) (hbd : Binds X.K fd ps []) (tk : Takes X W) {pins : List (Addr × Obj)} {s : Shared} {σ : L2.St} {H : Hp} {Z : VK} (I : Inv X pins σ H s) (h : Rl X.K W (eOwnIn cn neg Wd wa wb) σ H Z) :
    wpAny (model X.prog X.w) X.A (eval a X.env) (fun v s₁ => wpAny (model X.prog X.w) X.A (eval b X.env) (fun u s₂ => wpAny (model X.prog X.w) X.A (compareOp op v u) (EP X pins σ Z) X.xe s₂) X.xe s₁) X.xe s := by
  obtain ⟨C, G, en, Q, E, R, xo, q, kk⟩ := h
  refine binT (f := compareOp op) ha hb I (R := fun y x H2 => ∃ G2 en2 dx dy, Rel X.K C G2 H2 σ en2 ∧ Same G G2 ∧ Rep X.K G2 x dx ∧ Rep X.K G2 y dy ∧ (match dx with
      | .obj c fs => c = cn ∧ Wd [.d (.obj c fs), .d dy] en2.b (fun z b' => match z with | .bl t => Q (.bl (if neg then !t else t)) { en2 with b := b' } | _ => False) (fun z b' => E z { en2 with b := b' })
      | _ => False)) ?_ fun v u s2 y x H2 I2 ry rx q2 => ?_
  · refine ⟨C, G, en, _, E, R, xo, q, fun v y G1 H1 en1 R1 s1 r1 q1 => ?_⟩
    exact ⟨C, G1, en1, _, E, R1, xo, q1, fun u x G2 H2 en2 R2 s2 r2 q2 => ⟨G2, en2, x, y, R2, s1.trans s2, r2, r1.mono s2, q2⟩⟩
  · obtain ⟨G2, en2, dx, dy, R2, s2', r1, r2, q2⟩ := q2
    cases r1 with
    | @obj a0 dx0 c0 vs0 xs0 h1 h2 =>
      obtain ⟨ec, q2⟩ := q2
      subst ec
      obtain rfl : u = Value.ref _ := rx
      obtain ⟨mA, J, _⟩ := ins_get I2.hok (R2.sub _ _ h1)
      obtain ⟨od, J, _⟩ := J.look
      obtain ⟨mf, hF⟩ := I2.fr
      have core : wpAny (model X.prog X.w) X.A (call (.ref f) [.ref a0, v]) (fun r s' => ∃ t, r = .bool t ∧ EP X pins σ Z (.bool (if neg then !t else t)) s') X.xe s2 := by
        refine wpAny_mono (run_fnSD (dvs := []) (ds := []) (E := L2.WE W) (Q := fun w H' => ∃ t, w = .bl t ∧ Z (.bl (if neg then !t else t)) H') (us := [.ref a0, v]) (vs := [.ref a0, y]) F hroom hbd .nil (passAt tk σ) I2 (.cons rfl (.cons ry .nil)) ?_) (fun r s' h => ?_) fun _ _ h => h
        · refine pr_of (Q := fun z en' => match z with | .bl t => Q (.bl (if neg then !t else t)) en' | _ => False) R2 xo (.cons (argd (Rep.obj h1 h2)) (.cons (argd r2) .nil)) q2 fun w z G' H' en' R' s' r' q' => ?_
          cases r' with
          | bl t => exact ⟨t, rfl, kk _ _ G' H' en' R' (s2'.trans s') (.bl _) q'⟩
          | _ => exact q'.elim
        · obtain ⟨w, H', I', rw_, t, rfl, hz⟩ := h
          cases rw_
          exact ⟨t, rfl, .bl _, H', I', rfl, hz⟩
      rcases hop with ⟨rfl, rfl⟩ | ⟨rfl, rfl⟩
      · refine PySem.W.in_K hF I2.ok.mod.kin J hm.at_ hm.fn (wpAny_mono core (fun r s' ⟨t, e, h⟩ => ?_) fun _ _ h => h)
        subst e
        exact wpAny_truthy_bool h
      · refine PySem.W.notIn_K hF I2.ok.mod.kin J hm.at_ hm.fn (wpAny_mono core (fun r s' ⟨t, e, h⟩ => ?_) fun _ _ h => h)
        subst e
        exact wpAny_truthy_bool h
    | _ => exact q2.elim
theorem dt_inO {op : CmpOp} {neg : Bool} (hop : (op = .In ∧ neg = false) ∨ (op = .NotIn ∧ neg = true)) (ha : DE X W a wa) (hb : DE X W b wb) (hm : Meth X.K (He.ga X.K cn) "__contains__" f)
    (F : FnOk X.prog X.w X.K X.mg X.base (L2.CX X.prog X.w) k f fd ps (Pr X.K Wd)) (hroom : Room k X.A) (hbd : Binds X.K fd ps []) (tk : Takes X W) (hmk : behindInMarks op b = false := by rfl) : DT X W (.Compare a [op] [b] pos) (tOf (eOwnIn cn neg Wd wa wb)) :=
  ⟨fun pins s σ H Z I h => by
    obtain ⟨C, G, en, Q, E, R, xo, q, kk⟩ := h
    have h2 : Rl X.K W (eOwnIn cn neg Wd wa wb) σ H (fun z H' => ∃ t, z = .bl t ∧ Z t H') := ⟨C, G, en, _, E, R, xo, q, fun v x G1 H1 en1 R1 s1 r1 q1 => by
      cases r1 with
      | bl c => exact ⟨c, rfl, kk c G1 H1 en1 R1 s1 q1⟩
      | _ => exact q1.elim⟩
    refine wpAny_isTrue_Compare1 (wpAny_mono (own_in hop ha hb hm F hroom hbd tk I h2) (fun v s1 h => wpAny_mono h (fun u s2 h => wpAny_mono h (fun c s3 h => ?_) fun _ _ x => x) fun _ _ x => x) fun _ _ x => x) hmk
    obtain ⟨z, H3, I3, r3, t, e, q3⟩ := h
    subst e
    cases r3
    exact wpAny_truthy_bool ⟨H3, I3, q3⟩⟩
end
end KD

/-! Defs that return a list that is new, and theirs to give. -/
namespace KD
open PySem PySem.Spec PyProof.Rows L2 KP
def PrF (K : PySem.W.Frag) (W : WD) : Sp := fun vs H Z E => ∃ π G b bs Q EQ, Same G H ∧ PnT K π G H b ∧ ArgsR K (cx0 π) G vs bs ∧ W bs b Q EQ ∧
  (∀ a us xs G' H' b', Fr K π [] G H G' H' b' → H' a = some (.lst us) → G' a = none → H a = none → Reps K G' us xs → Q (.lst xs) b' → Z (.ref a) H') ∧ (∀ cls od x G' H' b', Fr K π [] G H G' H' b' → RepX K G' H' cls od x → EQ x b' → E cls od H')
section
variable {P : Program} {w : World} {K : PySem.W.Frag} {mg : Str → Option Value} {base : Heap} {x qual : Str} {params : Arguments} {body : List Stmt} {scope : Scope} {dvs : List V} {kws : List (Str × V)} {f : Addr} {fd : FuncData} {k : Nat}
end
section
variable {X : Cx} {W : WX} {e a b : Expr} {w : WE} {r : WA} {pos p : Pos} {es : List Expr} {x : Str} {i k : Nat} {f : Addr} {fd : FuncData} {ps : List Str} {Wd : WD} {st : Stmt}
theorem Free.call {K : PySem.W.Frag} {C : Ctx} {G H G' H' : Hp} {σ : L2.St} {en : En} {b' : Int} {a : Addr} (R : Rel K C G H σ en) (fr : Fr K C.π [] G H G' H' b') (n : H a = none) : Free H' σ { en with b := b' } a := fun j z => by
  have z : a ∈ fpB H' σ[j]? en.sl[j]? := z
  cases e1 : σ[j]? with
  | none => rw [e1] at z; cases z
  | some v =>
    cases e2 : en.sl[j]? with
    | none => rw [e1, e2] at z; cases v <;> cases z
    | some c =>
      have kp : ∀ d ∈ fpB H (some v) (some c), H' d = H d ∧ G' d = none := fun d hd => by
        have hd' : d ∈ fpB H σ[j]? en.sl[j]? := by rw [e1, e2]; exact hd
        obtain ⟨_, _, _, _, _, t, g, ow⟩ := R.at_ hd'
        exact fr.trk (R.notPen ow) t g
      have e3 := (SlotR.frame fr.gg kp (R.slot j v c e1 e2)).2
      rw [e1, e2, e3, ← e1, ← e2] at z
      exact R.freshO n j z
theorem test_of {σ : L2.St} {H : Hp} {Z : Bool → Hp → Prop} {w : WE} (h : RlT X.K W (tOf w) σ H Z) : Rl X.K W w σ H (fun z H' => ∃ t, z = .bl t ∧ Z t H') := by
  obtain ⟨C, G, en, Q, E, R, xo, q, kk⟩ := h
  exact ⟨C, G, en, _, E, R, xo, q, fun v x G1 H1 en1 R1 s1 r1 q1 => by
    cases r1 with
    | bl c => exact ⟨c, rfl, kk c G1 H1 en1 R1 s1 q1⟩
    | _ => exact q1.elim⟩
end
end KD

/-! A name for a comprehension over an own list that stays. -/
namespace KD
open PySem PySem.Spec PyProof.Rows L2 KP
section
variable {X : Cx} {W : WX} {e : Expr} {i j : Nat} {st : Stmt}
end
end KD

/-! Star parameters of plain defs. -/
namespace KD
open PySem PySem.Spec PyProof.Rows L2 KP
section
variable {P : Program} {w : World} {K : PySem.W.Frag} {mg : Str → Option Value} {base : Heap} {x qual : Str} {params : Arguments} {body : List Stmt} {scope : Scope} {dvs : List V} {kws : List (Str × V)} {f : Addr} {fd : FuncData} {k : Nat}
end
section
variable {X : Cx} {W : WX} {e o : Expr} {es : List Expr} {w : WE} {r : WA} {p pos : Pos} {x : Str} {k : Nat} {f : Addr} {Wd : WD}
end
end KD

/-! d.update(e): e a name with a dict of its own that stays, or a new dict. dict(xs) of pairs. -/
namespace KD
open PySem PySem.Spec PyProof.Rows L2 KP
/-- the pairs of one laid into the other -/
def updD (kvs zs : List (Key × D)) : List (Key × D) := zs.foldl (fun acc kv => putD acc kv.1 kv.2) kvs
theorem RepK.upd {K : PySem.W.Frag} {G : Hp} : ∀ {zs : List (Key × V)} {ys : List (Key × D)} {vs : List (Key × V)} {xs : List (Key × D)}, RepK K G zs ys → RepK K G vs xs → RepK K G (mergeK vs zs) (updD xs ys)
  | _, _, _, _, .nil, r => r
  | _, _, _, _, .cons h t, r => (RepK.upd t (r.put h) :)
section
variable {X : Cx} {W : WX} {st : Stmt} {i j : Nat}
end
/-! ### dict(xs), xs a list of pairs -/
def pairs2 : List D → Option (List (Key × D))
  | [] => some []
  | .tup [y, z] :: r => (match keyD y, pairs2 r with | some k, some kvs => some ((k, z) :: kvs) | _, _ => none)
  | _ :: _ => none
theorem Reps.pairs {K : PySem.W.Frag} {G H : Hp} (sg : Same G H) : ∀ {vs : List V} {xs : List D} {kvs : List (Key × D)}, Reps K G vs xs → pairs2 xs = some kvs → ∃ (ps : List Addr) (us : List (Key × V)), vs = ps.map V.ref ∧ Paired (fun p (kv : Key × V) => SqT K H p [kV kv.1, kv.2]) ps us ∧ RepK K G us kvs
  | _, _, _, .nil, e => by cases e; exact ⟨[], [], rfl, .nil, .nil⟩
  | _, _, kvs, .cons (x := x) (xs := xs) h r, e => by
    unfold pairs2 at e
    split at e
    · rename_i z; cases z
    · rename_i y z r' q
      cases q
      split at e
      · rename_i k kvs' e1 e2
        cases e
        obtain ⟨ps, us, h1, h2, h3⟩ := Reps.pairs sg r e2
        cases h with
        | tup g g2 =>
          cases g2 with
          | cons a1 a2 =>
            cases a2 with
            | cons b1 b2 =>
              cases b2
              have q := a1.key e1
              subst q
              exact ⟨_ :: ps, (k, _) :: us, by rw [h1]; rfl, .cons (Same.tup sg g) h2, .cons b1 h3⟩
      · cases e
    · cases e
section
variable {X : Cx} {W : WX} {e : Expr} {es : List Expr} {r : WA} {x : Str} {p pos : Pos}
end
end KD

/-! Several names at once, some of them new dicts or lists of their own. -/
namespace KD
open PySem PySem.Spec PyProof.Rows L2 KP
section
variable {X : Cx} {W : WX} {K : PySem.W.Frag} {G H : Hp} {st : Stmt} {pos : Pos}
inductive AM where
  | e (w : WE) | f (w : WF) | k (w : WFK)
def cB : B → Bool
  | .own _ => true
  | .odk _ => true
  | _ => false
def DistC (vs : List V) (bs : List B) : Prop := ∀ (i j : Nat) (a : Addr) (b c : B), vs[i]? = some (V.ref a) → vs[j]? = some (V.ref a) → bs[i]? = some b → cB b = true → bs[j]? = some c → cB c = true → i = j
theorem DistC.data {vs : List V} {bs : List B} {v : V} {x : D} (di : DistC vs bs) : DistC (v :: vs) (.d x :: bs) := fun i j a b c h1 h2 h3 h4 h5 h6 => by
  cases i with
  | zero => simp at h3; subst h3; cases h4
  | succ i =>
    cases j with
    | zero => simp at h5; subst h5; cases h6
    | succ j => exact congrArg Nat.succ (di i j a b c (by simpa using h1) (by simpa using h2) (by simpa using h3) h4 (by simpa using h5) h6)
theorem DistC.cell {vs : List V} {bs : List B} {a : Addr} {y : B} (di : DistC vs bs) (nh : ∀ (i : Nat) (c : Addr) (b : B), vs[i]? = some (V.ref c) → bs[i]? = some b → cB b = true → c ≠ a) : DistC (.ref a :: vs) (y :: bs) := fun i j c b d h1 h2 h3 h4 h5 h6 => by
  cases i with
  | zero =>
    cases j with
    | zero => rfl
    | succ j =>
      simp at h1; subst h1
      exact absurd rfl (nh j a d (by simpa using h2) (by simpa using h5) h6)
  | succ i =>
    cases j with
    | zero =>
      simp at h2; subst h2
      exact absurd rfl (nh i a b (by simpa using h1) (by simpa using h3) h4)
    | succ j => exact congrArg Nat.succ (di i j c b d (by simpa using h1) (by simpa using h2) (by simpa using h3) h4 (by simpa using h5) h6)
end
end KD

/-! A lambda handed to a def: its making, its calls there. -/
namespace KD
open PySem PySem.Spec PyProof.Rows L2 KP LamX NdefX
/-- what a function of data makes of its arguments -/
abbrev OF := List D → (D → Prop) → (XC → Prop) → Prop
theorem Pen.kept {K : PySem.W.Frag} {H H' : Hp} {p : Pid} {b : Int} (h : Pen K H p b) (k : ∀ a o, H a = some o → (∀ ps, o ≠ .tbl ps) → H' a = some o) : Pen K H' p b := by
  obtain ⟨r, e, l, y⟩ := h
  refine ⟨r, k _ _ e (fun _ z => nomatch z), ?_, y⟩
  rcases l with (l | ⟨o2, l⟩) | l
  · exact .inl (.inl (k _ _ l (fun _ z => nomatch z)))
  · exact .inl (.inr ⟨o2, k _ _ l (fun _ z => nomatch z)⟩)
  · exact .inr l
section
variable {K : PySem.W.Frag} {C : Ctx} {G H G' H' : Hp} {σ : L2.St} {en : En} {b0 b1 : Int}
theorem Fr.bb (f : Fr K none [] G H G' H' b0) : Fr K none [] G H G' H' b1 := ⟨f.gg, f.sub, f.new, f.keep, f.tab, f.nt, (fun p e => nomatch e), f.slf⟩
end
/-! ### a function at fa, called within X -/
structure CallX (X : Cx) (fa : Addr) (g : Hp) (o : OF) : Prop where
  fn : ∀ pins σ H s, Inv X pins σ H s → PySem.W.FnAt fa s.heap
  run : ∀ pins σ H s G us vs xs Q EQ Z (EZ : XK), Inv X pins σ H s → TbH X.K H → (∀ a ps, G a ≠ some (.tbl ps)) → Same G H → Same g G → Vals vs us → Reps X.K G vs xs → o xs Q EQ → PassesAt (L2.CX X.prog X.w) X σ (fun cls od H => EZ cls od H) →
    (∀ v y G' H', Fr X.K none [] G H G' H' 0 → Rep X.K G' v y → Q y → Z v H') →
    (∀ cls od y G' H', Fr X.K none [] G H G' H' 0 → RepX X.K G' H' cls od y → EQ y → EZ cls od H') →
    wpAny (model X.prog X.w) X.A (call (.ref fa) us) (EP X pins σ Z) X.xe s
section
variable {X : Cx} {W : WX} {e : Expr} {es : List Expr} {r : WA} {p pos : Pos} {a : Str} {i : Nat} {fa : Addr} {g : Hp} {o : OF}
end
/-! ### a def that gets a function -/
structure CtxAt (X : Cx) (P : Program) (w : World) (K : PySem.W.Frag) (mg : Str → Option Value) (base : Heap) (A : Around) (outer : List Env) (s : Shared) (H : Hp) : Prop where
  P : X.prog = P
  w : X.w = w
  K : X.K = K
  mg : X.mg = mg
  base : X.base = base
  s : X.s_0 = s
  H : X.H_0 = H
  o : X.outer = outer
  ex : X.ex = []
  rm : ∀ j, Room (j + 1) A → Room j X.A
structure FnL (P : Program) (w : World) (K : PySem.W.Frag) (mg : Str → Option Value) (base : Heap) (k : Nat) (f : Addr) (ps : List Str) (Wl : Addr → Hp → OF → WD) : Prop where
  run : ∀ (A : Around) (outer : List Env) (s : Shared) (H : Hp) (us : List Value) (vs : List V) (Z : VK) (E : XK) (fa : Addr) (g : Hp) (o : OF), Room k A → Env0 P w K mg base A outer s H → Vals vs us →
    (∀ X : Cx, CtxAt X P w K mg base A outer s H → CallX X fa g o) → Pr K (Wl fa g o) vs H Z E → codeAny (model P w) A (.call (.ref f) ⟨us, []⟩) (CR (L2.CX P w) outer P w H s Z E) s
section
variable {P : Program} {w : World} {K : PySem.W.Frag} {mg : Str → Option Value} {base : Heap} {x qual : Str} {params : Arguments} {body : List Stmt} {scope : Scope} {dvs : List V} {kws : List (Str × V)} {f : Addr} {fd : FuncData} {k : Nat}
theorem FnL.mono {Wl : Addr → Hp → OF → WD} {ps : List Str} {j : Nat} (F : FnL P w K mg base k f ps Wl) (h : k ≤ j) : FnL P w K mg base j f ps Wl := ⟨fun A outer s H us vs Z E fa g o hr => F.run A outer s H us vs Z E fa g o (hr.mono h)⟩
end
end KD

/-! A lambda made, and handed to a def. -/
namespace KD
open PySem PySem.Spec PyProof.Rows L2 KP LamX NdefX
abbrev lamQ (X : Cx) : Str := X.env.qual ++ "<lambda>"
abbrev lamCl (X : Cx) (sc : Scope) : List (Str × Addr) := cloFrom X.env.cells sc.names []
/-- the object of the lambda made within X -/
abbrev lamOb (X : Cx) (pr : Arguments) (bd : Expr) (sc : Scope) (pm : Value) (d : Addr) (v : Value) : Obj := PySem.W.kla_obj "<lambda>" (lamQ X) pr bd sc (lamCl X sc) pm d v
/-- what is known when it is made: its object at g, its code object at d, and where the table tells it -/
structure LamNew (X : Cx) (H H1 : Hp) (t : Shared) (P : Addr) (pr : Arguments) (bd : Expr) (sc : Scope) (at_ : Pos) (g d : Addr) (pm v : Value) (us : Array Value) : Prop where
  old : ∀ a o, H a = some o → isTb o = false → H1 a = some o
  tbs : ∀ a us, H a = some (.tbl us) → ∃ ws, H1 a = some (.tbl ws)
  tb : TbH X.K H1
  ob : t.heap.get? g = some (lamOb X pr bd sc pm d v)
  no : H1 g = none
  nf : g ∉ frs X.stack
  tab : H1 P = some (.tbl us)
  told : codeAmong at_ us.toList = some (.ref d)
section
variable {X : Cx} {pins : List (Addr × Obj)} {σ : L2.St} {H : Hp} {s : Shared}
theorem TbH.grow {K : PySem.W.Frag} {P d : Addr} {us : Array Value} {q : Str} {at_ : Pos} (tb : TbH K H) (hm : (P, q) ∈ tabT K) (only : ∀ p ∈ tabT K, p.1 = P → p.2 = q) (hP : H P = some (.tbl us)) (tr : TriplesOk us.toList) (hd : H d = none) :
    TbH K (upd (upd H P (.tbl (us ++ #[rawInt at_.line, rawInt at_.col, .ref d]))) d (CodeO d q)) := fun p hp => by
  have kept : ∀ a o, H a = some o → isTb o = false → upd (upd H P (.tbl (us ++ #[rawInt at_.line, rawInt at_.col, .ref d]))) d (CodeO d q) a = some o := fun a o ha ho => by
    have n1 : a ≠ d := ne_of_none ha hd
    have n2 : a ≠ P := fun z => by subst z; rw [hP] at ha; cases ha; cases ho
    rw [upd_ne n1, upd_ne n2]; exact ha
  have nPd : P ≠ d := ne_of_none hP hd
  obtain ⟨vs, g1, g2, g3⟩ := tb p hp
  by_cases ep : p.1 = P
  · obtain ⟨pa, pq⟩ := p
    have eq1 : pa = P := ep
    have eq2 : pq = q := only _ hp ep
    subst eq1; subst eq2
    have : vs = us := by
      have z := g1.symm.trans hP
      injection z with z; injection z
    subst this
    refine ⟨_, (upd_ne nPd).trans upd_same, ?_, fun w cv hw => ?_⟩
    · rw [Array.toList_append]; exact PySem.TriplesOk_snoc _ _ _ _ g2
    · rw [Array.toList_append] at hw
      cases among_app _ g2 hw with
      | inl z => obtain ⟨e, h1, h2⟩ := g3 w cv z; exact ⟨e, h1, kept _ _ h2 rfl⟩
      | inr z => exact ⟨d, z, upd_same⟩
  · refine ⟨vs, (upd_ne (ne_of_none g1 hd)).trans ((upd_ne ep).trans g1), g2, fun w cv hw => ?_⟩
    obtain ⟨e, h1, h2⟩ := g3 w cv hw
    exact ⟨e, h1, kept _ _ h2 rfl⟩
end
/-! ### the lambda's own names -/
section
variable {K : PySem.W.Frag} {C : Ctx} {G H G' H' : Hp} {σ : L2.St} {en : En} {vs : List V} {xs : List D} {js : List Nat}
end
section
variable {X : Cx} {pins : List (Addr × Obj)} {σ : L2.St} {H : Hp} {s : Shared}
end
end KD

/-! f(e, .., lambda): the call. -/
namespace KD
open PySem PySem.Spec PyProof.Rows L2 KP LamX NdefX
/-- the first arguments of a call; what stands behind them is told with the state -/
structure LDA (X : Cx) (W : WX) (es : List Expr) (r : WA) : Prop where
  run : ∀ (rest : List Expr) (pos : Pos) (pins : List (Addr × Obj)) (s : Shared) (σ : L2.St) (H : Hp) (Zp : List V → Hp → Prop) (Q : List Value → Shared → Prop), Inv X pins σ H s → RlA X.K W r σ H Zp →
    (∀ us vs s1 H1, Inv X pins σ H1 s1 → Vals vs us → Zp vs H1 → wpAny (model X.prog X.w) X.A (spliced (backTo pos (starEach rest X.env))) (fun ws s2 => Q (us ++ ws) s2) X.xe s1) →
    wpAny (model X.prog X.w) X.A (spliced (backTo pos (starEach (es ++ rest) X.env))) Q X.xe s
section
variable {X : Cx} {W : WX} {e : Expr} {es : List Expr} {w : WE} {r : WA}
end
section
variable {X : Cx} {W : WX} {e0 : Expr} {rest es : List Expr} {w wb : WE} {r : WA} {p pos lpos : Pos} {x : Str} {j k : Nat} {f c P : Addr} {ps : List Str} {Wl : Addr → Hp → OF → WD} {params : Arguments} {body : Expr} {scope : Scope} {Nl pl fr : List Str} {js : List Nat}
end
end KD

/-! A def whose code object is known; a parameter that holds a def. -/
namespace KD
open PySem PySem.Spec PyProof.Rows L2 KP LamX NdefX
section
variable {P : Program} {w : World} {K : PySem.W.Frag} {mg : Str → Option Value} {base : Heap} {x qual : Str} {params : Arguments} {body : List Stmt} {scope : Scope} {dvs : List V} {kws : List (Str × V)} {f : Addr} {fd : FuncData} {k : Nat}
end
section
variable {X : Cx} {W : WX} {e : Expr} {es : List Expr} {r : WA} {p pos : Pos} {a : Str}
end
/-- the tables of the law's lambdas, in the base heap -/
abbrev TBs (tf : List (PySem.W.Frag → Addr)) (K : PySem.W.Frag) (mg : Str → Option Value) (base : Heap) : Prop := ∀ p ∈ ctA tf K, TabB base mg p.1 p.2
theorem TBs.at {tf : List (PySem.W.Frag → Addr)} {K : PySem.W.Frag} {mg : Str → Option Value} {base : Heap} (T : TBs tf K mg base) {f : PySem.W.Frag → Addr} (h : f ∈ tf) : TabB base mg (codeA K (f K)) (tabA K (f K)) := T _ (List.mem_map.mpr ⟨f, h, rfl⟩)
end KD

/-! sorted(xs): ints, any number of them; texts, below 64. -/
namespace KD
open PySem PySem.Spec PyProof.Rows L2 KP
section
variable {X : Cx}
end
end KD

/-! A def that gets a function, and uses repr; the law's def by its code object. -/
namespace KD
open PySem PySem.Spec PyProof.Rows L2 KP LamX NdefX
structure FnLG (P : Program) (w : World) (K : PySem.W.Frag) (mg : Str → Option Value) (base : Heap) (k : Nat) (f : Addr) (ps : List Str) (Wl : Addr → Hp → OF → WD) : Prop where
  run : ∀ (A : Around) (outer : List Env) (s : Shared) (H : Hp) (us : List Value) (vs : List V) (Z : VK) (E : XK) (fa : Addr) (g : Hp) (o : OF), A.guards = some [] → Room k A → Env0 P w K mg base A outer s H → Vals vs us →
    (∀ X : Cx, CtxAt X P w K mg base A outer s H → CallX X fa g o) → Pr K (Wl fa g o) vs H Z E → codeAny (model P w) A (.call (.ref f) ⟨us, []⟩) (CR (L2.CX P w) outer P w H s Z E) s
section
variable {P : Program} {w : World} {K : PySem.W.Frag} {mg : Str → Option Value} {base : Heap} {x qual : Str} {params : Arguments} {body : List Stmt} {scope : Scope} {dvs : List V} {kws : List (Str × V)} {f : Addr} {fd : FuncData} {k : Nat}
theorem FnLG.mono {Wl : Addr → Hp → OF → WD} {ps : List Str} {j : Nat} (F : FnLG P w K mg base k f ps Wl) (h : k ≤ j) : FnLG P w K mg base j f ps Wl := ⟨fun A outer s H us vs Z E fa g o gd hr => F.run A outer s H us vs Z E fa g o gd (hr.mono h)⟩
end
section
variable {X : Cx} {W : WX} {e0 : Expr} {rest es : List Expr} {w wb : WE} {r : WA} {p pos lpos : Pos} {x : Str} {j k : Nat} {f c P : Addr} {ps : List Str} {Wl : Addr → Hp → OF → WD} {params : Arguments} {body : Expr} {scope : Scope} {Nl pl fr : List Str} {js : List Nat}
end
section
variable {P : Program} {w : World} {K : PySem.W.Frag} {mg : Str → Option Value} {base : Heap} {k : Nat} {f : Addr} {fd : FuncData} {ps : List Str} {sp : Sp}
theorem FnG.mkC {x qual : Str} {pm : Arguments} {bd : List Stmt} {sc : Scope} {dvs : List V} {kws : List (Str × V)} {N : List Str} (F : FunD K x qual pm bd sc dvs kws f fd) (S : FnScope N ps sc) (ln : ∀ vs H Q E, sp vs H Q E → vs.length = ps.length)
    (hbody : ∀ (cdv : Value) (A : Around) (out : List Env) (s : Shared) (H : Hp) (vs : List V) (Q : VK) (E : XK), cdv = .ref (codeA K f) → A.guards = some [] → Room k (A.deeper (envOfC qual sc s.heap.objs.size f cdv)) → sp vs H Q E →
      ∃ t, PSs (cxOf CX0 P w K mg base N qual sc f cdv A out s H E) bd t ∧ t { nx := fun _ H' => Q .non H', rt := Q } (start N vs) H) : FnG P w K mg base (k + 1) f fd ps sp := by
  obtain ⟨oc, od, dV, kV, doc, pmv, an, cdv, ct, osl, rfl, lk, hcd, _, _⟩ := F.ex
  obtain ⟨cc, ec⟩ := He.codeIn_ref hcd
  refine ⟨ln, fun A out s H ar us vs Q E gd rm en bn rel hsp => ?_⟩
  have len1 := ln _ _ _ _ hsp
  have Kin : K.In s.heap := en.mod.kin.keeps fun b o z => (en.bs b o z).1
  have lim1 : s.heap.NoLimit := en.mod.nolimit.keeps fun b o z => (en.bs b o z).1
  refine codeAny_call_function rm.depth (Kin _ _ lk) rfl S.co S.gen rfl (PySem.W.codeRec_of Kin hcd) (bn _ _ _ _ ?_)
  refine wpAny_newFunctionEnv_cells S.kind (fun ⟨n, v⟩ hy => ?_) fun env he s1 x => ?_
  · rcases S.par n (List.of_mem_zip hy).1 with z | z
    · exact .inl z
    · exact .inr ⟨z, PySem.W.cellsFrom_some _ _ _ (.inl z)⟩
  subst he
  refine ⟨lim1.keeps x.toInCall.keep, codeAny_func ?_⟩
  obtain ⟨t, ht, hq⟩ := hbody cdv A out s H vs Q E (by rw [ec, codeA_eq lk ec]) gd (rm.deeper _) hsp
  have J0 := inv_start (CX := CX0) (E := E) S rm.hd en len1 rel x
  refine wpAny_mono (ht.run [] s1 (start N vs) H _ J0 hq) (fun fl s2 hs => ?_) fun e s2 hs => hs
  cases fl with
  | ret u =>
    obtain ⟨v, _, H2, J, rv, z⟩ := hs
    exact ⟨v, H2, J.os, J.bare, J.base, J.hok, rv, z⟩
  | next =>
    obtain ⟨_, H2, J, z⟩ := hs
    exact ⟨.non, H2, J.os, J.bare, J.base, J.hok, rfl, z⟩
  | brk =>
    obtain ⟨_, _, _, z⟩ := hs
    exact z.elim
  | cont =>
    obtain ⟨_, _, _, z⟩ := hs
    exact z.elim
end
end KD

/-! An object of an own class with __call__ is called. -/
namespace KD
open PySem PySem.Spec PyProof.Rows L2 KP
section
variable {M : Model} {A : Around} {pos : Pos} {f : Value} {first : List Value} {Q : Value → Shared → Prop} {E : Value → Shared → Prop} {s : Shared}
end
section
variable {prog : Program} {w : World} {A : Around} {s : Shared} {K : PySem.W.Frag} {x C dx f : Addr}
end
section
variable {K : PySem.W.Frag} {x qual : Str} {params : Arguments} {body : List Stmt} {scope : Scope} {dvs : List V} {kws : List (Str × V)} {f : Addr} {fd : FuncData} {ps : List Str}
end
theorem FunD.fnIn {K : PySem.W.Frag} {x qual : Str} {params : Arguments} {body : List Stmt} {scope : Scope} {dvs : List V} {kws : List (Str × V)} {f : Addr} {fd : FuncData} (F : FunD K x qual params body scope dvs kws f fd) : PySem.W.fnIn K f = true := by
  obtain ⟨oc, od, dV, kV, doc, pm, an, cdv, ct, osl, rfl, lk, hcd, hD, hK⟩ := F.ex
  unfold PySem.W.fnIn
  rw [lk]
section
variable {X : Cx} {W : WX} {e : Expr} {es : List Expr} {w : WE} {r rk : WA} {p pos kpos : Pos} {x cn : Str} {k n : Nat} {f : Addr} {fd : FuncData} {ps ks : List Str} {Wd : WD} {kws : List Keyword} {g : List Value → List Value → List Value} {gV : List V → List V → List V}
end
end KD

/-! An object with __call__ is called without keywords; the last parameters may be at their defaults. -/
namespace KD
open PySem PySem.Spec PyProof.Rows L2 KP
section
variable {X : Cx} {W : WX} {e : Expr} {es : List Expr} {w : WE} {r : WA} {p pos : Pos} {x cn : Str} {k n : Nat} {f : Addr} {fd : FuncData} {ps : List Str} {Wd : WD}
end
end KD

/-! Dict displays as data: the empty one, and one of a text and an int. -/
namespace KD
open PySem PySem.Spec PyProof.Rows L2 KP
section
variable {X : Cx} {W : WX} {pos p1 p2 : Pos}
end
end KD

/-! range over integers of any size. -/
namespace L2
open PySem PySem.Spec PyProof.Rows
section
variable {X : Cx} {tg : Expr}
end
end L2
namespace KD
open PySem PySem.Spec PyProof.Rows L2 KP
section
variable {X : Cx} {W : WX} {e : Expr}
end
end KD

/-! Equality of plain data (None, ints, strs, lists and tuples of these). -/
namespace KD
open PySem PySem.Spec PyProof.Rows L2 KP
mutual
def D.pln : D → Bool
  | .non => true
  | .int _ => true
  | .str z => PyData.canLay0 (.str z)
  | .lst xs => plns xs
  | .tup xs => plns xs
  | _ => false
def plns : List D → Bool
  | [] => true
  | x :: xs => D.pln x && plns xs
end
mutual
def D.dep : D → Nat
  | .lst xs => deps xs + 1
  | .tup xs => deps xs + 1
  | _ => 0
def deps : List D → Nat
  | [] => 0
  | x :: xs => max (D.dep x) (deps xs)
end
mutual
theorem pd_pln : ∀ x : D, x.pln = true → ∃ d, x.pd = some d ∧ d.canLay0 = true ∧ d.depth = x.dep
  | .non, _ => ⟨_, rfl, rfl, rfl⟩
  | .int _, _ => ⟨_, rfl, rfl, rfl⟩
  | .str z, h => ⟨_, rfl, h, rfl⟩
  | .lst xs, h => by
    obtain ⟨ds, h1, h2, h3⟩ := pds_pln xs h
    exact ⟨.list ds, by rw [D.pd, h1]; rfl, h2, by show PyData.depthAll ds + 1 = _; rw [h3]; rfl⟩
  | .tup xs, h => by
    obtain ⟨ds, h1, h2, h3⟩ := pds_pln xs h
    exact ⟨.tuple ds, by rw [D.pd, h1]; rfl, h2, by show PyData.depthAll ds + 1 = _; rw [h3]; rfl⟩
  | .bl _, h => by cases h
  | .ty _, h => by cases h
  | .cls _, h => by cases h
  | .dic _, h => by cases h
  | .dit _, h => by cases h
  | .obj _ _, h => by cases h
theorem pds_pln : ∀ xs : List D, plns xs = true → ∃ ds, pds xs = some ds ∧ PyData.canLayAll0 ds = true ∧ PyData.depthAll ds = deps xs
  | [], _ => ⟨[], rfl, rfl, rfl⟩
  | x :: xs, h => by
    have h : (D.pln x && plns xs) = true := h
    rw [Bool.and_eq_true] at h
    obtain ⟨d, h1, h2, h3⟩ := pd_pln x h.1
    obtain ⟨ds, g1, g2, g3⟩ := pds_pln xs h.2
    refine ⟨d :: ds, by rw [pds, h1, g1], ?_, ?_⟩
    · show (d.canLay0 && PyData.canLayAll0 ds) = true
      rw [h2, g2]; rfl
    · show max d.depth (PyData.depthAll ds) = max (D.dep x) (deps xs)
      rw [h3, g3]
end
mutual
def D.pdT : D → PyData
  | .int i => .int i
  | .str z => .str z
  | .lst xs => .list (pdTs xs)
  | .tup xs => .tuple (pdTs xs)
  | _ => .none
def pdTs : List D → List PyData
  | [] => []
  | x :: xs => D.pdT x :: pdTs xs
end
mutual
theorem pd_T : ∀ x : D, x.pln = true → x.pd = some x.pdT
  | .non, _ => rfl
  | .int _, _ => rfl
  | .str z, h => rfl
  | .lst xs, h => by rw [D.pd, pds_T xs h]; rfl
  | .tup xs, h => by rw [D.pd, pds_T xs h]; rfl
  | .bl _, h => by cases h
  | .ty _, h => by cases h
  | .cls _, h => by cases h
  | .dic _, h => by cases h
  | .dit _, h => by cases h
  | .obj _ _, h => by cases h
theorem pds_T : ∀ xs : List D, plns xs = true → pds xs = some (pdTs xs)
  | [], _ => rfl
  | x :: xs, h => by
    have h : (D.pln x && plns xs) = true := h
    rw [Bool.and_eq_true] at h
    rw [pds, pd_T x h.1, pds_T xs h.2]; rfl
end
mutual
theorem eqv_pln : ∀ (x y : D), x.pln = true → y.pln = true → (PyData.eqv x.pdT y.pdT = true ↔ x = y)
  | .non, .non, _, _ => ⟨fun _ => rfl, fun _ => rfl⟩
  | .non, .int j, _, _ => ⟨fun e => (nomatch (show false = true from e)), fun e => nomatch e⟩
  | .non, .str w, _, _ => ⟨fun e => (nomatch (show false = true from e)), fun e => nomatch e⟩
  | .non, .lst ys, _, _ => ⟨fun e => (nomatch (show false = true from e)), fun e => nomatch e⟩
  | .non, .tup ys, _, _ => ⟨fun e => (nomatch (show false = true from e)), fun e => nomatch e⟩
  | .non, .bl _, _, h => by cases h
  | .non, .ty _, _, h => by cases h
  | .non, .cls _, _, h => by cases h
  | .non, .dic _, _, h => by cases h
  | .non, .dit _, _, h => by cases h
  | .non, .obj _ _, _, h => by cases h
  | .int i, .non, _, _ => ⟨fun e => (nomatch (show false = true from e)), fun e => nomatch e⟩
  | .int i, .int j, _, _ => by
    show (i == j) = true ↔ _
    rw [beq_iff_eq]
    exact ⟨fun e => by rw [e], fun e => by injection e⟩
  | .int i, .str w, _, _ => ⟨fun e => (nomatch (show false = true from e)), fun e => nomatch e⟩
  | .int i, .lst ys, _, _ => ⟨fun e => (nomatch (show false = true from e)), fun e => nomatch e⟩
  | .int i, .tup ys, _, _ => ⟨fun e => (nomatch (show false = true from e)), fun e => nomatch e⟩
  | .int i, .bl _, _, h => by cases h
  | .int i, .ty _, _, h => by cases h
  | .int i, .cls _, _, h => by cases h
  | .int i, .dic _, _, h => by cases h
  | .int i, .dit _, _, h => by cases h
  | .int i, .obj _ _, _, h => by cases h
  | .str z, .non, _, _ => ⟨fun e => (nomatch (show false = true from e)), fun e => nomatch e⟩
  | .str z, .int j, _, _ => ⟨fun e => (nomatch (show false = true from e)), fun e => nomatch e⟩
  | .str z, .str w, _, _ => by
    show (z == w) = true ↔ _
    rw [beq_iff_eq]
    exact ⟨fun e => by rw [e], fun e => by injection e⟩
  | .str z, .lst ys, _, _ => ⟨fun e => (nomatch (show false = true from e)), fun e => nomatch e⟩
  | .str z, .tup ys, _, _ => ⟨fun e => (nomatch (show false = true from e)), fun e => nomatch e⟩
  | .str z, .bl _, _, h => by cases h
  | .str z, .ty _, _, h => by cases h
  | .str z, .cls _, _, h => by cases h
  | .str z, .dic _, _, h => by cases h
  | .str z, .dit _, _, h => by cases h
  | .str z, .obj _ _, _, h => by cases h
  | .lst xs, .non, _, _ => ⟨fun e => (nomatch (show false = true from e)), fun e => nomatch e⟩
  | .lst xs, .int j, _, _ => ⟨fun e => (nomatch (show false = true from e)), fun e => nomatch e⟩
  | .lst xs, .str w, _, _ => ⟨fun e => (nomatch (show false = true from e)), fun e => nomatch e⟩
  | .lst xs, .lst ys, h1, h2 => by
    show PyData.eqvAll (pdTs xs) (pdTs ys) = true ↔ _
    rw [eqvs_pln xs ys h1 h2]
    exact ⟨fun e => by rw [e], fun e => by injection e⟩
  | .lst xs, .tup ys, _, _ => ⟨fun e => (nomatch (show false = true from e)), fun e => nomatch e⟩
  | .lst xs, .bl _, _, h => by cases h
  | .lst xs, .ty _, _, h => by cases h
  | .lst xs, .cls _, _, h => by cases h
  | .lst xs, .dic _, _, h => by cases h
  | .lst xs, .dit _, _, h => by cases h
  | .lst xs, .obj _ _, _, h => by cases h
  | .tup xs, .non, _, _ => ⟨fun e => (nomatch (show false = true from e)), fun e => nomatch e⟩
  | .tup xs, .int j, _, _ => ⟨fun e => (nomatch (show false = true from e)), fun e => nomatch e⟩
  | .tup xs, .str w, _, _ => ⟨fun e => (nomatch (show false = true from e)), fun e => nomatch e⟩
  | .tup xs, .lst ys, _, _ => ⟨fun e => (nomatch (show false = true from e)), fun e => nomatch e⟩
  | .tup xs, .tup ys, h1, h2 => by
    show PyData.eqvAll (pdTs xs) (pdTs ys) = true ↔ _
    rw [eqvs_pln xs ys h1 h2]
    exact ⟨fun e => by rw [e], fun e => by injection e⟩
  | .tup xs, .bl _, _, h => by cases h
  | .tup xs, .ty _, _, h => by cases h
  | .tup xs, .cls _, _, h => by cases h
  | .tup xs, .dic _, _, h => by cases h
  | .tup xs, .dit _, _, h => by cases h
  | .tup xs, .obj _ _, _, h => by cases h
  | .bl _, _, h, _ => by cases h
  | .ty _, _, h, _ => by cases h
  | .cls _, _, h, _ => by cases h
  | .dic _, _, h, _ => by cases h
  | .dit _, _, h, _ => by cases h
  | .obj _ _, _, h, _ => by cases h
theorem eqvs_pln : ∀ (xs ys : List D), plns xs = true → plns ys = true → (PyData.eqvAll (pdTs xs) (pdTs ys) = true ↔ xs = ys)
  | [], [], _, _ => ⟨fun _ => rfl, fun _ => rfl⟩
  | [], _ :: _, _, _ => ⟨fun e => (nomatch (show false = true from e)), fun e => nomatch e⟩
  | _ :: _, [], _, _ => ⟨fun e => (nomatch (show false = true from e)), fun e => nomatch e⟩
  | x :: xs, y :: ys, h1, h2 => by
    have h1 : (D.pln x && plns xs) = true := h1
    have h2 : (D.pln y && plns ys) = true := h2
    rw [Bool.and_eq_true] at h1 h2
    show (PyData.eqv x.pdT y.pdT && PyData.eqvAll (pdTs xs) (pdTs ys)) = true ↔ _
    rw [Bool.and_eq_true, eqv_pln x y h1.1 h2.1, eqvs_pln xs ys h1.2 h2.2]
    exact ⟨fun ⟨e1, e2⟩ => by rw [e1, e2], fun e => by injection e with e1 e2; exact ⟨e1, e2⟩⟩
end
theorem shaped_pln {x : D} (h : x.pln = true) (hd : x.dep ≤ 64) : SeqAt.shaped x.pdT = true := by
  obtain ⟨d, h1, h2, h3⟩ := pd_pln x h
  rw [pd_T x h] at h1
  cases h1
  show (x.pdT.canLay0 && decide (x.pdT.depth ≤ 64)) = true
  rw [h2, h3, decide_eq_true hd]; rfl
section
variable {x y : D} {Q : D → Prop}
theorem eqG_pln {neg : Bool} (hx : x.pln = true) (hy : y.pln = true) (dx : x.dep ≤ 64) (dy : y.dep ≤ 64) (kt : x = y → Q (.bl (!neg))) (kf : x ≠ y → Q (.bl neg)) : oEqG neg x y Q := by
  unfold oEqG
  rw [pd_T x hx, pd_T y hy]
  refine ⟨shaped_pln hx dx, shaped_pln hy dy, ?_⟩
  by_cases e : x = y
  · rw [(eqv_pln x y hx hy).mpr e]
    cases neg <;> exact kt e
  · have : PyData.eqv x.pdT y.pdT = false := by
      cases q : PyData.eqv x.pdT y.pdT with
      | false => rfl
      | true => exact absurd ((eqv_pln x y hx hy).mp q) e
    rw [this]
    cases neg <;> exact kf e
theorem eq_pln (hx : x.pln = true) (hy : y.pln = true) (dx : x.dep ≤ 64) (dy : y.dep ≤ 64) (kt : x = y → Q (.bl true)) (kf : x ≠ y → Q (.bl false)) : oEq x y Q := by
  have g : oEqG false x y Q := eqG_pln hx hy dx dy kt kf
  unfold oEq
  split
  · rename_i i j
    by_cases e : i = j
    · rw [decide_eq_true e]; exact kt (by rw [e])
    · rw [decide_eq_false e]; exact kf fun z => e (by injection z)
  · rename_i i j
    by_cases e : i = j
    · rw [decide_eq_true e]; exact kt (by rw [e])
    · rw [decide_eq_false e]; exact kf fun z => e (by injection z)
  · cases hx
  · exact g
theorem ne_pln (hx : x.pln = true) (hy : y.pln = true) (dx : x.dep ≤ 64) (dy : y.dep ≤ 64) (kt : x = y → Q (.bl false)) (kf : x ≠ y → Q (.bl true)) : oNe x y Q := by
  have g : oEqG true x y Q := eqG_pln hx hy dx dy kt kf
  unfold oNe
  split
  · rename_i i j
    by_cases e : i = j
    · rw [decide_eq_true e]; exact kt (by rw [e])
    · rw [decide_eq_false e]; exact kf fun z => e (by injection z)
  · rename_i i j
    by_cases e : i = j
    · rw [decide_eq_true e]; exact kt (by rw [e])
    · rw [decide_eq_false e]; exact kf fun z => e (by injection z)
  · cases hx
  · exact g
end
end KD

namespace KP
open PySem PySem.Spec PyProof.Rows L2
/-! ### texts of data are not long -/
theorem slen_tl (x : Str) : x.length = x.cps.toList.length := by
  show x.cps.size = _
  rw [Array.length_toList]
theorem slen_add (x y : Str) : (x ++ y).length = x.length + y.length := by
  have e : (x ++ y).cps.toList = x.cps.toList ++ y.cps.toList := TL.tl_append x y
  rw [slen_tl, e, List.length_append, ← slen_tl, ← slen_tl]
theorem join_le (y : Str) : ∀ ts : List Str, (Str.join y ts).length ≤ (ts.map (·.length)).sum + y.length * ts.length
  | [] => Nat.zero_le _
  | [x] => by
    show x.length ≤ x.length + 0 + y.length * 1
    omega
  | x :: z :: r => by
    show (x ++ y ++ Str.join y (z :: r)).length ≤ _
    have ih := join_le y (z :: r)
    rw [slen_add, slen_add, List.map_cons, List.sum_cons, List.length_cons, Nat.mul_add, Nat.mul_one]
    omega
theorem tupleText_le (ts : List Str) : (tupleText ts).length ≤ (ts.map (·.length)).sum + 2 * ts.length + 3 := by
  unfold tupleText
  rw [slen_add, slen_add]
  have h := join_le ", " ts
  have h1 : (", " : Str).length = 2 := rfl
  have h2 : ("(" : Str).length = 1 := rfl
  rw [h1] at h
  have h3 : (Str.ofString (if ts.length == 1 then ",)" else ")")).length ≤ 2 := by
    split <;> decide
  omega
/-- data whose repr is at most n signs long -/
structure Shw (n d : Nat) (x : PyData) : Prop where
  s : x.showable = true
  h : x.hasDict = false
  d : x.depth ≤ d
  l : x.shown.length ≤ n
structure ShwA (n d : Nat) (xs : List PyData) : Prop where
  s : PyData.showableAll xs = true
  h : PyData.hasDictAll xs = false
  d : PyData.depthAll xs ≤ d
  l : ((PyData.shownAll xs).map (·.length)).sum + 2 * xs.length ≤ n
theorem shw_int {i : Int} (a : -Big < i) (b : i < Big) : Shw 1000 0 (.int i) := by
  have h := big_lt a b
  have h2 : i.natAbs.log2 < 700 := PySem.Flt.log2_lt_of (by decide) h
  refine ⟨decide_eq_true (by omega), rfl, Nat.le_refl _, ?_⟩
  have := PySem.int_text_length_le (a := i) (k := 700) (by decide) h2
  show (Str.ofString (toString i)).length ≤ 1000
  rw [PySem.ofString_length]
  omega
theorem ShwA.nil : ShwA 0 0 [] := ⟨rfl, rfl, Nat.le_refl _, Nat.le_refl _⟩
theorem ShwA.cons {n m c d : Nat} {x : PyData} {xs : List PyData} (h : Shw n c x) (r : ShwA m d xs) : ShwA (n + 2 + m) (max c d) (x :: xs) := by
  refine ⟨?_, ?_, ?_, ?_⟩
  · show (x.showable && PyData.showableAll xs) = true
    rw [h.s, r.s]
    rfl
  · show (x.hasDict || PyData.hasDictAll xs) = false
    rw [h.h, r.h]
    rfl
  · show max x.depth (PyData.depthAll xs) ≤ max c d
    have := h.d
    have := r.d
    omega
  · show ((x.shown :: PyData.shownAll xs).map (·.length)).sum + 2 * (xs.length + 1) ≤ _
    rw [List.map_cons, List.sum_cons]
    have := h.l
    have := r.l
    omega
theorem shownAll_len : ∀ xs : List PyData, (PyData.shownAll xs).length = xs.length
  | [] => rfl
  | x :: r => by
    show (PyData.shownAll r).length + 1 = r.length + 1
    rw [shownAll_len r]
theorem shw_tup {n d : Nat} {xs : List PyData} (r : ShwA n d xs) : Shw (n + 3) (d + 1) (.tuple xs) := by
  refine ⟨r.s, r.h, Nat.succ_le_succ r.d, ?_⟩
  have h := tupleText_le (PyData.shownAll xs)
  rw [shownAll_len] at h
  have := r.l
  show (tupleText (PyData.shownAll xs)).length ≤ _
  omega
theorem Shw.up {n m c d : Nat} {x : PyData} (h : Shw n c x) (hn : n ≤ m) (hd : c ≤ d) : Shw m d x := ⟨h.s, h.h, Nat.le_trans h.d hd, Nat.le_trans h.l hn⟩
end KP

/-! What the drawing defs promise; reprs. -/
namespace KD
open PySem PySem.Spec PyProof.Rows L2 KP
section
variable {b : Int} {Q : D → Int → Prop} {E : XC → Int → Prop}
theorem q_around {most : Int} (h0 : 0 ≤ most) (h1 : most ≤ 10 ^ 99) (hb : b < 10 ^ 11) (k : ∀ r b', b' ≤ b + 13 → -most ≤ r → r ≤ most → Q (.int r) b') : W_around [.pen, .d (.int most)] b Q E := by unfold W_around; exact ⟨h0, h1, hb, k⟩
theorem q_pick {x : D} {xs : List D} (e : seqD x = some xs) (h0 : xs ≠ []) (h1 : xs.length ≤ 1000) (hb : b < 10 ^ 11) (k : ∀ y, y ∈ xs → ∀ b', b' ≤ b + 13 → Q y b') : W_pick [.pen, .d x] b Q E := by unfold W_pick; simp only [e]; exact ⟨h0, h1, hb, k⟩
theorem q_great {n : Int} (h0 : 1 ≤ n) (h1 : n ≤ 90) (hb : b < 10 ^ 10) (k : ∀ (r b' : Int), b' ≤ b + 100 → 0 ≤ r → r < 10 ^ n.toNat → Q (.int r) b') : W_great [.pen, .d (.int n)] b Q E := by unfold W_great; exact ⟨h0, h1, hb, k⟩
theorem q_painters (hb : b < 10 ^ 8) (k : ∀ (qs : List Pt) (b' : Int), b' ≤ b + 70000 → (∀ q ∈ qs, q.In (2 * 10 ^ 29) (2 * 10 ^ 29) (2 * 10 ^ 17)) → qs.length ≤ 6 → (qs.map Pt.nm).Nodup → Q (.lst (qs.map Pt.d)) b') : W_painters [.pen] b Q E := by unfold W_painters; exact ⟨hb, k⟩
end
/-! ### types -/
theorem kb_ii : kitB "int" "int" = some true := by decide +kernel
theorem kb_ib : kitB "int" "bool" = some false := by decide +kernel
theorem kb_ss : kitB "str" "str" = some true := by decide +kernel
/-! ### loops by an invariant -/
theorem forGo_ind {g : WG} {tb : WS} {N : DN} (xs : List D) (I : Nat → En → Prop) {en : En} (h0 : I 0 en)
    (hs : ∀ (i : Nat) (x : D) (en : En) (J : En → Prop), xs[i]? = some x → I i en → (∀ en', I (i + 1) en' → J en') → g x en fun en1 => tb { N with nx := J, ct := J, bk := N.nx } en1)
    (hd : ∀ en, I xs.length en → N.nx en) : forGo g tb N xs en := by
  suffices h : ∀ (ys : List D) (i : Nat) (en : En), xs.drop i = ys → i ≤ xs.length → I i en → forGo g tb N ys en from h xs 0 en rfl (Nat.zero_le _) h0
  intro ys
  induction ys with
  | nil =>
    intro i en e hi hI
    have : i = xs.length := by
      have := congrArg List.length e
      rw [List.length_drop] at this
      simp at this
      omega
    subst this
    exact hd en hI
  | cons y ys ih =>
    intro i en e hi hI
    have hx : xs[i]? = some y := by
      have := congrArg List.head? e
      rw [List.head?_drop] at this
      simpa using this
    have hlt : i < xs.length := (List.getElem?_eq_some_iff.mp hx).1
    have e2 : xs.drop (i + 1) = ys := by
      rw [← List.drop_drop, e]
      rfl
    exact hs i y en (forGo g tb N ys) hx hI fun en2 q => ih (i + 1) en2 e2 hlt q
theorem lcGo_ind {g : WG} {tt : WT} {te : WE} {vs : List Nat} {Q : List D → En → Prop} (xs : List D) (I : Nat → List D → En → Prop) {acc : List D} {en : En} (h0 : I 0 acc en)
    (hs : ∀ (i : Nat) (x : D) (acc : List D) (en : En) (J : List D → En → Prop), xs[i]? = some x → I i acc en → (∀ acc' en', I (i + 1) acc' en' → J acc' en') →
      g x en fun en1 => tt en1 (fun c en2 => if c = true then te en2 (fun y en3 => acc.length < 100000 ∧ J (acc ++ [y]) (wipeE en3 vs)) noE else J acc (wipeE en2 vs)) noE)
    (hd : ∀ acc en, I xs.length acc en → Q acc en) : lcGo g tt te vs Q xs acc en := by
  suffices h : ∀ (ys : List D) (i : Nat) (acc : List D) (en : En), xs.drop i = ys → i ≤ xs.length → I i acc en → lcGo g tt te vs Q ys acc en from h xs 0 acc en rfl (Nat.zero_le _) h0
  intro ys
  induction ys with
  | nil =>
    intro i acc en e hi hI
    have : i = xs.length := by
      have := congrArg List.length e
      rw [List.length_drop] at this
      simp at this
      omega
    subst this
    exact hd acc en hI
  | cons y ys ih =>
    intro i acc en e hi hI
    have hx : xs[i]? = some y := by
      have := congrArg List.head? e
      rw [List.head?_drop] at this
      simpa using this
    have hlt : i < xs.length := (List.getElem?_eq_some_iff.mp hx).1
    have e2 : xs.drop (i + 1) = ys := by
      rw [← List.drop_drop, e]
      rfl
    exact hs i y acc en (lcGo g tt te vs Q ys) hx hI fun acc2 en2 q => ih (i + 1) acc2 en2 e2 hlt q
/-! ### reprs -/
theorem q_repr {x : D} {d : PyData} {Q : D → Prop} {n c : Nat} (e : x.pd = some d) (s : Shw n c d) (hn : n ≤ 1000000) (hc : c < 50) (k : Q (.str d.shown)) : oRepr [x] Q := by
  unfold oRepr
  show (match x.pd with | some d => d.showable = true ∧ d.hasDict = false ∧ d.depth < 50 ∧ d.shown.length ≤ 1000000 ∧ Q (.str d.shown) | none => False)
  rw [e]
  exact ⟨s.s, s.h, Nat.lt_of_le_of_lt s.d hc, Nat.le_trans s.l hn, k⟩
end KD

/-! Reprs of data. -/
namespace KD
open PySem PySem.Spec PyProof.Rows L2 KP
structure ShD (n d : Nat) (x : D) : Prop where
  ex : ∃ p, x.pd = some p ∧ Shw n d p
def shS (x : D) : Str := match x.pd with
  | some p => p.shown
  | none => ""
theorem ShD.up {n m d e : Nat} {x : D} (h : ShD n d x) (hn : n ≤ m) (hd : d ≤ e) : ShD m e x := by
  obtain ⟨p, h1, h2⟩ := h.ex
  exact ⟨p, h1, h2.up hn hd⟩
theorem sh_int {i : Int} (a : -Big < i) (b : i < Big) : ShD 1000 0 (.int i) := ⟨_, rfl, shw_int a b⟩
theorem sh_str {z : Str} (h : ∀ c ∈ z.cps.toList, c < 16 ^ 8) : ShD (10 * z.length + 2) 0 (.str z) := ⟨_, rfl, rfl, rfl, Nat.le_refl _, by rw [PySem.PyData.shown_str]; have := PySem.StrLaws.reprText_len z h; omega⟩
theorem sh_name {z : Str} (h : NameD z) : ShD 100 0 (.str z) := (sh_str fun c hc => by have := h.2.2 c hc; omega).up (by have := h.2.1; omega) (Nat.le_refl _)
theorem shs {n d : Nat} : ∀ {xs : List D}, (∀ x ∈ xs, ShD n d x) → ∃ ps, pds xs = some ps ∧ ShwA (xs.length * (n + 2)) d ps ∧ ps.length = xs.length
  | [], _ => ⟨[], rfl, ⟨rfl, rfl, Nat.zero_le _, by simp; rfl⟩, rfl⟩
  | x :: xs, h => by
    obtain ⟨p, h1, h2⟩ := (h x (List.mem_cons_self ..)).ex
    obtain ⟨ps, g1, g2, g3⟩ := shs fun y hy => h y (List.mem_cons_of_mem _ hy)
    refine ⟨p :: ps, by rw [pds, h1, g1], ?_, by simp [g3]⟩
    have c := ShwA.cons h2 g2
    have e : n + 2 + xs.length * (n + 2) = (x :: xs).length * (n + 2) := by
      show _ = (xs.length + 1) * (n + 2)
      rw [Nat.add_mul]; omega
    rw [e, Nat.max_self] at c
    exact c
theorem sh_tup {n d m : Nat} {xs : List D} (h : ∀ x ∈ xs, ShD n d x) (hm : xs.length ≤ m) : ShD (m * (n + 2) + 3) (d + 1) (.tup xs) := by
  obtain ⟨ps, h1, h2, h3⟩ := shs h
  refine ⟨.tuple ps, by rw [D.pd, h1]; rfl, (shw_tup h2).up ?_ (Nat.le_refl _)⟩
  have := Nat.mul_le_mul_right (n + 2) hm
  omega
theorem q_rep {x : D} {n d : Nat} {Q : D → Prop} (h : ShD n d x) (hn : n ≤ 1000000) (hd : d < 50) (k : Q (.str (shS x))) : oRepr [x] Q := by
  obtain ⟨p, h1, h2⟩ := h.ex
  refine q_repr h1 h2 hn hd ?_
  have : shS x = p.shown := by unfold shS; rw [h1]
  rw [← this]; exact k
theorem ne_strS {z : Str} {Q : D → Prop} (k : Q (.bl false)) : oNe (.str z) (.str z) Q := by
  show Q (.bl (!decide (z = z)))
  rw [decide_eq_true rfl]; exact k
end KD

/-! repr of a dict of ints. -/
namespace KD
open PySem PySem.Spec PyProof.Rows L2 KP
def kPd : Key → PyData
  | .inl i => .int i
  | .inr z => .str z
def allKI : List (Key × D) → Option (List (Key × Int))
  | [] => some []
  | (k, .int i) :: r => (allKI r).map ((k, i) :: ·)
  | _ :: _ => none
def dicP (ks : List (Key × Int)) : PyData := .dict (ks.map fun p => (kPd p.1, .int p.2))
theorem RepK.ints {K : PySem.W.Frag} {G : Hp} : ∀ {vs : List (Key × V)} {xs : List (Key × D)} {ks : List (Key × Int)}, RepK K G vs xs → allKI xs = some ks → vs = ks.map fun p => (p.1, V.int p.2)
  | _, _, _, .nil, e => by cases e; rfl
  | _, _, _, .cons (k := k) (x := x) (xs := xs) h r, e => by
    cases h with
    | int i =>
      cases q : allKI xs with
      | none => rw [allKI, q] at e; cases e
      | some ms => rw [allKI, q] at e; cases e; rw [RepK.ints r q]; rfl
    | _ => cases e
section
variable {X : Cx} {K : PySem.W.Frag} {H : Hp}
end
def oReprA : OC := fun xs Q => match xs with
  | [.dic kvs] => (match allKI kvs with | some ks => (dicP ks).showable = true ∧ (dicP ks).depth < 50 ∧ (dicP ks).shown.length ≤ 1000000 ∧ Q (.str (dicP ks).shown) | none => False)
  | [x] => (match x.pd with | some d => d.showable = true ∧ d.hasDict = false ∧ d.depth < 50 ∧ d.shown.length ≤ 1000000 ∧ Q (.str d.shown) | none => False)
  | _ => False
section
variable {X : Cx}
end
/-- what repr tells of a value -/
def shA : D → Str
  | .dic kvs => match allKI kvs with
    | some ks => (dicP ks).shown
    | none => ""
  | x => shS x
/-- repr tells something of it -/
def ShA (x : D) : Prop := ∀ Q : D → Prop, Q (.str (shA x)) → oReprA [x] Q
theorem ShD.a {n d : Nat} {x : D} (h : ShD n d x) (hn : n ≤ 1000000) (hd : d < 50) : ShA x := fun Q k => by
  obtain ⟨p, h1, h2⟩ := h.ex
  have e : shA x = p.shown := by
    cases x with
    | dic kvs => cases h1
    | _ => unfold shA; dsimp only; unfold shS; rw [h1]
  rw [e] at k
  cases x with
  | dic kvs => cases h1
  | _ =>
    unfold oReprA
    dsimp only
    rw [h1]
    exact ⟨h2.s, h2.h, Nat.lt_of_le_of_lt h2.d hd, Nat.le_trans h2.l hn, k⟩
/-! Keyword facts with an abstract frame: for calls with a keyword inside a lambda, where the frame is slow to look into. -/
section
variable {V : Env} {es : List Expr} {ke : Expr} {nm : Str} {pos kpos : Pos}
end
end KD

/-! sorted(xs), xs a list of tuples that begin with two ints, no two alike in these. -/
namespace SrtT
open PySem PyProof.Rows Srt SrtO
/-- a tuple that begins with these ints -/
def IsTk (h : Heap) (v : Value) (i j : Int) : Prop := ∃ (a : Addr) (o : Obj) (t u : Tok) (r : List Value) (n : Nat), v = .ref a ∧ h.get? a = some o ∧ o.cls = .type "tuple" ∧ o.data = .seq (Value.int i t :: .int j u :: r).toArray n
theorem IsTk.up {h h' : Heap} {v : Value} {i j : Int} (p : IsTk h v i j) (k : ∀ b o, h.get? b = some o → o.cls = .type "tuple" → h'.get? b = some o) : IsTk h' v i j :=
  let ⟨a, o, t, u, r, n, e, ho, hc, hd⟩ := p
  ⟨a, o, t, u, r, n, e, k _ _ ho hc, hc, hd⟩
section
variable {prog : Program} {w : World} {A : Around} {E : Value → Shared → Prop} {s : Shared}
end
end SrtT
namespace KD
open PySem PySem.Spec PyProof.Rows L2 KP
section
variable {X : Cx}
end
section
variable {X : Cx}
end
end KD

/-! == and != of own classes, and of tuples of their objects. -/
namespace EqM
open PySem PySem.SeqAt
open AutoSeq1 (wpAny_loadPart')
open MeetsSeq MeetsSeq2 MeetsSeq3 SeqRoads2
section
variable {prog : Program} {w : World} {A : Around} {R : Result → Shared → Prop}
/-- all of the first n -/
def allB (es : Nat → Bool) (n : Nat) : Bool := (List.range n).all es
theorem allB_no {es : Nat → Bool} {n i : Nat} (hi : i < n) (h : es i = false) : allB es n = false := by
  unfold allB
  rw [List.all_eq_false]
  exact ⟨i, List.mem_range.mpr hi, by rw [h]; decide⟩
theorem allB_yes {es : Nat → Bool} {n : Nat} (h : ∀ i, i < n → es i = true) : allB es n = true := by
  unfold allB
  rw [List.all_eq_true]
  exact fun i hi => h i (List.mem_range.mp hi)
theorem tuple_eqW (l b : Addr) (items items2 : Array Value) (n n2 : Nat) (dd dd2 : Option Addr) (sl sl2 : Array (Option Value)) (I : Nat → Shared → Prop) (es : Nat → Bool)
    (turn : ∀ i (h1 : i < items.size) (h2 : i < items2.size) s, I i s → wpAny (model prog w) A.in1 (eqBool items[i] items2[i]) (fun r s' => r = es i ∧ I (i + 1) s') (fun e s' => R (.error e) s') s)
    (fin : ∀ i s, I i s → R (.ok (.ret (.bool (allB es (min items.size items2.size) && (items.size == items2.size))))) s) {s : Shared}
    (hl1 : s.heap.get? l = some { cls := .type "tuple", dict := dd, data := .seq items n, slots := sl }) (hb1 : s.heap.get? b = some { cls := .type "tuple", dict := dd2, data := .seq items2 n2, slots := sl2 }) (h : I 0 s) :
    wpAny (model prog w) A.in1 (Builtin.«tuple.__eq__» ⟨[.ref l, .ref b], []⟩) (GQ.FinOf prog w A R) (fun e s' => R (.error e) s') s := by
  have f2 := AutoSeq1.sub_tuple_tuple
  have hZ : (items.toList.zip items2.toList).length = min items.size items2.size := by simp
  have h0 := h
  obtain ⟨hp, g, d, tk, os⟩ := s
  wp_walk using wpAny_loadPart' hl1, wpAny_loadPart' hb1, wpAny_forIn_list _ (fun rest b s' => b.1 = none ∧ ∃ i, rest = (items.toList.zip items2.toList).drop i ∧ i ≤ min items.size items2.size ∧ (∀ j, j < i → es j = true) ∧ I i s') _
  case turn =>
    rintro ⟨y, x⟩ rest b s' ⟨hb', i, hz, hi, hes, hI⟩
    have hlt : i < (items.toList.zip items2.toList).length := by
      refine Nat.lt_of_not_le fun h' => ?_
      rw [List.drop_of_length_le h'] at hz; cases hz
    have h1 : i < items.size := by omega
    have h2 : i < items2.size := by omega
    rw [List.drop_eq_getElem_cons hlt] at hz
    injection hz with hyx hrest
    have hy : y = items[i] := (congrArg Prod.fst hyx).trans (by simp)
    have hx : x = items2[i] := (congrArg Prod.snd hyx).trans (by simp)
    subst hy; subst hx
    refine wpAny_bind (wpAny_mono (turn i h1 h2 s' hI) (fun r s2 q2 => ?_) fun _ _ x => x)
    obtain ⟨hr, q2⟩ := q2
    cases he : es i with
    | true =>
      rw [he] at hr
      subst hr
      wp_walk
      exact ⟨rfl, i + 1, hrest, by omega, fun j hj => by
        rcases Nat.lt_succ_iff_lt_or_eq.mp hj with hj | rfl
        · exact hes j hj
        · exact he, q2⟩
    | false =>
      rw [he] at hr
      subst hr
      have hR := fin _ _ q2
      rw [allB_no (by omega) he, Bool.false_and] at hR
      wp_walk
      exact hR
  case fin =>
    rintro ⟨b1, b2⟩ s' ⟨hb', i, hz, hi, hes, hI⟩
    simp only at hb'
    subst hb'
    have hge : i = min items.size items2.size := by
      refine Nat.le_antisymm hi (Nat.le_of_not_lt fun h' => ?_)
      rw [List.drop_eq_getElem_cons (by omega)] at hz; cases hz
    have hR := fin _ _ hI
    rw [allB_yes (fun j hj => hes j (by omega)), Bool.true_and] at hR
    wp_walk
    exact hR
  case h =>
    exact ⟨rfl, 0, rfl, Nat.zero_le _, fun j hj => absurd hj (Nat.not_lt_zero _), h0⟩
theorem tuple_neW (l b : Addr) (items items2 : Array Value) (n n2 : Nat) (dd dd2 : Option Addr) (sl sl2 : Array (Option Value)) (I : Nat → Shared → Prop) (es : Nat → Bool)
    (turn : ∀ i (h1 : i < items.size) (h2 : i < items2.size) s, I i s → wpAny (model prog w) A.in1 (eqBool items[i] items2[i]) (fun r s' => r = es i ∧ I (i + 1) s') (fun e s' => R (.error e) s') s)
    (fin : ∀ i s, I i s → R (.ok (.ret (.bool (!(allB es (min items.size items2.size) && (items.size == items2.size)))))) s) {s : Shared}
    (hl1 : s.heap.get? l = some { cls := .type "tuple", dict := dd, data := .seq items n, slots := sl }) (hb1 : s.heap.get? b = some { cls := .type "tuple", dict := dd2, data := .seq items2 n2, slots := sl2 }) (h : I 0 s) :
    wpAny (model prog w) A.in1 (Builtin.«tuple.__ne__» ⟨[.ref l, .ref b], []⟩) (GQ.FinOf prog w A R) (fun e s' => R (.error e) s') s := by
  have f2 := AutoSeq1.sub_tuple_tuple
  have hZ : (items.toList.zip items2.toList).length = min items.size items2.size := by simp
  have h0 := h
  obtain ⟨hp, g, d, tk, os⟩ := s
  wp_walk using wpAny_loadPart' hl1, wpAny_loadPart' hb1, wpAny_forIn_list _ (fun rest b s' => b.1 = none ∧ ∃ i, rest = (items.toList.zip items2.toList).drop i ∧ i ≤ min items.size items2.size ∧ (∀ j, j < i → es j = true) ∧ I i s') _
  case turn =>
    rintro ⟨y, x⟩ rest b s' ⟨hb', i, hz, hi, hes, hI⟩
    have hlt : i < (items.toList.zip items2.toList).length := by
      refine Nat.lt_of_not_le fun h' => ?_
      rw [List.drop_of_length_le h'] at hz; cases hz
    have h1 : i < items.size := by omega
    have h2 : i < items2.size := by omega
    rw [List.drop_eq_getElem_cons hlt] at hz
    injection hz with hyx hrest
    have hy : y = items[i] := (congrArg Prod.fst hyx).trans (by simp)
    have hx : x = items2[i] := (congrArg Prod.snd hyx).trans (by simp)
    subst hy; subst hx
    refine wpAny_bind (wpAny_mono (turn i h1 h2 s' hI) (fun r s2 q2 => ?_) fun _ _ x => x)
    obtain ⟨hr, q2⟩ := q2
    cases he : es i with
    | true =>
      rw [he] at hr
      subst hr
      wp_walk
      exact ⟨rfl, i + 1, hrest, by omega, fun j hj => by
        rcases Nat.lt_succ_iff_lt_or_eq.mp hj with hj | rfl
        · exact hes j hj
        · exact he, q2⟩
    | false =>
      rw [he] at hr
      subst hr
      have hR := fin _ _ q2
      rw [allB_no (by omega) he, Bool.false_and, Bool.not_false] at hR
      wp_walk
      exact hR
  case fin =>
    rintro ⟨b1, b2⟩ s' ⟨hb', i, hz, hi, hes, hI⟩
    simp only at hb'
    subst hb'
    have hge : i = min items.size items2.size := by
      refine Nat.le_antisymm hi (Nat.le_of_not_lt fun h' => ?_)
      rw [List.drop_eq_getElem_cons (by omega)] at hz; cases hz
    have hR := fin _ _ hI
    rw [allB_yes (fun j hj => hes j (by omega)), Bool.true_and] at hR
    have hR : R (.ok (.ret (.bool (items.size != items2.size)))) s' := hR
    wp_walk
    exact hR
  case h =>
    exact ⟨rfl, 0, rfl, Nat.zero_le _, fun j hj => absurd hj (Nat.not_lt_zero _), h0⟩
/-- two tuples compared -/
theorem rc_tupW {E : Value → Shared → Prop} {l b : Addr} {items items2 : Array Value} {Q : Value → Shared → Prop} {s : Shared} (neg : Bool) (hu : A.units < cLine) (I : Nat → Shared → Prop) (es : Nat → Bool)
    (hl : s.heap.IsTuple l items) (hb : s.heap.IsTuple b items2)
    (turn : ∀ i (h1 : i < items.size) (h2 : i < items2.size) s, I i s → wpAny (model prog w) A.in1 (eqBool items[i] items2[i]) (fun r s' => r = es i ∧ I (i + 1) s') E s)
    (fin : ∀ i s, I i s → Q (.bool (if neg then !(allB es (min items.size items2.size) && (items.size == items2.size)) else (allB es (min items.size items2.size) && (items.size == items2.size)))) s) (h : I 0 s) :
    wpAny (model prog w) A (richCompare (if neg then .NotEq else .Eq) (.ref l) (.ref b)) Q E s := by
  obtain ⟨⟨cls, dd, data, sl⟩, ho, hc, n, hd⟩ := id hl
  obtain ⟨⟨cls2, dd2, data2, sl2⟩, ho2, hc2, n2, hd2⟩ := id hb
  dsimp only at hc hd hc2 hd2
  subst hc; subst hd; subst hc2; subst hd2
  cases neg with
  | false =>
    refine wpAny_richCompare_same_room (op := .Eq) ⟨_, ho, rfl⟩ ⟨_, ho2, rfl⟩ F.slot_tuple_eq (GQ.call_here F.slot_tuple_eq ⟨_, ho, rfl⟩ F.entry_tuple_eq (F.args_tuple_eq_2 _ _) ?_) hu
    exact tuple_eqW (R := wants (fun v s' => v ≠ .notImplemented ∧ Q v s') E) l b items items2 n n2 dd dd2 sl sl2 I es turn (fun i s' q => ⟨(fun x => nomatch x), fin i s' q⟩) ho ho2 h
  | true =>
    refine wpAny_richCompare_same_room (op := .NotEq) ⟨_, ho, rfl⟩ ⟨_, ho2, rfl⟩ F.slot_tuple_ne (GQ.call_here F.slot_tuple_ne ⟨_, ho, rfl⟩ F.entry_tuple_ne (F.args_tuple_ne_2 _ _) ?_) hu
    exact tuple_neW (R := wants (fun v s' => v ≠ .notImplemented ∧ Q v s') E) l b items items2 n n2 dd dd2 sl sl2 I es turn (fun i s' q => ⟨(fun x => nomatch x), fin i s' q⟩) ho ho2 h
end
section
open PySem.W
variable {M : Model} {prog : Program} {w : World} {A : Around} {E : Value → Shared → Prop} {s : Shared} {K : Frag} {x C f : Addr} {ox : Obj} {od : Option Obj} {b tb : Value}
theorem ifBound_ne {args : List Value} {Q : Option Value → Shared → Prop} (X : K.In s.heap) (I : InstAt s.heap x ox C od) (hs : findIn K (.ref C) "__ne__" = some (some (.builtin "object.__ne__")))
    (h : wpAny M A (call (.builtin "object.__ne__") (.ref x :: args)) (fun v => Q (some v)) E s) : wpAny M A (callSpecialIfBound? (.ref x) "__ne__" args) Q E s := by
  simp only [callSpecialIfBound?, bindSpecialIfBound?]
  refine wpAny_holding (wpAny_bind (wpAny_bind (wpAny_bind (I.type.here ((looks_findIn X hs).here ?_)))))
  refine wpAny_bind (wpAny_askSetting (wpAny_ite ?_))
  have go : wpAny M A (call (.builtin "object.__ne__") ([.ref x] ++ args) >>= fun v => pure (some v)) Q E s := wpAny_bind (wpAny_mono h (fun v s' q => wpAny_pure q) fun _ _ q => q)
  split
  · exact wpAny_bind (wpAny_of_eq (F.cmp_object.ne.bind _) (wpAny_pure (by exact go)))
  · exact wpAny_tryCatch (wpAny_bind (wpAny_of_eq (F.cmp_object.ne.bind _) (wpAny_pure (by exact go))))
theorem objNe_own {Q : Fin → Shared → Prop} (hu : A.units < cLine) (X : K.In s.heap) (I : InstAt s.heap x ox C od) (he : findIn K (.ref C) "__eq__" = some (some (.ref f))) (hf : isFn K (.ref f) = true)
    (h : wpAny (model prog w) A (call (.ref f) [.ref x, b]) (fun v s' => ∃ c, v = .bool c ∧ Q (.done (.ret (.bool (!c)))) s') E s) : wpAny (model prog w) A (Builtin.«object.__ne__» ⟨[.ref x, b], []⟩) Q E s := by
  unfold Builtin.«object.__ne__»
  repeat (first
    | with_reducible refine wpAny_cRoomFor hu ?_
    | (refine wpAny_bind (m := callSpecialIfBound? (.ref x) (Str.ofString "__eq__") [b])
        (ifBound_K X I he hf (wpAny_mono h (fun r s' hr => by
          obtain ⟨c, rfl, hq⟩ := hr
          repeat (first | exact hq | exact wpAny_pure hq | exact wpAny_truthy_bool hq | (refine wpAny_bind (m := truthy (.bool _)) (wpAny_truthy_bool ?_)) | wp_step)) fun _ _ e => e)))
    | wp_step)
/-- x != b by x's own == -/
theorem ne_K {Q : Value → Shared → Prop} (hu : A.units + 1 < cLine) (X : K.In s.heap) (I : InstAt s.heap x ox C od) (hb : Looks (model prog w) s.heap (typeOf b) tb) (hn : notFirst K C tb = true)
    (hs : findIn K (.ref C) "__ne__" = some (some (.builtin "object.__ne__"))) (hm : mroIn K C (.type "object") = some true) (he : findIn K (.ref C) "__eq__" = some (some (.ref f))) (hf : isFn K (.ref f) = true)
    (h : wpAny (model prog w) A.in1 (call (.ref f) [.ref x, b]) (fun v s' => ∃ c, v = .bool c ∧ Q (.bool (!c)) s') E s) : wpAny (model prog w) A (richCompare .NotEq (.ref x) b) Q E s := by
  have one : wpAny (model prog w) A (tryCompare (.ref x) "__ne__" b) (fun r s' => ∃ v, r = some v ∧ Q v s') E s := by
    unfold tryCompare
    refine wpAny_bind (ifBound_ne X I hs ?_)
    refine wpAny_call (codeAny_call_builtin F.cmp_object.ne.plain F.cmpEntry_ne (check_slot F.cmpKind_ne F.cmpSplit_ne (I.type.andThen (looks_mroIn X hm)) (F.cmpArgs_ne _ _) (objNe_own (A := A.in1) hu X I he hf (wpAny_mono h (fun v s' hv => ?_) fun _ _ q => q))))
    obtain ⟨c, rfl, hq⟩ := hv
    exact ⟨c, rfl, wpAny_pure ⟨_, rfl, hq⟩⟩
  unfold richCompare
  simp only [oneThing_ref]
  refine wpAny_holding (wpAny_bind (wpAny_cRoomFor (by omega) ?_))
  refine wpAny_bind (I.type.here (wpAny_bind (hb.here ?_)))
  split
  · rename_i q
    have e : subIn K tb (.ref C) = some false := by
      rcases Bool.or_eq_true_iff.mp hn with e | e
      · rw [beq_iff_eq.mp e] at q; simp at q
      · exact beq_iff_eq.mp e
    refine wpAny_bind ((looks_subIn X e).here ?_)
    simp only [Bool.false_eq_true, if_false]
    refine wpAny_bind (m := tryCompare (.ref x) _ b) (wpAny_mono one (fun r s' z => ?_) fun _ _ q => q)
    obtain ⟨v, rfl, hq⟩ := z
    exact wpAny_pure hq
  · refine wpAny_bind (wpAny_pure ?_)
    simp only [Bool.false_eq_true, if_false]
    refine wpAny_bind (m := tryCompare (.ref x) _ b) (wpAny_mono one (fun r s' z => ?_) fun _ _ q => q)
    obtain ⟨v, rfl, hq⟩ := z
    exact wpAny_pure hq
end
end EqM

/-! == and != of own classes, and of tuples of their objects: over data. -/
namespace KD
open PySem PySem.Spec PyProof.Rows L2 KP
/-- an own == tells whether two data are alike -/
def EqD (Wd : WD) (x y : D) : Prop := ∀ (b : Int) (Q : D → Int → Prop) (E : XC → Int → Prop), (x = y → Q (.bl true) b) → (x ≠ y → Q (.bl false) b) → Wd [.d x, .d y] b Q E
def FlatZ : D → Prop
  | .int _ => True
  | .str _ => True
  | _ => False
/-- an object of a class with one field, a tuple of ints and texts -/
def FlatO (cn : Str) (x : D) : Prop := ∃ (n : Str) (t : List D), x = .obj cn [(n, .tup t)] ∧ ∀ z ∈ t, FlatZ z
section
variable {X : Cx} {K : PySem.W.Frag} {G H : Hp}
theorem flats : ∀ {t t2 : List D} {ws ws2 : List V} {its : List Value}, Reps K G ws t → Reps K G ws2 t2 → Vals ws its → Vals ws2 its → (∀ z ∈ t, FlatZ z) → (∀ z ∈ t2, FlatZ z) → t = t2
  | [], _, _, _, _, .nil, r2, v1, v2, _, _ => by
    cases v1
    cases v2
    cases r2
    rfl
  | x :: t, _, _, _, _, .cons a r1, r2, v1, v2, h1, h2 => by
    cases v1 with
    | cons u1 v1 =>
      cases v2 with
      | cons u2 v2 =>
        cases r2 with
        | cons c r2 =>
          have e := flats r1 r2 v1 v2 (fun z hz => h1 z (List.mem_cons_of_mem _ hz)) fun z hz => h2 z (List.mem_cons_of_mem _ hz)
          have f1 := h1 _ (List.mem_cons_self ..)
          have f2 := h2 _ (List.mem_cons_self ..)
          subst e
          have : ∀ {v v2 : V} {x y : D} {u : Value}, Rep K G v x → Rep K G v2 y → RelV v u → RelV v2 u → FlatZ x → FlatZ y → x = y := fun {v v2 x y u} a c u1 u2 f1 f2 => by
            cases a with
            | int i =>
              obtain ⟨t, rfl⟩ := u1
              cases c with
              | int j => obtain ⟨t2, e⟩ := u2; cases e; rfl
              | str j => obtain ⟨t2, e⟩ := u2; cases e
              | _ => exact f2.elim
            | str i =>
              obtain ⟨t, rfl⟩ := u1
              cases c with
              | int j => obtain ⟨t2, e⟩ := u2; cases e
              | str j => obtain ⟨t2, e⟩ := u2; cases e; rfl
              | _ => exact f2.elim
            | _ => exact f1.elim
          rw [this a c u1 u2 f1 f2]
theorem flat_inj {pins : List (Addr × Obj)} {σ : L2.St} {s : Shared} {cn : Str} {v : V} {x y : D} (I : Inv X pins σ H s) (sg : Same G H) (r1 : Rep X.K G v x) (r2 : Rep X.K G v y) (f1 : FlatO cn x) (f2 : FlatO cn y) : x = y := by
  obtain ⟨n, t, rfl, ht⟩ := f1
  obtain ⟨n2, t2, rfl, ht2⟩ := f2
  cases r1 with
  | obj h1 g1 =>
    cases r2 with
    | obj h2 g2 =>
      rw [h1] at h2
      cases h2
      cases g1 with
      | cons a g1 =>
        cases g1
        cases g2 with
        | cons c g2 =>
          cases g2
          cases a with
          | tup q1 p1 =>
            cases c with
            | tup q2 p2 =>
              obtain ⟨i1, v1, ⟨o1, ho1, _, m1, hd1⟩, _⟩ := I.tuple (Same.tup sg q1)
              obtain ⟨i2, v2, ⟨o2, ho2, _, m2, hd2⟩, _⟩ := I.tuple (Same.tup sg q2)
              rw [ho1] at ho2
              cases ho2
              rw [hd1] at hd2
              have e : i1 = i2 := by
                injection hd2 with e _
                have := congrArg Array.toList e
                simpa using this
              subst e
              rw [flats p1 p2 v1 v2 ht ht2]
end
section
variable {X : Cx} {W : WX} {A : Around} {e a b : Expr} {wa wb : WE} {pos : Pos} {k : Nat} {f : Addr} {fd : FuncData} {ps : List Str} {Wd : WD} {cn : Str} {pins : List (Addr × Obj)} {σ : L2.St} {H G : Hp} {s : Shared} {C : Ctx} {en : En} {E : EK}
theorem run_sub {EE : XK} {Z : VK} {sp : Sp} {us : List Value} {vs : List V} (sb : Sub X k A) (F : FnOk X.prog X.w X.K X.mg X.base (L2.CX X.prog X.w) k f fd ps sp) (hbd : Binds X.K fd ps []) (hx : PassesAt (L2.CX X.prog X.w) X σ EE) (I : Inv X pins σ H s) (r : Vals vs us) (h : sp vs H Z EE) :
    wpAny (model X.prog X.w) A (call (.ref f) us) (EP X pins σ Z) X.xe s := by
  have hl : us.length = ps.length := r.length.symm.trans (F.len _ _ _ _ h)
  have z := I.env0
  have e0 : Env0 X.prog X.w X.K X.mg X.base A X.stack s H := ⟨sb.fr.trans z.frames, z.mod, z.bs, z.bsz, z.funs, z.frf, z.hok, z.bare⟩
  have bn := hbd s us I.kIn (by simpa using hl)
  rw [List.append_nil] at bn
  refine wpAny_call (codeAny_mono (F.run A X.stack s H ⟨us, []⟩ us vs Z EE sb.room e0 bn r h) fun q s2 hq => ?_)
  cases q with
  | error q => exact hx pins H s q s2 I hq
  | ok fl => cases fl with
    | ret u => exact I.after hq
    | _ => exact False.elim hq
/-- what is told of two objects -/
def Tells (X : Cx) (pins : List (Addr × Obj)) (σ : L2.St) (C : Ctx) (G : Hp) (en : En) (P : Prop) (c : Bool) (s : Shared) : Prop := (c = true ↔ P) ∧ ∃ G' H', Rel X.K C G' H' σ en ∧ Same G G' ∧ Inv X pins σ H' s
theorem own_call {p q : Addr} {x y : D} (sb : Sub X k A) (F : FnOk X.prog X.w X.K X.mg X.base (L2.CX X.prog X.w) k f fd ps (Pr X.K Wd)) (hbd : Binds X.K fd ps []) (tk : Takes X W) (xo : XOk X.K W C E) (I : Inv X pins σ H s) (R : Rel X.K C G H σ en)
    (r1 : Rep X.K G (.ref p) x) (r2 : Rep X.K G (.ref q) y) (hq : EqD Wd x y) : wpAny (model X.prog X.w) A (call (.ref f) [.ref p, .ref q]) (fun v s' => ∃ c, v = .bool c ∧ Tells X pins σ C G en (x = y) c s') X.xe s := by
  have ask : Wd [.d x, .d y] en.b (fun z b' => (∃ c, z = .bl c ∧ (c = true ↔ x = y)) ∧ { en with b := b' } = en) (fun z b' => E z { en with b := b' }) :=
    hq _ _ _ (fun e => ⟨⟨true, rfl, iff_of_true rfl e⟩, rfl⟩) fun e => ⟨⟨false, rfl, iff_of_false (fun z => by cases z) e⟩, rfl⟩
  refine wpAny_mono (run_sub (Z := fun v H' => ∃ c, v = .bl c ∧ (c = true ↔ x = y) ∧ ∃ G', Rel X.K C G' H' σ en ∧ Same G G') sb F hbd (passAt tk σ) I (vs := [.ref p, .ref q]) (.cons rfl (.cons rfl .nil)) ?_) (fun v s2 h => ?_) fun _ _ h => h
  · refine pr_of (Q := fun z en' => (∃ c, z = .bl c ∧ (c = true ↔ x = y)) ∧ en' = en) R xo (.cons (argd r1) (.cons (argd r2) .nil)) ask fun v z G' H' en' R' s' r' ⟨⟨c, ez, ec⟩, ee⟩ => ?_
    subst ez; subst ee
    cases r'
    exact ⟨c, rfl, ec, G', R', s'⟩
  · obtain ⟨z, H', I', rz, c, rfl, ec, G', R', s'⟩ := h
    cases rz
    exact ⟨c, rfl, ec, G', H', R', s', I'⟩
theorem own_rc {p q : Addr} {x y : D} (sb : Sub X k A) (hm : Meth X.K (He.ga X.K cn) "__eq__" f) (F : FnOk X.prog X.w X.K X.mg X.base (L2.CX X.prog X.w) k f fd ps (Pr X.K Wd)) (hbd : Binds X.K fd ps []) (tk : Takes X W) (xo : XOk X.K W C E) (I : Inv X pins σ H s) (R : Rel X.K C G H σ en)
    (r1 : Rep X.K G (.ref p) x) (r2 : Rep X.K G (.ref q) y) (h1 : ∃ fs, x = .obj cn fs) (h2 : ∃ fs, y = .obj cn fs) (hq : EqD Wd x y) :
    wpAny (model X.prog X.w) A (richCompare .Eq (.ref p) (.ref q)) (fun v s' => ∃ c, v = .bool c ∧ Tells X pins σ C G en (x = y) c s') X.xe s := by
  obtain ⟨fs, rfl⟩ := h1
  obtain ⟨gs, rfl⟩ := h2
  have q1 := r1
  have q2 := r2
  cases q1 with
  | obj a1 _ =>
    cases q2 with
    | obj a2 _ =>
      obtain ⟨mA, J, _⟩ := ins_get I.hok (R.sub _ _ a1)
      obtain ⟨mB, J2, _⟩ := ins_get I.hok (R.sub _ _ a2)
      obtain ⟨od, J, _⟩ := J.look
      obtain ⟨od2, J2, _⟩ := J2.look
      obtain ⟨m, hF⟩ := I.fr
      refine PySem.W.cmp_K (op := .Eq) (tb := .ref (He.ga X.K cn)) sb.room.units0 hF I.ok.mod.kin J J2.type (by simp [PySem.W.notFirst]) hm.at_ hm.fn ?_
      refine wpAny_mono (own_call sb F hbd tk xo I R r1 r2 hq) (fun v s2 h => ?_) fun _ _ h => h
      obtain ⟨c, rfl, h⟩ := h
      exact ⟨c, rfl, h⟩
structure NeC (K : PySem.W.Frag) (C : Addr) : Prop where
  ne : PySem.W.findIn K (.ref C) "__ne__" = some (some (.builtin "object.__ne__"))
  ob : PySem.W.mroIn K C (.type "object") = some true
theorem own_ne {p q : Addr} {x y : D} (sb : Sub X (k + 1) A) (hm : Meth X.K (He.ga X.K cn) "__eq__" f) (hn : NeC X.K (He.ga X.K cn)) (F : FnOk X.prog X.w X.K X.mg X.base (L2.CX X.prog X.w) k f fd ps (Pr X.K Wd)) (hbd : Binds X.K fd ps []) (tk : Takes X W) (xo : XOk X.K W C E) (I : Inv X pins σ H s) (R : Rel X.K C G H σ en)
    (r1 : Rep X.K G (.ref p) x) (r2 : Rep X.K G (.ref q) y) (h1 : ∃ fs, x = .obj cn fs) (h2 : ∃ fs, y = .obj cn fs) (hq : EqD Wd x y) :
    wpAny (model X.prog X.w) A (richCompare .NotEq (.ref p) (.ref q)) (fun v s' => ∃ c, v = .bool (!c) ∧ Tells X pins σ C G en (x = y) c s') X.xe s := by
  obtain ⟨fs, rfl⟩ := h1
  obtain ⟨gs, rfl⟩ := h2
  have q1 := r1
  have q2 := r2
  cases q1 with
  | obj a1 _ =>
    cases q2 with
    | obj a2 _ =>
      obtain ⟨mA, J, _⟩ := ins_get I.hok (R.sub _ _ a1)
      obtain ⟨mB, J2, _⟩ := ins_get I.hok (R.sub _ _ a2)
      obtain ⟨od, J, _⟩ := J.look
      obtain ⟨od2, J2, _⟩ := J2.look
      have hu : A.units + 1 < cLine := sb.in1.room.units0
      refine EqM.ne_K (tb := .ref (He.ga X.K cn)) hu I.kIn J J2.type (by simp [PySem.W.notFirst]) hn.ne hn.ob hm.at_ hm.fn ?_
      refine wpAny_mono (own_call sb.in1 F hbd tk xo I R r1 r2 hq) (fun v s2 h => ?_) fun _ _ h => h
      obtain ⟨c, rfl, h⟩ := h
      exact ⟨c, rfl, c, rfl, h⟩
open Classical in
theorem tup_cmp (neg : Bool) {p q : Addr} {xs ys : List D} (sb : Sub X (k + 1) A) (hm : Meth X.K (He.ga X.K cn) "__eq__" f) (F : FnOk X.prog X.w X.K X.mg X.base (L2.CX X.prog X.w) k f fd ps (Pr X.K Wd)) (hbd : Binds X.K fd ps []) (tk : Takes X W) (xo : XOk X.K W C E) (I : Inv X pins σ H s) (R : Rel X.K C G H σ en)
    (r1 : Rep X.K G (.ref p) (.tup xs)) (r2 : Rep X.K G (.ref q) (.tup ys)) (hq : ∀ (i : Nat) x y, xs[i]? = some x → ys[i]? = some y → FlatO cn x ∧ FlatO cn y ∧ EqD Wd x y) :
    wpAny (model X.prog X.w) A (richCompare (if neg then .NotEq else .Eq) (.ref p) (.ref q)) (fun v s' => ∃ c, v = .bool (if neg then !c else c) ∧ Tells X pins σ C G en (xs = ys) c s') X.xe s := by
  cases r1 with
  | @tup _ vs1 _ t1 p1 =>
    cases r2 with
    | @tup _ vs2 _ t2 p2 =>
      obtain ⟨i1, v1, it1, _⟩ := I.tuple (Same.tup R.sub t1)
      obtain ⟨i2, v2, it2, _⟩ := I.tuple (Same.tup R.sub t2)
      have n1 : i1.length = xs.length := v1.length.symm.trans p1.length
      have n2 : i2.length = ys.length := v2.length.symm.trans p2.length
      refine EqM.rc_tupW neg sb.room.units0 (fun _ s' => ∃ G' H', Rel X.K C G' H' σ en ∧ Same G G' ∧ Inv X pins σ H' s') (fun i => decide (xs[i]? = ys[i]?)) it1 it2 (fun i h1 h2 s2 hI => ?_) (fun i s2 hI => ?_) ⟨G, H, R, Same.refl G, I⟩
      · obtain ⟨G', H', R', sg, I'⟩ := hI
        have l1 : i < xs.length := by rw [List.size_toArray] at h1; omega
        have l2 : i < ys.length := by rw [List.size_toArray] at h2; omega
        have hx : xs[i]? = some xs[i] := List.getElem?_eq_getElem l1
        have hy : ys[i]? = some ys[i] := List.getElem?_eq_getElem l2
        obtain ⟨f1, f2, hd⟩ := hq i _ _ hx hy
        obtain ⟨w1, hw1, rx⟩ := p1.at hx
        obtain ⟨w2, hw2, ry⟩ := p2.at hy
        obtain ⟨u1, hu1, e1⟩ := v1.get hw1
        obtain ⟨u2, hu2, e2⟩ := v2.get hw2
        have g1 : i1.toArray[i] = u1 := by
          have : i1.toArray[i]? = some u1 := by simpa using hu1
          exact Option.some.inj ((Array.getElem?_eq_getElem h1).symm.trans this)
        have g2 : i2.toArray[i] = u2 := by
          have : i2.toArray[i]? = some u2 := by simpa using hu2
          exact Option.some.inj ((Array.getElem?_eq_getElem h2).symm.trans this)
        rw [g1, g2]
        have ox : ∃ fs, xs[i] = .obj cn fs := by obtain ⟨n, t, e, _⟩ := f1; exact ⟨_, e⟩
        have oy : ∃ fs, ys[i] = .obj cn fs := by obtain ⟨n, t, e, _⟩ := f2; exact ⟨_, e⟩
        have rx' := rx.mono sg
        have ry' := ry.mono sg
        have isr : ∀ {v : V} {x : D}, Rep X.K G v x → (∃ fs, x = .obj cn fs) → ∃ a, v = .ref a := fun {v x} r ⟨fs, e⟩ => by
          subst e
          cases r
          exact ⟨_, rfl⟩
        obtain ⟨a1, rfl⟩ := isr rx ox
        obtain ⟨a2, rfl⟩ := isr ry oy
        obtain rfl : u1 = Value.ref a1 := e1
        obtain rfl : u2 = Value.ref a2 := e2
        by_cases same : a1 = a2
        · subst same
          have e := flat_inj I' R'.sub rx' ry' f1 f2
          refine SeqAt.EqAt.same (A := A.in1) (s := s2) (.ref a1) X.prog X.w X.xe _ ⟨?_, G', H', R', sg, I'⟩
          show true = decide (xs[i]? = ys[i]?)
          rw [hx, hy, e, decide_eq_true rfl]
        · refine GQ.eqBool_refG same (wpAny_mono (own_rc sb.in1 hm F hbd tk xo I' R' rx' ry' ox oy hd) (fun v s3 h => ?_) fun _ _ h => h)
          obtain ⟨c, rfl, ec, G2, H2, R2, sg2, I2⟩ := h
          refine ⟨c, rfl, ?_, G2, H2, R2, sg.trans sg2, I2⟩
          rw [hx, hy]
          cases c with
          | true => exact (decide_eq_true (congrArg some (ec.mp rfl))).symm
          | false => exact (decide_eq_false fun z => absurd (ec.mpr (Option.some.inj z)) (fun z => by cases z)).symm
      · have key : (EqM.allB (fun i => decide (xs[i]? = ys[i]?)) (min i1.toArray.size i2.toArray.size) && (i1.toArray.size == i2.toArray.size)) = true ↔ xs = ys := by
          rw [List.size_toArray, List.size_toArray, n1, n2, Bool.and_eq_true, beq_iff_eq]
          constructor
          · rintro ⟨h1, h2⟩
            refine List.ext_getElem? fun j => ?_
            by_cases hj : j < xs.length
            · unfold EqM.allB at h1
              have := List.all_eq_true.mp h1 j (List.mem_range.mpr (by omega))
              exact of_decide_eq_true this
            · rw [List.getElem?_eq_none (by omega), List.getElem?_eq_none (by omega)]
          · intro e
            subst e
            exact ⟨EqM.allB_yes fun j _ => decide_eq_true rfl, rfl⟩
        exact ⟨_, rfl, key, hI⟩
/-! ### expressions -/
def eOwnC (neg : Bool) (cn : Str) (Wd : WD) (wa wb : WE) : WE := fun en Q E => wa en (fun x en1 => wb en1 (fun y en2 => match x, y with
  | .obj c fs, .obj c2 gs => (c = cn ∧ c2 = cn) ∧ EqD Wd (.obj c fs) (.obj c2 gs) ∧ ((D.obj c fs = .obj c2 gs → Q (.bl (!neg)) en2) ∧ (D.obj c fs ≠ .obj c2 gs → Q (.bl neg) en2))
  | _, _ => False) E) E
def eTupC (neg : Bool) (cn : Str) (Wd : WD) (wa wb : WE) : WE := fun en Q E => wa en (fun x en1 => wb en1 (fun y en2 => match x, y with
  | .tup xs, .tup ys => (∀ (i : Nat) x y, xs[i]? = some x → ys[i]? = some y → FlatO cn x ∧ FlatO cn y ∧ EqD Wd x y) ∧ ((xs = ys → Q (.bl (!neg)) en2) ∧ (xs ≠ ys → Q (.bl neg) en2))
  | _, _ => False) E) E
theorem own_ownC (neg : Bool) {op : CmpOp} (hop : op = if neg then .NotEq else .Eq) (ha : DE X W a wa) (hb : DE X W b wb) (hm : Meth X.K (He.ga X.K cn) "__eq__" f) (hn : neg = true → NeC X.K (He.ga X.K cn))
    (F : FnOk X.prog X.w X.K X.mg X.base (L2.CX X.prog X.w) k f fd ps (Pr X.K Wd)) (hr : Room (k + 1) X.A) (hbd : Binds X.K fd ps []) (tk : Takes X W) {Z : VK} (I : Inv X pins σ H s) (h : Rl X.K W (eOwnC neg cn Wd wa wb) σ H Z) : wpAny (model X.prog X.w) X.A (eval a X.env) (fun v s1 => wpAny (model X.prog X.w) X.A (eval b X.env) (fun u s2 => wpAny (model X.prog X.w) X.A (compareOp op v u) (EP X pins σ Z) X.xe s2) X.xe s1) X.xe s := by
  subst hop
  obtain ⟨C, G, en, Q, E, R, xo, q, kk⟩ := h
  refine binT ha hb I (R := fun x y H2 => ∃ G2 en2 dx dy, Rel X.K C G2 H2 σ en2 ∧ Same G G2 ∧ Rep X.K G2 x dx ∧ Rep X.K G2 y dy ∧ (match dx, dy with
      | .obj c fs, .obj c2 gs => (c = cn ∧ c2 = cn) ∧ EqD Wd (.obj c fs) (.obj c2 gs) ∧ ((D.obj c fs = .obj c2 gs → Q (.bl (!neg)) en2) ∧ (D.obj c fs ≠ .obj c2 gs → Q (.bl neg) en2))
      | _, _ => False)) ?_ fun v u s2 x y H2 I2 rx ry q2 => ?_
  · refine ⟨C, G, en, _, E, R, xo, q, fun v x G1 H1 en1 R1 s1 r1 q1 => ?_⟩
    exact ⟨C, G1, en1, _, E, R1, xo, q1, fun u y G2 H2 en2 R2 s2 r2 q2 => ⟨G2, en2, x, y, R2, s1.trans s2, r1.mono s2, r2, q2⟩⟩
  · obtain ⟨G2, en2, dx, dy, R2, sg, r1, r2, q2⟩ := q2
    split at q2
    · obtain ⟨⟨rfl, rfl⟩, hd, kt, kf⟩ := q2
      have isr : ∀ {v : V} {c : Str} {fs : List (Str × D)}, Rep X.K G2 v (.obj c fs) → ∃ a, v = .ref a := fun r => by cases r; exact ⟨_, rfl⟩
      obtain ⟨a1, rfl⟩ := isr r1
      obtain ⟨a2, rfl⟩ := isr r2
      obtain rfl : v = Value.ref a1 := rx
      obtain rfl : u = Value.ref a2 := ry
      have sb : Sub X (k + 1) X.A := ⟨hr, rfl⟩
      cases neg with
      | false =>
        refine wpAny_mono (own_rc (sb.mono (Nat.le_succ k)) hm F hbd tk xo I2 R2 r1 r2 ⟨_, rfl⟩ ⟨_, rfl⟩ hd) (fun v s3 h => ?_) fun _ _ h => h
        obtain ⟨c, rfl, ec, G3, H3, R3, sg3, I3⟩ := h
        refine ⟨.bl c, H3, I3, rfl, kk _ (.bl c) G3 H3 en2 R3 (sg.trans sg3) (.bl c) ?_⟩
        cases c with
        | true => exact kt (ec.mp rfl)
        | false => exact kf fun z => absurd (ec.mpr z) fun z => by cases z
      | true =>
        refine wpAny_mono (own_ne sb hm (hn rfl) F hbd tk xo I2 R2 r1 r2 ⟨_, rfl⟩ ⟨_, rfl⟩ hd) (fun v s3 h => ?_) fun _ _ h => h
        obtain ⟨c, rfl, ec, G3, H3, R3, sg3, I3⟩ := h
        refine ⟨.bl (!c), H3, I3, rfl, kk _ (.bl (!c)) G3 H3 en2 R3 (sg.trans sg3) (.bl _) ?_⟩
        cases c with
        | true => exact kt (ec.mp rfl)
        | false => exact kf fun z => absurd (ec.mpr z) fun z => by cases z
    · exact q2.elim
theorem d_ownC (neg : Bool) {op : CmpOp} (hop : op = if neg then .NotEq else .Eq) (ha : DE X W a wa) (hb : DE X W b wb) (hm : Meth X.K (He.ga X.K cn) "__eq__" f) (hn : neg = true → NeC X.K (He.ga X.K cn))
    (F : FnOk X.prog X.w X.K X.mg X.base (L2.CX X.prog X.w) k f fd ps (Pr X.K Wd)) (hr : Room (k + 1) X.A) (hbd : Binds X.K fd ps []) (tk : Takes X W) (h1 : behindInMarks op b = false := by first | exact nobehind _ (by decide) (by decide) | rfl) : DE X W (.Compare a [op] [b] pos) (eOwnC neg cn Wd wa wb) :=
  ⟨fun pins s σ H Z I h => wpAny_Compare1 (own_ownC neg hop ha hb hm hn F hr hbd tk I h) h1⟩
theorem dt_ownC (neg : Bool) {op : CmpOp} (hop : op = if neg then .NotEq else .Eq) (ha : DE X W a wa) (hb : DE X W b wb) (hm : Meth X.K (He.ga X.K cn) "__eq__" f) (hn : neg = true → NeC X.K (He.ga X.K cn))
    (F : FnOk X.prog X.w X.K X.mg X.base (L2.CX X.prog X.w) k f fd ps (Pr X.K Wd)) (hr : Room (k + 1) X.A) (hbd : Binds X.K fd ps []) (tk : Takes X W) (h1 : behindInMarks op b = false := by first | exact nobehind _ (by decide) (by decide) | rfl) : DT X W (.Compare a [op] [b] pos) (tOf (eOwnC neg cn Wd wa wb)) :=
  ⟨fun pins s σ H Z I h => by
    obtain ⟨C, G, en, Q, E, R, xo, q, kk⟩ := h
    have h2 : Rl X.K W (eOwnC neg cn Wd wa wb) σ H (fun z H' => ∃ t, z = .bl t ∧ Z t H') := ⟨C, G, en, _, E, R, xo, q, fun v x G1 H1 en1 R1 s1 r1 q1 => by
      cases r1 with
      | bl c => exact ⟨c, rfl, kk c G1 H1 en1 R1 s1 q1⟩
      | _ => exact q1.elim⟩
    refine wpAny_isTrue_Compare1 (wpAny_mono (own_ownC neg hop ha hb hm hn F hr hbd tk I h2) (fun v s1 h => wpAny_mono h (fun u s2 h => wpAny_mono h (fun c s3 h => ?_) fun _ _ x => x) fun _ _ x => x) fun _ _ x => x) h1
    obtain ⟨z, H3, I3, r3, t, e, q3⟩ := h
    subst e
    cases r3
    exact wpAny_truthy_bool ⟨H3, I3, q3⟩⟩
theorem own_tupC (neg : Bool) {op : CmpOp} (hop : op = if neg then .NotEq else .Eq) (ha : DE X W a wa) (hb : DE X W b wb) (hm : Meth X.K (He.ga X.K cn) "__eq__" f)
    (F : FnOk X.prog X.w X.K X.mg X.base (L2.CX X.prog X.w) k f fd ps (Pr X.K Wd)) (hr : Room (k + 1) X.A) (hbd : Binds X.K fd ps []) (tk : Takes X W) {Z : VK} (I : Inv X pins σ H s) (h : Rl X.K W (eTupC neg cn Wd wa wb) σ H Z) : wpAny (model X.prog X.w) X.A (eval a X.env) (fun v s1 => wpAny (model X.prog X.w) X.A (eval b X.env) (fun u s2 => wpAny (model X.prog X.w) X.A (compareOp op v u) (EP X pins σ Z) X.xe s2) X.xe s1) X.xe s := by
  subst hop
  obtain ⟨C, G, en, Q, E, R, xo, q, kk⟩ := h
  refine binT ha hb I (R := fun x y H2 => ∃ G2 en2 dx dy, Rel X.K C G2 H2 σ en2 ∧ Same G G2 ∧ Rep X.K G2 x dx ∧ Rep X.K G2 y dy ∧ (match dx, dy with
      | .tup xs, .tup ys => (∀ (i : Nat) x y, xs[i]? = some x → ys[i]? = some y → FlatO cn x ∧ FlatO cn y ∧ EqD Wd x y) ∧ ((xs = ys → Q (.bl (!neg)) en2) ∧ (xs ≠ ys → Q (.bl neg) en2))
      | _, _ => False)) ?_ fun v u s2 x y H2 I2 rx ry q2 => ?_
  · refine ⟨C, G, en, _, E, R, xo, q, fun v x G1 H1 en1 R1 s1 r1 q1 => ?_⟩
    exact ⟨C, G1, en1, _, E, R1, xo, q1, fun u y G2 H2 en2 R2 s2 r2 q2 => ⟨G2, en2, x, y, R2, s1.trans s2, r1.mono s2, r2, q2⟩⟩
  · obtain ⟨G2, en2, dx, dy, R2, sg, r1, r2, q2⟩ := q2
    split at q2
    · obtain ⟨hd, kt, kf⟩ := q2
      have isr : ∀ {v : V} {fs : List D}, Rep X.K G2 v (.tup fs) → ∃ a, v = .ref a := fun r => by cases r; exact ⟨_, rfl⟩
      obtain ⟨a1, rfl⟩ := isr r1
      obtain ⟨a2, rfl⟩ := isr r2
      obtain rfl : v = Value.ref a1 := rx
      obtain rfl : u = Value.ref a2 := ry
      have sb : Sub X (k + 1) X.A := ⟨hr, rfl⟩
      have fin : wpAny (model X.prog X.w) X.A (richCompare (if neg then .NotEq else .Eq) (.ref a1) (.ref a2)) (EP X pins σ Z) X.xe s2 := by
        refine wpAny_mono (tup_cmp neg sb hm F hbd tk xo I2 R2 r1 r2 hd) (fun v s3 h => ?_) fun _ _ h => h
        obtain ⟨c, rfl, ec, G3, H3, R3, sg3, I3⟩ := h
        refine ⟨.bl (if neg then !c else c), H3, I3, rfl, kk _ (.bl (if neg then !c else c)) G3 H3 en2 R3 (sg.trans sg3) (.bl _) ?_⟩
        cases c with
        | true =>
          have := kt (ec.mp rfl)
          cases neg <;> exact this
        | false =>
          have := kf fun z => absurd (ec.mpr z) fun z => by cases z
          cases neg <;> exact this
      cases neg with
      | true => exact fin
      | false => exact fin
    · exact q2.elim
theorem d_tupC (neg : Bool) {op : CmpOp} (hop : op = if neg then .NotEq else .Eq) (ha : DE X W a wa) (hb : DE X W b wb) (hm : Meth X.K (He.ga X.K cn) "__eq__" f)
    (F : FnOk X.prog X.w X.K X.mg X.base (L2.CX X.prog X.w) k f fd ps (Pr X.K Wd)) (hr : Room (k + 1) X.A) (hbd : Binds X.K fd ps []) (tk : Takes X W) (h1 : behindInMarks op b = false := by first | exact nobehind _ (by decide) (by decide) | rfl) : DE X W (.Compare a [op] [b] pos) (eTupC neg cn Wd wa wb) :=
  ⟨fun pins s σ H Z I h => wpAny_Compare1 (own_tupC neg hop ha hb hm F hr hbd tk I h) h1⟩
end
end KD

/-! a | b for two objects of one own class. -/
namespace KD
open PySem PySem.Spec PyProof.Rows L2 KP
section
variable {prog : Program} {w : World} {A : Around} {E : Value → Shared → Prop} {s : Shared} {K : PySem.W.Frag} {x y C f : Addr} {ox oy : Obj} {od od2 : Option Obj}
end
section
variable {X : Cx} {W : WX} {a b : Expr} {wa wb : WE} {pos : Pos} {k : Nat} {f : Addr} {fd : FuncData} {ps : List Str} {Wd : WD} {cn : Str}
end
end KD

/-! A function that is found by a value, whose list is new. -/
namespace KD
open PySem PySem.Spec PyProof.Rows L2 KP
section
variable {X : Cx} {W : WX} {e fe : Expr} {es : List Expr} {r : WA} {pos : Pos} {wf : WE}
def CallbF (X : Cx) (n : Str) (Wd : WD) : Prop := ∃ k fd ps, FnOk X.prog X.w X.K X.mg X.base (L2.CX X.prog X.w) k (He.ga X.K n) fd ps (PrF X.K Wd) ∧ Room k X.A ∧ PySem.W.keepIn X.K (.ref (He.ga X.K n)) = true ∧ Binds X.K fd ps []
inductive CallbsF (X : Cx) : List (Str × WD) → Prop
  | nil : CallbsF X []
  | cons {n : Str} {Wd : WD} {r : List (Str × WD)} : CallbF X n Wd → CallbsF X r → CallbsF X ((n, Wd) :: r)
theorem CallbsF.look {tb : List (Str × WD)} (h : CallbsF X tb) {n : Str} {Wd : WD} (e : tb.lookup n = some Wd) : CallbF X n Wd := by
  induction h with
  | nil => simp at e
  | @cons m Wm r h _ ih =>
    rw [List.lookup_cons] at e
    cases q : n == m with
    | true => rw [q] at e; cases e; rw [eq_of_beq q]; exact h
    | false => rw [q] at e; exact ih e
end
section
variable {X : Cx} {W : WX} {pos : Pos}
end
end KD

/-! xs.remove(text); max(ints, default=..); xs[::-1]; min of pairs (int, text). -/
namespace KD
open PySem PySem.Spec PyProof.Rows L2 KP
section
variable {X : Cx} {W : WX} {e a b d : Expr} {w wa wd ws : WE} {r : WA} {pos p p2 kpos : Pos} {st : Stmt} {x : Str} {i : Nat}
/-! ### max(ints, default=d) -/
/-! ### xs[::-1], a list -/
end
/-! ### min of pairs (int, text) -/
section
variable {X : Cx} {W : WX}
end
/-! ### for x in a list or a tuple -/
section
variable {X : Cx} {W : WX} {e : Expr} {w : WE} {tg : Expr}
end
end KD

/-! zip of two tuples; isinstance(x, (T, U)); a def that calls itself: the call that is none. -/
namespace KD
open PySem PySem.Spec PyProof.Rows L2 KP
section
variable {X : Cx} {W : WX} {e : Expr} {w : WE}
end
/-! ### is True, is not False -/
section
variable {X : Cx} {W : WX} {a b : Expr} {w : WE} {pos : Pos} {i : Nat}
/-! ### x in xs, an own list of any data -/
end
section
variable {P : Program} {w : World} {K : PySem.W.Frag} {mg : Str → Option Value} {base : Heap}
end
end KD

/-! len of an own object; own == and != with a value of any built-in kind. -/
namespace KD
open PySem PySem.Spec PyProof.Rows L2 KP
section
variable {prog : Program} {w : World} {A : Around} {E : Value → Shared → Prop} {s : Shared} {K : PySem.W.Frag} {x C f : Addr} {ox : Obj} {od : Option Obj}
end
section
variable {X : Cx} {W : WX} {e a b : Expr} {w wa wb : WE} {p pos : Pos} {k : Nat} {f : Addr} {fd : FuncData} {ps : List Str} {Wd : WD} {cn : Str}
/-! ### own == and != with a value of a built-in kind -/
theorem notFirst_ty {K : PySem.W.Frag} {C : Addr} {t : String} {x : D} (h : x.tn = some t) : PySem.W.notFirst K C (.type t) = true := by
  cases x <;> cases h <;> rfl
def eOwnA (neg : Bool) (cn : Str) (Wd : WD) (wa wb : WE) : WE := fun en Q E => wa en (fun x en1 => wb en1 (fun y en2 => match x with
  | .obj c fs => c = cn ∧ y.tn.isSome = true ∧ Wd [.d (.obj c fs), .d y] en2.b (fun z b' => match z with | .bl t => Q (.bl (if neg then !t else t)) { en2 with b := b' } | _ => False) (fun z b' => E z { en2 with b := b' })
  | _ => False) E) E
theorem own_ownA (neg : Bool) {op : CmpOp} (hop : op = if neg then .NotEq else .Eq) (ha : DE X W a wa) (hb : DE X W b wb) (hm : Meth X.K (He.ga X.K cn) "__eq__" f) (hn : neg = true → NeC X.K (He.ga X.K cn))
    (F : FnOk X.prog X.w X.K X.mg X.base (L2.CX X.prog X.w) k f fd ps (Pr X.K Wd)) (hr : Room (k + 1) X.A) (hbd : Binds X.K fd ps []) (tk : Takes X W) {pins : List (Addr × Obj)} {s : Shared} {σ : L2.St} {H : Hp} {Z : VK} (I : Inv X pins σ H s) (h : Rl X.K W (eOwnA neg cn Wd wa wb) σ H Z) : wpAny (model X.prog X.w) X.A (eval a X.env) (fun v s1 => wpAny (model X.prog X.w) X.A (eval b X.env) (fun u s2 => wpAny (model X.prog X.w) X.A (compareOp op v u) (EP X pins σ Z) X.xe s2) X.xe s1) X.xe s := by
  subst hop
  obtain ⟨C, G, en, Q, E, R, xo, q, kk⟩ := h
  refine binT (f := compareOp (if neg then .NotEq else .Eq)) ha hb I (R := fun x y H2 => ∃ G2 en2 dx dy, Rel X.K C G2 H2 σ en2 ∧ Same G G2 ∧ Rep X.K G2 x dx ∧ Rep X.K G2 y dy ∧ (match dx with
      | .obj c fs => c = cn ∧ dy.tn.isSome = true ∧ Wd [.d (.obj c fs), .d dy] en2.b (fun z b' => match z with | .bl t => Q (.bl (if neg then !t else t)) { en2 with b := b' } | _ => False) (fun z b' => E z { en2 with b := b' })
      | _ => False)) ?_ fun v u s2 x y H2 I2 rx ry q2 => ?_
  · refine ⟨C, G, en, _, E, R, xo, q, fun v x G1 H1 en1 R1 s1 r1 q1 => ?_⟩
    exact ⟨C, G1, en1, _, E, R1, xo, q1, fun u y G2 H2 en2 R2 s2 r2 q2 => ⟨G2, en2, x, y, R2, s1.trans s2, r1.mono s2, r2, q2⟩⟩
  · obtain ⟨G2, en2, dx, dy, R2, sg, r1, r2, q2⟩ := q2
    cases r1 with
    | @obj a0 dx0 c0 vs0 xs0 h1 h2 =>
      obtain ⟨ec, et, q2⟩ := q2
      subst ec
      obtain rfl : v = Value.ref a0 := rx
      obtain ⟨t, et⟩ := Option.isSome_iff_exists.mp et
      obtain ⟨mA, J, _⟩ := ins_get I2.hok (R2.sub _ _ h1)
      obtain ⟨od, J, _⟩ := J.look
      obtain ⟨m, hF⟩ := I2.fr
      obtain ⟨P, kx, hP, _⟩ := kit_of I2 ry ((r2.toH R2.sub).tyx et)
      have lt := kx.ty (model X.prog X.w) _ I2.kIn hP
      have core : ∀ {A : Around}, Sub X k A → wpAny (model X.prog X.w) A (call (.ref f) [.ref a0, u]) (fun r s' => ∃ c, r = .bool c ∧ EP X pins σ Z (.bool (if neg then !c else c)) s') X.xe s2 := fun {A} sb => by
        refine wpAny_mono (run_sub (Z := fun w H' => ∃ t, w = .bl t ∧ Z (.bl (if neg then !t else t)) H') sb F hbd (passAt tk σ) I2 (vs := [.ref a0, y]) (.cons rfl (.cons ry .nil)) ?_) (fun r s' h => ?_) fun _ _ h => h
        · refine pr_of (Q := fun z en' => match z with | .bl t => Q (.bl (if neg then !t else t)) en' | _ => False) R2 xo (.cons (argd (Rep.obj h1 h2)) (.cons (argd r2) .nil)) q2 fun w z G' H' en' R' s' r' q' => ?_
          cases r' with
          | bl t => exact ⟨t, rfl, kk _ _ G' H' en' R' (sg.trans s') (.bl _) q'⟩
          | _ => exact q'.elim
        · obtain ⟨w, H', I', rw_, t, rfl, hz⟩ := h
          cases rw_
          exact ⟨t, rfl, .bl _, H', I', rfl, hz⟩
      have sb : Sub X (k + 1) X.A := ⟨hr, rfl⟩
      cases neg with
      | false =>
        refine PySem.W.cmp_K (op := .Eq) (tb := .type t) hr.units0 hF I2.ok.mod.kin J lt (notFirst_ty et) hm.at_ hm.fn ?_
        refine wpAny_mono (core (sb.mono (Nat.le_succ k))) (fun v s3 h => ?_) fun _ _ h => h
        obtain ⟨c, rfl, h⟩ := h
        exact h
      | true =>
        have hu : X.A.units + 1 < cLine := sb.in1.room.units0
        refine EqM.ne_K (tb := .type t) hu I2.kIn J lt (notFirst_ty et) (hn rfl).ne (hn rfl).ob hm.at_ hm.fn ?_
        refine wpAny_mono (core sb.in1) (fun v s3 h => ?_) fun _ _ h => h
        obtain ⟨c, rfl, h⟩ := h
        exact ⟨c, rfl, h⟩
    | _ => exact q2.elim
theorem dt_ownA (neg : Bool) {op : CmpOp} (hop : op = if neg then .NotEq else .Eq) (ha : DE X W a wa) (hb : DE X W b wb) (hm : Meth X.K (He.ga X.K cn) "__eq__" f) (hn : neg = true → NeC X.K (He.ga X.K cn))
    (F : FnOk X.prog X.w X.K X.mg X.base (L2.CX X.prog X.w) k f fd ps (Pr X.K Wd)) (hr : Room (k + 1) X.A) (hbd : Binds X.K fd ps []) (tk : Takes X W) (h1 : behindInMarks op b = false := by first | exact nobehind _ (by decide) (by decide) | rfl) : DT X W (.Compare a [op] [b] pos) (tOf (eOwnA neg cn Wd wa wb)) :=
  ⟨fun pins s σ H Z I h => by
    have h2 : Rl X.K W (eOwnA neg cn Wd wa wb) σ H (fun z H' => ∃ t, z = .bl t ∧ Z t H') := test_of h
    refine wpAny_isTrue_Compare1 (wpAny_mono (own_ownA neg hop ha hb hm hn F hr hbd tk I h2) (fun v s1 h => wpAny_mono h (fun u s2 h => wpAny_mono h (fun c s3 h => ?_) fun _ _ x => x) fun _ _ x => x) fun _ _ x => x) h1
    obtain ⟨z, H3, I3, r3, t, e, q3⟩ := h
    subst e
    cases r3
    exact wpAny_truthy_bool ⟨H3, I3, q3⟩⟩
end
end KD

/-! C(e, ..) of a class whose `__init__` takes any number of arguments. -/
namespace KD
open PySem PySem.Spec PyProof.Rows L2 KP
section
variable {X : Cx} {W : WX} {e : Expr} {es : List Expr} {w : WE} {r : WA} {p pos : Pos} {x cn : Str} {k : Nat} {f : Addr} {Wn : WN}
theorem d_makeRP (M : Mk X.K (He.ga X.K cn) f) (F : FnR X.prog X.w X.K X.mg X.base (L2.CX X.prog X.w) k f (PrI X.K cn Wn)) (hr : Room (k + 1) X.A) (hg : Gl X x) (hm : X.mg x = some (.ref (He.ga X.K cn))) (tk : Takes X W) (ha : DA X W (e :: es) r)
    (hdb : (x == ("__debug__" : Str)) = false := by decide) (he : starEach (e :: es) X.env = (false, eval e X.env) :: starEach es X.env := by rfl) (hpl : (backTo pos (starEach es X.env)).any (·.1) = false := by rfl) : DE X W (.Call (.Name x p) (e :: es) [] pos) (eMake cn Wn r) := by
  refine ⟨fun pins s σ H Z I h => ?_⟩
  refine wpAny_Call_Name_kw (ld_glob I hg hm ?_ hdb)
  obtain ⟨C, G, en, Q, E, R, xo, q, k⟩ := h
  have h1 : RlA X.K W r σ H (fun vs H1 => ∀ x dx, H1 x = none → H1 dx = none → dx ≠ x → PrI X.K cn Wn (.ref x :: vs) (upd (upd H1 dx (.own x)) x (.ins (He.ga X.K cn) dx [])) (fun v H2 => v = .non ∧ Z (.ref x) H2) (L2.WE W σ)) :=
    ⟨C, G, en, _, E, R, xo, q, fun vs bs G1 H1 en1 R1 s1 r1 q1 => make_of R1 xo r1 q1 fun v y G' H' en' R' s' r' q' => k v y G' H' en' R' (s1.trans s') r' q'⟩
  refine PySem.W.callWith_K (h₀ := X.base) I.ok.mod.kin M.kp (thn (ha.run pos pins s σ H _ I h1) fun us s1 ⟨vs, H1, I1, r, q⟩ => ⟨I1.kIn, ?_⟩) he hpl
  exact run_makeRS M F hr (passAt tk σ) I1 r q
end
end KD

/-! A lambda that a def gets and hands on: its calls, wherever they stand. -/
namespace KD
open PySem PySem.Spec PyProof.Rows L2 KP LamX NdefX
/-- a context whose start is reached from (s, H), d calls deeper at most -/
structure CtxG (d : Nat) (X : Cx) (P : Program) (w : World) (K : PySem.W.Frag) (mg : Str → Option Value) (base : Heap) (A : Around) (fs : List Addr) (s : Shared) (H : Hp) : Prop where
  P : X.prog = P
  w : X.w = w
  K : X.K = K
  mg : X.mg = mg
  base : X.base = base
  un : Un fs [] H X.H_0 s.heap X.s_0.heap
  fr : ∀ b o, s.heap.get? b = some o → b ∈ X.fs → b ∈ fs
  ex : X.ex = []
  rm : ∀ j, Room (j + d) A → Room j X.A
section
variable {X : Cx} {pins : List (Addr × Obj)} {σ : L2.St} {H : Hp} {s : Shared}
end
end KD

/-! A def that gets a function, calls it and hands it on. -/
namespace KD
open PySem PySem.Spec PyProof.Rows L2 KP LamX NdefX
/-- the function at fa may be handed on out of X -/
def Pass (X : Cx) (fa : Addr) (g : Hp) (o : OF) : Prop := ∀ pins σ H1 s1, Inv X pins σ H1 s1 → ∀ X2 : Cx, CtxAt X2 X.prog X.w X.K X.mg X.base X.A X.stack s1 H1 → CallX X2 fa g o
structure FnP (P : Program) (w : World) (K : PySem.W.Frag) (mg : Str → Option Value) (base : Heap) (k : Nat) (f : Addr) (ps : List Str) (Wl : Addr → Hp → OF → WD) : Prop where
  run : ∀ (A : Around) (outer : List Env) (s : Shared) (H : Hp) (us : List Value) (vs : List V) (Z : VK) (E : XK) (fa : Addr) (g : Hp) (o : OF), A.guards = some [] → Room k A → Env0 P w K mg base A outer s H → Vals vs us →
    (∀ X : Cx, CtxG 2 X P w K mg base A (frs outer) s H → CallX X fa g o) → Pr K (Wl fa g o) vs H Z E → codeAny (model P w) A (.call (.ref f) ⟨us, []⟩) (CR (L2.CX P w) outer P w H s Z E) s
section
variable {P : Program} {w : World} {K : PySem.W.Frag} {mg : Str → Option Value} {base : Heap} {A : Around} {outer : List Env} {s : Shared} {H : Hp} {fa : Addr} {g : Hp} {o : OF}
end
section
variable {P : Program} {w : World} {K : PySem.W.Frag} {mg : Str → Option Value} {base : Heap} {x qual : Str} {params : Arguments} {body : List Stmt} {scope : Scope} {dvs : List V} {kws : List (Str × V)} {f : Addr} {fd : FuncData} {k : Nat}
theorem FnP.mono {Wl : Addr → Hp → OF → WD} {ps : List Str} {j : Nat} (F : FnP P w K mg base k f ps Wl) (h : k ≤ j) : FnP P w K mg base j f ps Wl := ⟨fun A outer s H us vs Z E fa g o gd hr => F.run A outer s H us vs Z E fa g o gd (hr.mono h)⟩
end
section
variable {X : Cx} {W : WX} {p p2 pos : Pos} {x a : Str} {i j : Nat} {f fa : Addr} {g : Hp} {o : OF} {ps : List Str} {Wl : Addr → Hp → OF → WD}
end
end KD

/-! f(lambda, e, ..): the call. -/
namespace KD
open PySem PySem.Spec PyProof.Rows L2 KP LamX NdefX
section
variable {X : Cx} {pins : List (Addr × Obj)} {σ : L2.St} {H : Hp} {s : Shared}
end
end KD

/-! f(lambda, e, ..): the rule. -/
namespace KD
open PySem PySem.Spec PyProof.Rows L2 KP LamX NdefX
/-- a code object is taken among the data -/
theorem Rel.code {C : Ctx} {G H : Hp} {σ : L2.St} {en : En} {K : PySem.W.Frag} {c : Addr} {q : Str} (R : Rel K C G H σ en) (h : H c = some (CodeO c q)) : Rel K C (upd G c (CodeO c q)) H σ en := by
  have nm : ∀ a, Trk H a → a ≠ c := fun a t e => by
    subst e
    obtain ⟨o, h1, m⟩ := t
    rw [h] at h1; cases h1; cases m
  have f : Fr K C.π [] G H (upd G c (CodeO c q)) H en.b := by
    refine ⟨fun a o e => ?_, fun a o e => ?_, fun a e n => ?_, fun a o e _ _ _ => e, .refl, NoT.upd rfl, fun p e => ⟨(R.penG p e).1, ?_⟩, fun x e => nomatch e⟩
    · by_cases z : a = c
      · subst z
        have := R.sub _ _ e
        rw [h] at this
        rw [upd_same, ← this]
      · rw [upd_ne z]; exact e
    · by_cases z : a = c
      · subst z; rw [upd_same] at e; rw [← e]; exact h
      · rw [upd_ne z] at e; exact R.sub _ _ e
    · by_cases z : a = c
      · subst z; exact .inr ⟨_, h, rfl⟩
      · rw [upd_ne z] at e; exact absurd n e
    · have n : p.a ≠ c := fun z => by
        obtain ⟨kvs, hk⟩ := (R.penG p e).1.is_
        rw [z, h] at hk; cases hk
      rw [upd_ne n]; exact (R.penG p e).2
  exact R.call f
section
variable {X : Cx} {W : WX} {es : List Expr} {w wb : WE} {r : WA} {p pos lpos : Pos} {x : Str} {j k : Nat} {f c P : Addr} {ps : List Str} {Wl : Addr → Hp → OF → WD} {params : Arguments} {body : Expr} {scope : Scope} {Nl pl fr : List Str} {js : List Nat}
end
end KD

/-! own op a value of one of some built-in types. -/
namespace KD
open PySem PySem.Spec PyProof.Rows L2 KP LamX
section
variable {X : Cx} {W : WX} {e a b : Expr} {w wa wb : WE} {r : WA} {p pos apos : Pos} {x m : Str} {k : Nat} {f : Addr} {fd : FuncData} {ps : List Str} {Wd : WD} {cn : Str}
end
section
variable {X : Cx} {W : WX} {e a b : Expr} {w wa wb : WE} {r : WA} {p pos apos : Pos} {x m : Str} {k : Nat} {f : Addr} {fd : FuncData} {ps : List Str} {Wd : WD} {cn : Str}
end
end KD

/-! a, b, *c = a list or a tuple. -/
namespace StarT
open PySem PySem.Spec PyProof.Rows
section
variable {prog : Program} {w : World} {A : Around} {E : Value → Shared → Prop} {s : Shared}
theorem shiftS {I : Addr} {fp wr : List Addr} {G : Array GenState → Array GenState → Prop} {n k : Nat} {P : Nat → Value → Prop} {St : Nat → Shared → Prop} (W : WalksS prog w A I fp wr G n P St) (hk : k ≤ n) : WalksS prog w A I fp wr G (n - k) (fun j => P (k + j)) (fun j => St (k + j)) where
  sub := W.sub
  grefl := W.grefl
  gtrans := W.gtrans
  frame := fun i s h' tk st => W.frame (k + i) s h' tk st
  item := fun i s Q E hi st hQ => W.item (k + i) s Q E (by omega) st fun v s' hp st' hm => hQ v s' hp (by rw [show k + (i + 1) = k + i + 1 by omega]; exact st') hm
  done := fun s Q E st hQ => W.done s Q E (by rw [show k + (n - k) = n by omega] at st; exact st) hQ
  self := fun i s Q E st hQ => W.self (k + i) s Q E st hQ
theorem items_drop {items : Array Value} {k : Nat} {acc : Array Value} (h : ItemsOf (fun j v => items[k + j]? = some v) acc (items.size - k)) : acc.toList = items.toList.drop k := by
  refine List.ext_getElem? fun j => ?_
  rw [List.getElem?_drop, Array.getElem?_toList, Array.getElem?_toList]
  by_cases hj : j < acc.size
  · rw [Array.getElem?_eq_getElem hj]
    exact (h.2 j _ (Array.getElem?_eq_getElem hj)).symm
  · rw [Array.getElem?_eq_none (by omega), Array.getElem?_eq_none (by have := h.1; omega)]
def lstOb (l : List Value) : Obj := { cls := .type "list", data := .seq l.toArray }
theorem rest_ok {it l : Addr} {items : Array Value} {k : Nat} {s0 : Shared} {T : String} {Q : List Value → Shared → Prop} (hsz : items.size ≤ sizeLine) (hk : k ≤ items.size) {St : Nat → Heap → Prop} (W : Walks prog w A.in1 it [it, l] [it] items.size (fun i v => items[i]? = some v) St)
    (hTm : T = "list_iterator" ∨ T = "tuple_iterator") (hT : ∀ i h, St i h → ∃ o, h.get? it = some o ∧ o.cls = .type T) (hn : it = s0.heap.objs.size) (hln : l < it) {h1 : Heap} {tk : Nat} (hst : St k h1) (ex : Heap.ExtBut it s0.heap h1)
    (hQ : ∀ (hp : Heap) (t : Nat), (∀ b o, s0.heap.get? b = some o → hp.get? b = some o) → Q (items.toList.take k ++ [.ref hp.objs.size]) { s0 with heap := hp.push (lstOb (items.toList.drop k)), toks := t }) :
    wpAny (model prog w) A (do
      let rest ← holding (items.toList.take k) (collect (.ref it))
      let after := k + 1 - 1 - k
      if rest.length < after then
        rule "unpack.star.too-few"
        raiseError "ValueError" s!"not enough values to unpack (expected at least {k + 1 - 1}, got {k + rest.length})"
      let mid := rest.length - after
      return items.toList.take k ++ [← newList (rest.take mid)] ++ rest.drop mid) Q E { s0 with heap := h1, toks := tk } := by
  have hlt : it < h1.objs.size := by
    obtain ⟨o, ho, _⟩ := hT k h1 hst
    exact Heap.lt_size ho
  have hTm2 : T = "str_ascii_iterator" ∨ T = "str_iterator" ∨ T = "list_iterator" ∨ T = "tuple_iterator" := by
    rcases hTm with h | h
    · exact .inr (.inr (.inl h))
    · exact .inr (.inr (.inr h))
  refine wpAny_bind (wpAny_holding (wpAny_collect_iter (T := T) (fp := [it, l]) (wr := [it]) hTm2 (shiftS W.toS hk) (fun i s st => hT _ _ st) hst (fun b hb => ?_) (by simp) (fun s' acc hm ha => ?_) (show items.size - k ≤ sizeLine by omega)))
  · simp only [List.mem_cons, List.not_mem_nil, or_false] at hb
    rcases hb with rfl | rfl
    · exact hlt
    · exact Nat.lt_trans hln hlt
  rw [items_drop ha]
  rw [show k + 1 - 1 - k = 0 by omega]
  dsimp only
  rw [if_neg (Nat.not_lt_zero _), Nat.sub_zero, List.take_length, List.drop_length]
  have hd : sizeOk (.seq (items.toList.drop k).toArray) := by
    show (items.toList.drop k).toArray.size ≤ sizeLine
    rw [List.size_toArray, List.length_drop, Array.length_toList]; omega
  refine wpAny_bind (wpAny_newObj_type ?_ hd)
  refine wpAny_pure ?_
  rw [List.append_nil]
  obtain ⟨hp, g, d, t, os⟩ := s'
  obtain ⟨m1, m2, m3, m4, m5⟩ := hm
  dsimp only at m1 m2 m3 m4 m5 ⊢
  subst m2; subst m3; subst m4
  exact hQ hp t fun b o e => by
    have hb : b ≠ it := by rw [hn]; exact Nat.ne_of_lt (Heap.lt_size e)
    exact m1 b o (by simpa using hb) (ex b o hb e)
theorem star_list {l : Addr} {items : Array Value} {k : Nat} {Q : List Value → Shared → Prop} (hh : A.handled = none) (hl : s.heap.IsList l items) (hsz : items.size ≤ sizeLine) (hk : k ≤ items.size)
    (hQ : ∀ (hp : Heap) (t : Nat), (∀ b o, s.heap.get? b = some o → hp.get? b = some o) → Q (items.toList.take k ++ [.ref hp.objs.size]) { s with heap := hp.push (lstOb (items.toList.drop k)), toks := t }) : wpAny (model prog w) A (unpackItems (.ref l) (k + 1) (some k)) Q E s := by
  have hlt : l < s.heap.objs.size := by obtain ⟨o, ho, _⟩ := hl; exact Heap.lt_size ho
  have hne : l ≠ s.heap.objs.size := Nat.ne_of_lt hlt
  unfold unpackItems
  refine wpAny_bind ?_
  · unfold notIterableAtAll
    refine wpAny_bind (wpAny_specialOf hl.typeIs slot_list_iter.lookup ?_)
    refine wpAny_pure ?_
    simp only [Bool.false_eq_true, if_false]
    refine wpAny_bind (wpAny_holding (wpAny_pyIter_list hl ?_))
    refine wpAny_bind (wpAny_holding (PySem.W.kun_draw hne k 0 _ _ ⟨_, Heap.get?_push_size _ rfl, rfl, rfl⟩ (hl.push _) (by omega) fun h₁ hit₁ hs₁ => ?_))
    rw [List.drop_zero]
    have len : (items.toList.take k).length = k := by rw [List.length_take, Array.length_toList]; omega
    rw [len, if_neg (Nat.lt_irrefl _)]
    have hl₁ : h₁.IsList l items := (hl.push _).extBut hs₁.extBut hne
    rw [Nat.zero_add] at hit₁
    exact rest_ok (s0 := s) (T := "list_iterator") hsz hk (Walks.list (A := A.in1) hh _ l hne items) (.inl rfl) (fun i h st => let ⟨o, ho, hc, _⟩ := st.1; ⟨o, ho, hc⟩) rfl hlt ⟨hit₁, hl₁⟩ (fun b o hb e => hs₁.extBut b o hb (Heap.get?_push_of_some _ e)) hQ
theorem star_tuple {l : Addr} {items : Array Value} {k : Nat} {Q : List Value → Shared → Prop} (hh : A.handled = none) (hl : IsTup s.heap l items) (hsz : items.size ≤ sizeLine) (hk : k ≤ items.size)
    (hQ : ∀ (hp : Heap) (t : Nat), (∀ b o, s.heap.get? b = some o → hp.get? b = some o) → Q (items.toList.take k ++ [.ref hp.objs.size]) { s with heap := hp.push (lstOb (items.toList.drop k)), toks := t }) : wpAny (model prog w) A (unpackItems (.ref l) (k + 1) (some k)) Q E s := by
  have hlt : l < s.heap.objs.size := by obtain ⟨o, ho, _⟩ := hl; exact Heap.lt_size ho
  have hne : l ≠ s.heap.objs.size := Nat.ne_of_lt hlt
  unfold unpackItems
  refine wpAny_bind ?_
  · unfold notIterableAtAll
    refine wpAny_bind (wpAny_specialOf hl.typeIs slot_tuple_iter.lookup ?_)
    refine wpAny_pure ?_
    simp only [Bool.false_eq_true, if_false]
    refine wpAny_bind (wpAny_holding (iter_tuple hl ?_))
    refine wpAny_bind (wpAny_holding (draw_tuple hne k 0 _ _ ⟨_, Heap.get?_push_size _ rfl, rfl, rfl⟩ (hl.push _) (by omega) fun h₁ hit₁ hs₁ => ?_))
    rw [List.drop_zero]
    have len : (items.toList.take k).length = k := by rw [List.length_take, Array.length_toList]; omega
    rw [len, if_neg (Nat.lt_irrefl _)]
    have hl₁ : IsTup h₁ l items := (hl.push _).extBut hs₁.extBut hne
    rw [Nat.zero_add] at hit₁
    exact rest_ok (s0 := s) (T := "tuple_iterator") hsz hk (Walks.tuple (A := A.in1) hh _ l hne items) (.inr rfl) (fun i h st => let ⟨o, ho, hc, _⟩ := st.1; ⟨o, ho, hc⟩) rfl hlt ⟨hit₁, hl₁⟩ (fun b o hb e => hs₁.extBut b o hb (Heap.get?_push_of_some _ e)) hQ
end
end StarT
namespace KD
open PySem PySem.Spec PyProof.Rows L2 KP
section
variable {X : Cx} {pos : Pos}
def gStar (K : PySem.W.Frag) (k : Nat) (t : TGs) : TG := fun v σ H Q => ∃ a xs, v = .ref a ∧ (SqL K H a xs ∨ SqT K H a xs) ∧ k ≤ xs.length ∧ ∀ p, H p = none → t (xs.take k ++ [.ref p]) σ (upd H p (.lst (xs.drop k))) Q
theorem pg_star {es : List Expr} {kk : Nat} {t : TGs} {k : Nat} (hc : X.calm = true) (h : PGs X es t)
    (hn : (assignEach es X.env).length = k + 1 := by rfl) (hst : (assignEach es X.env).findIdx? (·.1) = some k := by rfl) : PG X (.Tuple es kk pos) (gStar X.K k t) := by
  refine ⟨fun pins s σ H v u Q I r hw => ?_⟩
  obtain ⟨a, xs, e1, hq, hl, hw⟩ := hw
  subst e1
  cases r
  have go : ∀ (its : List Value), Vals xs its → xs.length ≤ sizeLine → ∀ (hp : Heap) (tk : Nat), (∀ b o, s.heap.get? b = some o → hp.get? b = some o) →
      wpAny (model X.prog X.w) X.A (assignInOrder ((assignEach es X.env).map (·.2)) (its.take k ++ [.ref hp.objs.size])) (fun _ s' => ∃ σ' H', Inv X pins σ' H' s' ∧ Q σ' H') X.xe { s with heap := hp.push (StarT.lstOb (its.drop k)), toks := tk } := fun its rv hz hp tk old => by
    have I1 : Inv X pins σ H { s with heap := hp, toks := tk } := I.kept old
    have hf : H hp.objs.size = none := I1.hok.fresh (Nat.le_refl _)
    have I2 : Inv X pins σ (upd H hp.objs.size (.lst (xs.drop k))) { s with heap := hp.push (StarT.lstOb (its.drop k)), toks := tk } :=
      I1.laid (t' := tk) (fun b u e => Heap.get?_push_of_some _ e) (Nat.le_refl _) ⟨by rw [List.length_drop]; omega, its.drop k, 0, rv.drop k, Heap.get?_push_size _ rfl⟩
    exact h.run pins _ σ _ _ _ Q I2 ((rv.take k).append (.cons (show L2.RelV (V.ref hp.objs.size) (Value.ref hp.objs.size) from rfl) .nil)) (hw _ hf)
  rw [PyProof.Rows.assign_Tuple]
  refine wpAny_bind (wpAny_standAt ?_)
  unfold unpack
  rw [hn, hst]
  rcases hq with hq | hq
  · obtain ⟨its, rv, pl, hz⟩ := I.list hq
    have hl' : s.heap.IsList a its.toArray := by
      obtain ⟨o, m, e, c, d, q⟩ := pl
      exact ⟨o, e, c, m, q⟩
    have el : its.toArray.size = xs.length := by rw [List.size_toArray, rv.length]
    exact wpAny_bind (wpAny_holding (StarT.star_list (I.ok.hd hc) hl' (by rw [el]; exact hz) (by rw [el]; exact hl) (go its rv hz)))
  · obtain ⟨its, rv, ht, hz⟩ := I.tuple hq
    have el : its.toArray.size = xs.length := by rw [List.size_toArray, rv.length]
    exact wpAny_bind (wpAny_holding (StarT.star_tuple (I.ok.hd hc) ht (by rw [el]; exact hz) (by rw [el]; exact hl) (go its rv hz)))
/-- *c among the targets, at the end -/
theorem pgs_star {e : Expr} {p : Pos} {t : TG} (h1 : PG X e t) : PGs X [.Starred e p] (gCons t gNil) := by
  refine ⟨fun pins s σ H vs us Q I r h => ?_⟩
  obtain ⟨v, vr, e1, h⟩ := h
  subst e1
  cases r with
  | cons r rr =>
    show wpAny _ _ (assignInOrder [assign e X.env] _) _ _ _
    refine assignInOrder_cons (thn (h1.run pins s σ H _ _ _ I r h) fun _ s1 ⟨σ1, H1, I1, e2, q1⟩ => ?_)
    subst e2
    cases rr
    exact assignInOrder_nil ⟨σ1, H1, I1, q1⟩
/-- k plain targets, then *c -/
def gS (k : Nat) (g : WGs) : WG := fun x en Q => match x with
  | .lst xs => k ≤ xs.length ∧ g (xs.take k ++ [.lst (xs.drop k)]) en Q
  | .tup xs => k ≤ xs.length ∧ g (xs.take k ++ [.lst (xs.drop k)]) en Q
  | _ => False
theorem Reps.snocL {K : PySem.W.Frag} {G : Hp} {vs : List V} {xs : List D} {p : Addr} {ws : List V} {ys : List D} (r : Reps K G vs xs) (k : Nat) (h : G p = some (.lst ws)) (r2 : Reps K G ws ys) : Reps K G (vs.take k ++ [.ref p]) (xs.take k ++ [.lst ys]) := by
  have a := r.take k
  generalize vs.take k = us at a ⊢
  generalize xs.take k = zs at a ⊢
  induction us generalizing zs with
  | nil => cases a; exact .cons (.lst h r2) .nil
  | cons u us ih =>
    cases a with
    | cons a1 a2 => exact .cons a1 (ih _ a2)
theorem dg_star {e : Expr} {is : List Nat} {g : WGs} {k : Nat} (h : PG X e (gStar X.K k (RlGs X.K is g))) : DG X e is (gS k g) := PG.of h fun v σ H Z ⟨C, G, en, x, Q, R, r, q, kk⟩ => by
  cases r with
  | @lst a vs xs h1 h2 =>
    refine ⟨_, _, rfl, .inl (SqL.of (R.sub _ _ h1)), by rw [h2.length]; exact q.1, fun p np => ?_⟩
    have gr := Gr.new1 (o := .lst (vs.drop k)) R.sub np
    exact ⟨C, _, en, _, Q, R.grow gr, (h2.mono gr.gg).snocL k upd_same ((h2.mono gr.gg).drop k), q.2, fun G2 H2 σ2 en2 R2 s2 t2 q2 => kk G2 H2 σ2 en2 R2 (gr.gg.trans s2) t2 q2⟩
  | @tup a vs xs h1 h2 =>
    refine ⟨_, _, rfl, .inr (Same.tup R.sub h1), by rw [h2.length]; exact q.1, fun p np => ?_⟩
    have gr := Gr.new1 (o := .lst (vs.drop k)) R.sub np
    exact ⟨C, _, en, _, Q, R.grow gr, (h2.mono gr.gg).snocL k upd_same ((h2.mono gr.gg).drop k), q.2, fun G2 H2 σ2 en2 R2 s2 t2 q2 => kk G2 H2 σ2 en2 R2 (gr.gg.trans s2) t2 q2⟩
  | _ => exact q.elim
theorem dgs_star1 {e : Expr} {p : Pos} {is : List Nat} {g : WG} (h : DG X e is g) : DGs X [.Starred e p] (is ++ []) (gsCons g gsNil) := by
  refine PGs.of (pgs_star h) fun v σ H Z ⟨C, G, en, xs, Q, R, rr, q, k⟩ => ?_
  cases rr with
  | nil => exact q.elim
  | cons h1 h2 =>
    cases h2 with
    | nil => exact ⟨_, _, rfl, C, G, en, _, _, R, h1, q, fun G1 H1 σ1 en1 R1 s1 t1 q1 => ⟨rfl, k G1 H1 σ1 en1 R1 s1 (t1.trans (Tch.refl _ _)) q1⟩⟩
    | cons _ _ => exact ⟨_, _, rfl, C, G, en, _, _, R, h1, q, fun G1 H1 σ1 en1 R1 s1 t1 q1 => q1.elim⟩
end
end KD

/-! Texts cut into words; int of a text; classmethods; cls(*e). -/
namespace KD
open PySem PySem.Spec PyProof.Rows L2 KP
section
variable {X : Cx} {W : WX} {a b e : Expr} {es : List Expr} {w wa wb : WE} {r : WA} {pos apos p sp_ : Pos}
def oSplit : O2 := fun x y Q => match x, y with
  | .str z, .str s => (s.length == 0) = false ∧ z.length ≤ 90000 ∧ Q (.lst ((Txt.split z s).map D.str))
  | _, _ => False
def eSplit (wa wb : WE) : WE := fun en Q E => wa en (fun x en1 => (match x with | .str _ => True | _ => False) ∧ wb en1 (fun y en2 => oSplit x y fun z => Q z en2) E) E
theorem reps_txts {K : PySem.W.Frag} {G : Hp} : ∀ ys : List Str, Reps K G (ys.map V.str) (ys.map D.str)
  | [] => .nil
  | y :: ys => .cons (.str y) (reps_txts ys)
theorem d_split (ha : DE X W a wa) (hb : DE X W b wb) (hs : starEach [b] X.env = [(false, eval b X.env)] := by rfl) (hbase : attributeBase a "split" X.env (eval a X.env) = eval a X.env := by rfl) (hline : (apos.endLine == pos.line) = true := by rfl) :
    DE X W (.Call (.Attribute a "split" apos) [b] [] pos) (eSplit wa wb) := PE.of (pe_split ha hb hs hbase hline) fun σ H Z ⟨C, G, en, Q, E, R, xo, q, k⟩ => by
  refine ⟨C, G, en, _, E, R, xo, q, fun v x G1 H1 en1 R1 s1 r1 q1 => ?_⟩
  obtain ⟨hx, q1⟩ := q1
  cases r1 with
  | str z =>
    refine ⟨⟨_, rfl⟩, C, G1, en1, _, E, R1, xo, q1, fun u y G2 H2 en2 R2 s2 r2 q2 => ?_⟩
    cases r2 with
    | str y =>
      refine ⟨_, _, rfl, rfl, q2.1, sz5 (by have := q2.2.1; omega), fun p np => ?_⟩
      have gr := Gr.new1 (o := .lst ((Txt.split z y).map V.str)) R2.sub np
      exact k _ _ _ _ en2 (R2.grow gr) ((s1.trans s2).trans gr.gg) (.lst upd_same (reps_txts _)) q2.2.2
    | _ => exact q2.elim
  | _ => exact hx.elim
/-- int(text) -/
def oIntS : OC := fun xs Q => match xs with
  | [.str z] => (match PySem.intText? z with | some n => z.length ≤ 640 ∧ Q (.int n) | none => False)
  | _ => False
theorem call_intSD : CallD X (.type "int") oIntS := ⟨_, call_int_str, fun G H vs xs Q Z s r q k => by
  unfold oIntS at q
  split at q
  · obtain ⟨v, rfl, rv⟩ := reps1 r
    cases rv
    split at q
    · rename_i n e
      exact ⟨_, _, rfl, e, q.1, k _ _ G H (Gr.refl s) (.int _) q.2⟩
    · exact q.elim
  · exact q.elim⟩
/-! ### C.m(e, ..), m a classmethod -/
variable {cn m : Str} {k : Nat} {f : Addr} {fd : FuncData} {ps : List Str} {Wd : WD} {Wn : WN} {o : Expr}
theorem run_cmS {C g q : Addr} {pins : List (Addr × Obj)} {σ : L2.St} {H : Hp} {s : Shared} {Q : VK} {us : List Value} {vs : List V} (F : FnOk X.prog X.w X.K X.mg X.base (L2.CX X.prog X.w) k g fd ps (Pr X.K Wd)) (hr : Room k X.A) (hb : Binds X.K fd ps []) (tk : Takes X W)
    (I : Inv X ((q, PySem.W.methodObj (.ref g) (.ref C)) :: pins) σ H s) (r : Vals vs us) (h : Pr X.K Wd (.ref C :: vs) H Q (L2.WE W σ)) : wpAny (model X.prog X.w) X.A (call (.ref q) us) (EP X pins σ Q) X.xe s := by
  have r2 : Vals (V.ref C :: vs) (Value.ref C :: us) := .cons rfl r
  have hl : (Value.ref C :: us ++ []).length = ps.length := by rw [List.append_nil, ← r2.length]; exact F.len _ _ _ _ h
  have z : wpAny (model X.prog X.w) X.A (call (.ref q) us) (EP X ((q, PySem.W.methodObj (.ref g) (.ref C)) :: pins) σ Q) X.xe s := by
    refine wpAny_call (PySem.W.method_call (ClX.pin_at I) (codeAny_mono (F.run X.A X.stack s H ⟨Value.ref C :: us, []⟩ (Value.ref C :: us) (V.ref C :: vs) Q (L2.WE W σ) hr I.env0 (by simpa using hb s (Value.ref C :: us) I.kIn hl) r2 h) fun r s' hq => ?_))
    cases r with
    | error e => exact passAt tk σ _ H s e s' I hq
    | ok fl =>
      cases fl with
      | ret u => exact I.after hq
      | next => exact False.elim hq
      | brk => exact False.elim hq
      | cont => exact False.elim hq
  exact thn z fun _ _ y => ClX.unpinE y
def eCMeth (cn : Str) (Wd : WD) (r : WA) : WE := fun en Q E => r en (fun bs en2 => Wd (.d (.cls cn) :: bs) en2.b (fun x b' => Q x { en2 with b := b' }) (fun x b' => E x { en2 with b := b' })) E
theorem d_cmeth {pl : Sem Bool} (he : DE X W o (eK (.cls cn))) (c : CmOf X.K (He.ga X.K cn) m) (F : FnOk X.prog X.w X.K X.mg X.base (L2.CX X.prog X.w) k (cmA X.K (He.ga X.K cn) m) fd ps (Pr X.K Wd)) (hr : Room k X.A) (hb : Binds X.K fd ps []) (tk : Takes X W) (ha : DA X W (e :: es) r)
    (hst : starEach (e :: es) X.env = (false, eval e X.env) :: starEach es X.env := by rfl) (hpl : (backTo pos (starEach es X.env)).any (·.1) = false := by rfl)
    (ht : eval (.Call (.Attribute o m apos) (e :: es) [] pos) X.env = (do
      let ov ← eval o X.env
      standAt apos.atName
      let (f, first) ← holding [ov] (getMethod ov m pl)
      callWith pos f first (backTo pos (starEach (e :: es) X.env)) (backToKw pos (keywordEach [] X.env))) := by rfl) :
    DE X W (.Call (.Attribute o m apos) (e :: es) [] pos) (eCMeth cn Wd r) := by
  refine ⟨fun pins s σ H Z I h => ?_⟩
  obtain ⟨C, G, en, Q, E, R, xo, q, kk⟩ := h
  have h1 : Rl X.K W (eK (.cls cn)) σ H (fun x H1 => x = V.ref (He.ga X.K cn) ∧ RlA X.K W r σ H1 (fun vs H2 => Pr X.K Wd (.ref (He.ga X.K cn) :: vs) H2 Z (L2.WE W σ))) :=
    ⟨C, G, en, fun x en1 => x = .cls cn ∧ eCMeth cn Wd r en1 Q E, E, R, xo, ⟨rfl, q⟩, fun v x G1 H1 en1 R1 s1 r1 q1 => by
      obtain ⟨rfl, q1⟩ := q1
      cases r1
      exact ⟨rfl, C, G1, en1, _, E, R1, xo, q1, fun vs bs G2 H2 en2 R2 s2 r2 q2 => pr_of R2 xo (.cons (argd (.cls cn)) r2) q2 fun v y G' H' en' R' s' r' q' => kk v y G' H' en' R' ((s1.trans s2).trans s') r' q'⟩⟩
  refine PySem.W.methodCall_KW (pl := pl) (thn (he.run pins s σ H _ I h1) fun u s1 ⟨x, H1, I1, rx, ex, q⟩ => ?_) ht
  subst ex
  obtain rfl : u = Value.ref (He.ga X.K cn) := rx
  refine ClX.getmethcm_ok I1 c.rd c.cm fun s2 I2 => ?_
  refine ClX.callwith_cm I2 (ClX.base_none I1 (Nat.le_refl _)) c.cm.fi (thn (ha.run pos _ s2 σ H1 _ I2 q) fun us s3 ⟨vs, H2, I3, rv, q2⟩ => ⟨⟨ClX.pin_at I3, I3.kIn⟩, ?_⟩) hst hpl
  exact run_cmS F hr hb tk I3 rv q2
/-! ### cls(*e), cls a parameter that holds the class -/
def eMakeV (cn : Str) (Wn : WN) (i : Nat) (w : WE) : WE := fun en Q E => eVar i en (fun x en1 => x = .cls cn ∧ eMake cn Wn (aStar w aNil) en1 Q E) E
theorem d_makeV {x : Str} {i : Nat} (hv : PE X (.Name x p) (tVar i)) (hkp : PySem.W.keepIn X.K (.ref (He.ga X.K cn)) = true)
    (run : ∀ (pins : List (Addr × Obj)) (σ : L2.St) (H : Hp) (s : Shared) (Q : VK) (us : List Value) (vs : List V), Inv X pins σ H s → Vals vs us → (∀ x dx, H x = none → H dx = none → dx ≠ x → PrI X.K cn Wn (.ref x :: vs) (upd (upd H dx (.own x)) x (.ins (He.ga X.K cn) dx [])) (fun v H2 => v = .non ∧ Q (.ref x) H2) (L2.WE W σ)) →
      wpAny (model X.prog X.w) X.A (call (.ref (He.ga X.K cn)) us) (EP X pins σ Q) X.xe s) (he : DE X W e w)
    (hN : X.N[i]? = some x := by rfl) (hvi : Vis X.env.scope x := by first | exact Or.inl rfl | exact Or.inr (Or.inl rfl) | exact Or.inr (Or.inr rfl)) (hd : (x == ("__debug__" : Str)) = false := by decide) (hcd : (x == ("__classdict__" : Str)) = false := by decide)
    (hst : starEach [.Starred e sp_] X.env = [(true, eval e X.env)] := by rfl) : DE X W (.Call (.Name x p) [.Starred e sp_] [] pos) (eMakeV cn Wn i w) := by
  refine ⟨fun pins s σ H Z I h => ?_⟩
  have hf : DE X W (.Name x p) (eVar i) := d_var' hv
  obtain ⟨C, G, en, Q, E, R, xo, q, k⟩ := h
  refine wpAny_Call_Name_kw (thn (hf.run pins s σ H (fun y H1 => y = V.ref (He.ga X.K cn) ∧ Rl X.K W w σ H1 (fun y H1 => ∃ a xs, y = V.ref a ∧ (SqT X.K H1 a xs ∨ SqL X.K H1 a xs) ∧ ∀ x dx, H1 x = none → H1 dx = none → dx ≠ x → PrI X.K cn Wn (.ref x :: xs) (upd (upd H1 dx (.own x)) x (.ins (He.ga X.K cn) dx [])) (fun v H2 => v = .non ∧ Z (.ref x) H2) (L2.WE W σ))) I ⟨C, G, en, _, E, R, xo, q, fun v x G0 H0 en0 R0 s0 r0 q0 => ?_⟩) fun u s1 ⟨y, H1, I1, ry, ey, h1⟩ => ?_)
  · obtain ⟨rfl, q0⟩ := q0
    cases r0
    refine ⟨rfl, C, G0, en0, _, E, R0, xo, q0, fun v x G1 H1 en1 R1 s1 r1 q1 => ?_⟩
    split at q1
    · rename_i xs e0
      obtain ⟨a, vs, rfl, hq, rr⟩ := r1.star e0 R1.sub
      refine ⟨a, vs, rfl, hq, make_of R1 xo (reps_args rr) (by simpa [aNil] using q1) fun v y G' H' en' R' s' r' q' => k v y G' H' en' R' ((s0.trans s1).trans s') r' q'⟩
    · exact q1.elim
  · subst ey
    obtain rfl : u = Value.ref (He.ga X.K cn) := ry
    refine PySem.W.callWith_S (h₀ := X.base) I.ok.mod.kin hkp (thn (he.run pins s1 σ H1 _ I1 h1) fun v s2 ⟨y, H2, I2, ry, a, xs, ey, hxs, q⟩ => ?_) hst
    subst ey
    obtain rfl : v = Value.ref a := ry
    refine StX.star_any I2 hxs fun us s3 I3 rv => ⟨I3.kIn, ?_⟩
    exact run pins σ H2 s3 Z us xs I3 rv q
theorem run_ok {f : Addr} (M : Mk X.K (He.ga X.K cn) f) (F : FnOk X.prog X.w X.K X.mg X.base (L2.CX X.prog X.w) k f fd ps (PrI X.K cn Wn)) (hr : Room (k + 1) X.A) (hb : Binds X.K fd ps []) (tk : Takes X W) : ∀ (pins : List (Addr × Obj)) (σ : L2.St) (H : Hp) (s : Shared) (Q : VK) (us : List Value) (vs : List V), Inv X pins σ H s → Vals vs us → (∀ x dx, H x = none → H dx = none → dx ≠ x → PrI X.K cn Wn (.ref x :: vs) (upd (upd H dx (.own x)) x (.ins (He.ga X.K cn) dx [])) (fun v H2 => v = .non ∧ Q (.ref x) H2) (L2.WE W σ)) →
      wpAny (model X.prog X.w) X.A (call (.ref (He.ga X.K cn)) us) (EP X pins σ Q) X.xe s := fun pins σ H s Q us vs I rv q => run_makeSD (dvs := []) (ds := []) M F hr hb .nil (passAt tk σ) I rv (by simpa using q)
end
end KD
namespace KD
open PySem PySem.Spec PyProof.Rows L2 KP
/-- try: .. except ..: .. whose body raises nothing -/
def sTryN (w : WS) : WS := fun N en => w { N with ex := fun _ _ => False } en
theorem ds_tryN {X : Cx} {W : WX} {body : List Stmt} {h₀ : ExceptHandler} {hs : List ExceptHandler} {pos : Pos} {w : WS} (h : DSs X.nox (fun _ _ _ _ => False) body w) : DS X W (.Try body (h₀ :: hs) [] [] pos) (sTryN w) := PS.of (ps_try_thru0 h) fun D σ H ⟨C, G, en, N, R, xo, q, L⟩ =>
  ⟨C, G, en, { N with ex := fun _ _ => False }, R, fun _ _ _ _ _ _ _ _ _ z => z, q, ⟨L.nx, L.rt, L.bk, L.ct, L.fr⟩⟩
end KD
namespace KD
open PySem PySem.Spec PyProof.Rows L2 KP
end KD

/-! Own errors: made, raised. -/
namespace ErM
open PySem PySem.W PySem.Calls PySem.HandSPX
open PyProof.Rows hiding wpAt wpAt_bind wpAt_stack
structure MadeE (h h' : Heap) (e C d : Addr) (f : Str) (v : Value) : Prop where
  keep : ∀ b o, h.get? b = some o → h'.get? b = some o
  new : h.objs.size ≤ e
  obj : ∃ oe vs, h'.get? e = some oe ∧ oe.cls = .ref C ∧ oe.dict = some d ∧ oe.data = .fields vs ∧ vs[1]? = some .none
  dbig : h.objs.size ≤ d
  dne : d ≠ e
  ns : h'.Ns1 d (fun y => if y = f then some v else none)
theorem Mod.keeps {K : Frag} {mg : Str → Option Value} {h h' : Heap} (M : L2.Mod K mg h) (k : ∀ b o, h.get? b = some o → h'.get? b = some o) : L2.Mod K mg h' := by
  obtain ⟨mb, hb, hbl⟩ := M.blt
  exact ⟨M.kin.keeps k, M.glob.keeps k, ⟨mb, hb.keeps k, hbl⟩, M.nolimit.keeps k⟩
section
variable {prog : Program} {w : World} {A : Around} {R : Result → Shared → Prop} {s : Shared} {K : Frag} {mg : Str → Option Value} {mf a f : Str} {C fI : Addr} {B Bn newId initId : String} {tl : List Value}
theorem madeE (PO : PrgOk prog mf) (T : ErrT mf K a f C fI B Bn newId initId tl) (M : L2.Mod K mg s.heap) (hs : mg "super" = none) {v : Value} (hroom : A.depth + 1 < recursionLimit)
    (hq : ∀ h' tk e d, MadeE s.heap h' e C d f v → R (.ok (.ret (.ref e))) { s with heap := h', toks := tk }) : codeAny (model prog w) A (.call (.ref C) ⟨[v], []⟩) R s := by
  obtain ⟨nm, q, N, bs, sn, sub, ab, col, dd, k0, k1, k2, k3, k5, hC⟩ := T.cls
  obtain ⟨inI, bmB, F⟩ := T.eb.new
  obtain ⟨hp, g, dr, tk, os⟩ := s
  have k : ∀ b o, hp.get? b = some o → ((hp.push (kdv_tup [v])).push (excO C hp.objs.size)).get? b = some o := fun b o e => Heap.get?_push_of_some _ (Heap.get?_push_of_some _ e)
  have hx : ((hp.push (kdv_tup [v])).push (excO C hp.objs.size)).get? (hp.objs.size + 1) = some (excO C hp.objs.size) := by heap_get
  have hK : K.lookup (hp.objs.size + 1) = none := by
    cases e : K.lookup (hp.objs.size + 1) with
    | none => rfl
    | some o => exact absurd (Nat.lt_of_succ_lt (Heap.lt_size (M.kin _ _ e))) (Nat.lt_irrefl _)
  refine callE F T.eb.hBn T.eb.hA T.eb.hN (one_sz v) (M.kin _ _ hC) (looks_findIn M.kin T.iC) (fun self => bind_fn M.kin self T.tI) ?_
  refine initE (s := ⟨(hp.push (kdv_tup [v])).push (excO C hp.objs.size), g, dr, tk, os⟩) PO T (Mod.keeps M k) hs hx hK hroom fun h' tk' dx t1 ⟨k', ho, dn, dne, hns⟩ => ⟨rfl, ?_⟩
  have old : ∀ b o, hp.get? b = some o → h'.get? b = some o := fun b o e => k' b o (Nat.ne_of_lt (Nat.lt_succ_of_lt (Heap.lt_size e))) (k b o e)
  have z : hp.objs.size + 1 + 1 ≤ dx := by
    have y := dn
    simp only [Heap.size_push] at y
    exact y
  exact hq h' tk' (hp.objs.size + 1) dx ⟨old, Nat.le_succ _, ⟨_, _, ho, rfl, rfl, rfl, rfl⟩, (show hp.objs.size ≤ dx by omega), dne, hns⟩
end
end ErM
namespace L2
open PySem PySem.Spec PyProof.Rows
theorem relO_one {f : Str} {v : V} {v' : Value} (r : RelV v v') (y : Str) : RelO (List.lookup y [(f, v)]) (if y = f then some v' else none) := by
  by_cases h : y = f
  · subst h
    have q : List.lookup y [(y, v)] = some v := by simp [List.lookup]
    rw [if_pos rfl, q]
    exact r
  · have q : (y == f) = false := by simpa using h
    have q2 : List.lookup y [(f, v)] = none := by simp [List.lookup, q]
    rw [if_neg h, q2]
    trivial
section
variable {X : Cx} {C fI : Addr} {mf a f : Str} {B Bn newId initId : String} {tl : List Value}
/-- C(e) -/
def tMkE (C : Addr) (f : Str) (ta : TA) : St → Hp → XK → Prop := fun σ H Q => ta σ H fun vs H1 => ∃ v, vs = [v] ∧ ∀ d, H1 d = none → Q (.ref C) (some d) (upd H1 d (.xd [(f, v)]))
theorem pmk_err {n : Str} {e : Expr} {ta : TA} {p pos : Pos} {k : Nat} (PO : ErM.PrgOk X.prog mf) (T : ErM.ErrT mf X.K a f C fI B Bn newId initId tl) (hs : X.mg "super" = none) (hr : Room k X.A) (hg : Gl X n) (hm : X.mg n = some (.ref C)) (ha : PA X [e] ta) (hdb : (n == ("__debug__" : Str)) = false := by decide)
    (he : starEach (e :: []) X.env = (false, eval e X.env) :: starEach [] X.env := by rfl) (hpl : (backTo pos (starEach [] X.env)).any (·.1) = false := by rfl) : PMk X (.Call (.Name n p) [e] [] pos) (tMkE C f ta) := by
  intro pins s σ H Q I h
  refine wpAny_Call_Name_kw (ld_glob I hg hm ?_ hdb)
  refine PySem.W.callWith_K (h₀ := X.base) I.ok.mod.kin T.kC (thn (ha.run pos pins s σ H _ I h) fun us s1 ⟨vs, H1, I1, r1, v, ev, q1⟩ => ⟨I1.kIn, ?_⟩) he hpl
  subst ev
  obtain ⟨v', rfl, rv⟩ := vals1 r1
  show wpAny _ _ (call (.ref C) [v']) _ _ _
  have M : L2.Mod X.K X.mg s1.heap := ErM.Mod.keeps I1.mod I1.bk
  obtain ⟨hp, g, dr, tk, os⟩ := s1
  refine wpAny_call (ErM.madeE PO T M hs (by have := hr.dp; omega) fun h' tk' e d N => ?_)
  show MkP X pins σ Q (.ref e) ⟨h', g, dr, tk', os⟩
  obtain ⟨oe, fv, hoe, hc, hd, hdat, h1⟩ := N.obj
  obtain ⟨G', g1, g2⟩ := restrict h' fun b => decide (b ≠ e)
  have gk : ∀ b, b ≠ e → G'.get? b = h'.get? b := fun b hb => g1 b (decide_eq_true hb)
  have ge : G'.get? e = none := g2 e (by simp)
  have ob : ObjOk X.prog X.w (upd H1 d (.xd [(f, v)])) G' d (.xd [(f, v)]) := ⟨_, N.ns.at (fun o q => (gk d N.dne).trans q), fun y => relO_one rv y⟩
  have J : Inv X pins σ (upd H1 d (.xd [(f, v)])) ⟨G', g, dr, tk', os⟩ := I1.laid (t' := tk') (fun b o q => (gk b (Nat.ne_of_lt (Nat.lt_of_lt_of_le (Heap.lt_size q) N.new))).trans (N.keep b o q)) N.dbig ob
  refine ⟨e, oe, fv, ⟨G', g, dr, tk', os⟩, _, .ref C, some d, rfl, J, fun b o q => ?_, ge, hoe, ⟨hc, hd⟩, hdat, h1, ?_, rfl, I1.bare, raises_own T.exC T.tyC, q1 d (I1.hok.fresh N.dbig)⟩
  · by_cases hb : b = e
    · have q' : G'.get? b = some o := q
      rw [hb, ge] at q'; cases q'
    · exact (gk b hb).symm.trans q
  · rw [upd_ne (Ne.symm N.dne)]
    exact I1.hok.fresh N.new
end
end L2

/-! try: body, except X as n: .., except Y as n: .. -/
namespace L2
open PySem PySem.Spec PyProof.Rows
abbrev SuT : Type := Addr → Value → Option Addr → TS
/-- the ends of a suite, behind which the name in slot i is gone -/
def gone (i : Nat) (D : Ends) : Ends := { nx := fun σ' H' => D.nx (σ'.set i none) H', rt := D.rt, bk := fun σ' H' => D.bk (σ'.set i none) H', ct := fun σ' H' => D.ct (σ'.set i none) H' }
/-- what the clauses wish, one after the other -/
def wClauses (K : PySem.W.Frag) (i : Nat) (Wout : WX) (D : Ends) : List (Value × SuT) → WX
  | [] => Wout
  | (c, ts) :: l => fun cls d σ H => ∃ yes, PySem.W.exmOne K cls c = some yes ∧ (yes = true → ∀ ea, H ea = none → ts ea cls d (gone i D) (σ.set i (some (.ref ea))) H) ∧ (yes = false → wClauses K i Wout D l cls d σ H)
inductive ClsOk (X : Cx) (n : Str) : List ExceptHandler → List (Value × SuT) → Prop
  | nil : ClsOk X n [] []
  | cons {x : Str} {c : Value} {ts : SuT} {st : Stmt} {sts : List Stmt} {np hp : Pos} {hds : List ExceptHandler} {l : List (Value × SuT)} (hc : Names X x c)
      (hsu : ∀ (ea : Addr) (oe : Obj) (cls : Value) (d : Option Addr) (pn : List (Addr × Obj)), Zc cls d oe → (∃ fv, oe.data = .fields fv) → PSs (X.suite ea ((ea, oe) :: pn)) (st :: sts) (ts ea cls d)) (r : ClsOk X n hds l) :
      ClsOk X n (.ExceptHandler (some (.Name x np)) (some n) (st :: sts) hp :: hds) ((c, ts) :: l)
section
variable {X : Cx} {n : Str} {i : Nat} {body : List Stmt} {h0 : ExceptHandler} {hds : List ExceptHandler} {l : List (Value × SuT)} {pos : Pos} {tb : WX → TS} {Wout : WX}
theorem ps_try_clauses (hs : X.stack = X.env :: X.outer) (hf : X.env.frame = some X.env.locals) (hN : X.N.Nodup) (hi : X.N[i]? = some n) (hln : X.env.kindOf n = some .local) (tk : Takes X Wout)
    (hb : ∀ (W : WX) (pn : List (Addr × Obj)) (xe : Value → Shared → Prop), Takes (X.tr pn xe) W → PassesOwn (model X.prog X.w) X.A X.env xe → PSs (X.tr pn xe) body (tb W))
    (hh : ClsOk X n (h0 :: hds) l) : PS X (.Try body (h0 :: hds) [] [] pos) (fun D σ H => tb (wClauses X.K i Wout D l) D σ H) := by
  refine ⟨fun pins s σ H D I hw => ?_⟩
  have okX := I.ok
  have frX : X.A.frames = some (X.env :: X.outer) := by rw [okX.frames, hs]
  have lcX : Loc X.env.scope n := .inl hln
  let xeB : Value → Shared → Prop := fun e s1 => wpAny (model X.prog X.w) X.A (noteFrame e X.env) (fun _ s2 => wpAny (model X.prog X.w) X.A (setFlight e none) (fun _ s3 => wpAny (model X.prog X.w) X.A (handleBy e X.env (h0 :: hds)) (SP X pins D) X.xe s3) X.xe s2) X.xe s1
  have tkB : Takes (X.tr (X.pn ++ pins) xeB) (wClauses X.K i Wout D l) := fun u s' z => by
    obtain ⟨ea, Bh, sI, pins2, σ2, H2, cls, d, rfl, J0, nb, up, sky, na, eos, bare, w⟩ := z
    have J : Inv X pins σ2 H2 sI := J0.ofTry okX
    have sky2 : Sky Bh (X.env :: X.outer) ea (Zc cls d) X.env.locals s'.heap := by rw [← hs]; exact sky
    show wpAny (model X.prog X.w) X.A (noteFrame (.ref ea) X.env) _ _ _
    refine Sky.land Zc.steady frX hf sky2 fun g3 fly3 up3 => ?_
    have J3 : Inv X pins σ2 H2 { s' with heap := g3 } := J.landed nb fly3.1 (up.trans up3) eos bare
    obtain ⟨o3, fv3, at3, z3, d3⟩ := fly3.there
    have notF : ea ∉ frs (X.env :: X.outer) := fun hm => by
      obtain ⟨_, o', e', hnf⟩ := fly3.2.2.1.mem hm
      rw [at3] at e'
      cases e'
      exact hnf _ d3
    have neL : ea ≠ X.env.locals := fun z => notF (List.mem_filterMap.mpr ⟨X.env, List.mem_cons_self, by rw [hf, z]⟩)
    have neF : ea ∉ X.fs := fun hm => by
      obtain ⟨ev, hev, q⟩ := List.mem_filterMap.mp hm
      exact notF (List.mem_filterMap.mpr ⟨ev, List.mem_cons_of_mem _ hev, q⟩)
    have S3 := J3.suite at3 d3 na neL neF
    have each : ∀ {hd2 : List ExceptHandler} {l2 : List (Value × SuT)}, ClsOk X n hd2 l2 → wClauses X.K i Wout D l2 cls d σ2 H2 → wpAny (model X.prog X.w) X.A (handleBy (.ref ea) X.env hd2) (SP X pins D) X.xe { s' with heap := g3 } := by
      intro hd2 l2 hk
      induction hk with
      | nil =>
        intro w
        refine wpAny_handleBy_nil ?_
        obtain ⟨_, _, _, oq, vq, Tq, _, _, heq, _, hdq, h1q, _⟩ := id fly3
        unfold PySem.passOn
        refine wpAny_bind (wpAny_field heq hdq h1q ?_)
        rw [if_neg (show ¬ ((Value.ref Tq == Value.none) = true) from by simp)]
        have last : wpAny (model X.prog X.w) X.A (setFlight (.ref ea) X.env.frame) (fun _ s4 => wpAny (model X.prog X.w) X.A (throw (.ref ea) : Sem Flow) (SP X pins D) X.xe s4) X.xe { s' with heap := g3 } := by
          rw [hf]
          refine HandSPX.setFlight_upZ fly3 fun g4 held4 up4 => wpAny_throw (tk _ _ ?_)
          exact ⟨ea, Bh, sI, pins, σ2, H2, cls, d, rfl, J, nb, (up.trans up3).trans up4, .inr (.inr (by rw [hs]; exact held4)), na, eos, bare, w⟩
        first
          | exact wpAny_bind (wpAny_pure (wpAny_bind last))
          | exact wpAny_bind last
      | @cons x c ts st sts np hp hd3 l3 hc hsu r ih =>
        intro w
        obtain ⟨yes, hy1, hyes, hno⟩ := w
        refine wpAny_handleBy_cons (codeAny_handlers_test ?_) (fun q => nomatch q)
        have LT : PySem.W.Looks (model X.prog X.w) g3 (typeOf (.ref ea)) cls := fun A Q E s k q => wpAny_typeOf_ref (k _ _ at3) (by rw [z3.1]; exact q)
        have LM := PySem.W.exm_one (M := model X.prog X.w) (J3.kIn) LT hy1
        have look : ∀ {Q : Value → Shared → Prop} {E : Value → Shared → Prop}, Q c { s' with heap := g3 } → wpAny (model X.prog X.w) (X.A.mark (some (.ref ea))) (eval (.Name x np) X.env) Q E { s' with heap := g3 } := fun {Q E} q => by
          obtain ⟨hg, hdb, hm⟩ := hc
          rcases hm with hm | ⟨hm, hv, hnn⟩
          · exact ld_glob (X := X.suite ea ((ea, o3) :: (X.pn ++ pins))) S3 hg hm q hdb
          · exact ld_blt (X := X.suite ea ((ea, o3) :: (X.pn ++ pins))) S3 hg hm hv q hnn hdb
        refine look (LM.here ?_)
        cases yes with
        | false =>
          show wpAny _ X.A (handleBy (.ref ea) X.env hd3) _ _ _
          exact ih (hno rfl)
        | true =>
          refine codeAny_handlers_suite_as ?_
          refine HandSPX.lands_againZ fly3 fun g4 fly4 up4 => ?_
          have J4 : Inv X pins σ2 H2 { s' with heap := g4 } := J.landed nb fly4.1 ((up.trans up3).trans up4) eos bare
          obtain ⟨o4, fv4, at4, z4, d4⟩ := fly4.there
          have S4 := J4.suite at4 d4 na neL neF
          refine store_ok (X := X.suite ea ((ea, o4) :: (X.pn ++ pins))) (v := .ref ea) S4 hN hi lcX rfl (fun s5 S5 => ?_) (.inr hln)
          refine wpAny_mono ((hsu ea o4 cls d (X.pn ++ pins) z4 ⟨_, d4⟩).run [] s5 _ H2 _ S5 (hyes rfl ea na)) (fun f s6 q6 => ?_) (fun _ _ z => False.elim z)
          have behind : ∀ {σ6 : St} {H6 : Hp} {Q : Shared → Prop}, Inv (X.suite ea ((ea, o4) :: (X.pn ++ pins))) [] σ6 H6 s6 → (∀ s7, Inv X pins (σ6.set i none) H6 s7 → Q s7) → wpAny (model X.prog X.w) X.A (do bindName X.env n .none; unbindBehindTheSuite X.env n hp) (fun _ s7 => Q s7) X.xe s6 := fun {σ6 H6 Q} S6 hq => gone_ok (S6.unsuite okX) hN hi hln hq
          cases f with
          | next => obtain ⟨σ6, H6, S6, q⟩ := q6; exact behind S6 fun s7 J7 => ⟨_, _, J7, q⟩
          | brk => obtain ⟨σ6, H6, S6, q⟩ := q6; exact behind S6 fun s7 J7 => ⟨_, _, J7, q⟩
          | cont => obtain ⟨σ6, H6, S6, q⟩ := q6; exact behind S6 fun s7 J7 => ⟨_, _, J7, q⟩
          | ret u => obtain ⟨v6, σ6, H6, S6, r6, q⟩ := q6; exact behind S6 fun s7 J7 => ⟨_, _, _, J7, r6, q⟩
    exact each hh w
  refine wpAny_Try_except (wpAny_mono ((hb (wClauses X.K i Wout D l) (X.pn ++ pins) xeB tkB PassesOwn.looking).run [] s σ H D (I.toTry _) hw) (fun f s1 q => ?_) (fun e s1 he => he))
  cases f with
  | next => obtain ⟨σ', H', J', q⟩ := q; exact wpAny_execs_nil ⟨σ', H', J'.ofTry okX, q⟩
  | brk => obtain ⟨σ', H', J', q⟩ := q; exact ⟨σ', H', J'.ofTry okX, q⟩
  | cont => obtain ⟨σ', H', J', q⟩ := q; exact ⟨σ', H', J'.ofTry okX, q⟩
  | ret u => obtain ⟨v, σ', H', J', r, q⟩ := q; exact ⟨v, σ', H', J'.ofTry okX, r, q⟩
end
end L2

/-! Errors over data: raise, try with several clauses, a caught error's field and class. -/
namespace KD
open PySem PySem.Spec PyProof.Rows L2 KP
/-- C(e) raised, C the program's, with its one field f -/
def sRaise (cn f : Str) (w : WE) : WS := fun N en => w en (fun x en1 => N.ex ⟨cn, [(f, x)]⟩ en1) N.ex
/-- a clause's words: by the caught error -/
abbrev WCl := Addr → Value → Option Addr → WS
def suN (i : Nat) (N : DN) : DN := { nx := fun en => N.nx (en.set i none), rt := N.rt, bk := fun en => N.bk (en.set i none), ct := fun en => N.ct (en.set i none), ex := fun _ _ => False, fr := fun _ _ => False }
def clGo (i : Nat) (N : DN) : List (Str × WCl) → EK
  | [], x, en => N.ex x en
  | (cn, ts) :: l, x, en => if x.c = cn then ∀ ea cls d, ts ea cls d (suN i N) (en.set i (some (.exc ea cls d x))) else clGo i N l x en
def sTry (es : List Str) (tb : WS) (i : Nat) (cl : List (Str × WCl)) : WS := fun N en => tb { N with ex := fun x en1 => x.c ∈ es ∧ clGo i N cl x en1 } en
/-- e.f, e the caught error of the class cn -/
def eExc (ea : Addr) (cls : Value) (d : Option Addr) (cn : Str) (i : Nat) (f : Str) : WE := fun en Q _ => match en.sl[i]? with
  | some (some (.exc a c e x)) => (a = ea ∧ c = cls ∧ e = d ∧ x.c = cn) ∧ (match x.fs.lookup f with
    | some y => Q y en
    | none => False)
  | _ => False
section
variable {X : Cx} {W : WX} {e : Expr} {w : WE} {p pos pos2 : Pos} {cn f a mf : Str} {B Bn newId initId : String} {tl : List Value} {fI : Addr} {k : Nat}
theorem ds_raise (PO : ErM.PrgOk X.prog mf) (T : ErM.ErrT mf X.K a f (He.ga X.K cn) fI B Bn newId initId tl) (hs : X.mg "super" = none) (hr : Room k X.A) (hg : Gl X cn) (hm : X.mg cn = some (.ref (He.ga X.K cn))) (hc : X.calm = true) (tk : Takes X W) (he : DE X W e w) (hdb : (cn == ("__debug__" : Str)) = false := by decide)
    (hst : starEach (e :: []) X.env = (false, eval e X.env) :: starEach [] X.env := by rfl) (hpl : (backTo pos (starEach [] X.env)).any (·.1) = false := by rfl) : DS X W (.Raise (some (.Call (.Name cn p) [e] [] pos)) none pos2) (sRaise cn f w) :=
  PS.of (ps_raise hc tk (pmk_err PO T hs hr hg hm (pa_cons he pa_nil hst) hdb hst hpl)) fun D σ H ⟨C, G, en, N, R, xo, q, L⟩ => by
    refine ⟨C, G, en, _, _, R, xo, q, fun v x G1 H1 en1 R1 s1 r1 q1 => ⟨v, rfl, fun d hd => ?_⟩⟩
    exact xo ⟨cn, [(f, x)]⟩ en1 σ G1 _ _ _ (R1.newH (o := .xd [(f, v)]) hd) ⟨rfl, .inr ⟨d, _, rfl, upd_same, .cons r1 .nil⟩⟩ q1
/-- the clauses of a try over data -/
inductive DCls (X : Cx) (n : Str) : List ExceptHandler → List (Str × WCl) → Prop
  | nil : DCls X n [] []
  | cons {x : Str} {ts : WCl} {st : Stmt} {sts : List Stmt} {np hp : Pos} {hds : List ExceptHandler} {l : List (Str × WCl)} (hc : Names X x (.ref (He.ga X.K x)))
      (hsu : ∀ (ea : Addr) (oe : Obj) (cls : Value) (d : Option Addr) (pn : List (Addr × Obj)), Zc cls d oe → (∃ fv, oe.data = .fields fv) → DSs (X.suite ea ((ea, oe) :: pn)) (fun _ _ _ _ => False) (st :: sts) (ts ea cls d)) (r : DCls X n hds l) :
      DCls X n (.ExceptHandler (some (.Name x np)) (some n) (st :: sts) hp :: hds) ((x, ts) :: l)
def clOf (K : PySem.W.Frag) (p : Str × WCl) : Value × SuT := (.ref (He.ga K p.1), fun ea cls d => RlS K (fun _ _ _ _ => False) (p.2 ea cls d))
theorem DCls.ok {n : Str} {hds : List ExceptHandler} {l : List (Str × WCl)} (h : DCls X n hds l) : ClsOk X n hds (l.map (clOf X.K)) := by
  induction h with
  | nil => exact .nil
  | cons hc hsu r ih => exact .cons hc (fun ea oe cls d pn hz hf => hsu ea oe cls d pn hz hf) ih
/-- the caught error in its slot -/
theorem Rel.caught {K : PySem.W.Frag} {C : Ctx} {G H : Hp} {σ : L2.St} {en : En} {cls : Value} {od : Option Addr} {x : XC} (R : Rel K C G H σ en) (rx : RepX K G H cls od x) (i : Nat) (ea : Addr) :
    ∃ G', Rel K C G' H (σ.set i (some (.ref ea))) (en.set i (some (.exc ea cls od x))) := by
  obtain ⟨e1, e2⟩ := rx
  rcases e2 with ⟨e2, e3⟩ | ⟨a, vs, rfl, h1, h2⟩
  · exact ⟨G, R.setD (b := .exc ea cls od x) ⟨rfl, e1, .inl ⟨e2, e3⟩⟩ rfl⟩
  · cases q : G a with
    | some o =>
      have := R.sub _ _ q
      rw [h1] at this; cases this
      exact ⟨G, R.setD (b := .exc ea cls (some a) x) ⟨rfl, e1, .inr ⟨a, vs, rfl, q, h2⟩⟩ rfl⟩
    | none =>
      have R2 := R.adoptX h1 q
      exact ⟨_, R2.setD (b := .exc ea cls (some a) x) ⟨rfl, e1, .inr ⟨a, vs, rfl, upd_same, RepF.mono (KP.Same.new q) h2⟩⟩ rfl⟩
theorem clGo_ok {C : Ctx} {N : DN} {i : Nat} {D : Ends} {es : List Str} (hx : ∀ c ∈ es, ∀ c' ∈ es, PySem.W.exmOne X.K (.ref (He.ga X.K c)) (.ref (He.ga X.K c')) = some (decide (c = c'))) (xo : XOk X.K W C N.ex) (L : Lk X.K C N D) (y : XC) (hy : y.c ∈ es) : ∀ {cl : List (Str × WCl)}, (∀ p ∈ cl, p.1 ∈ es) → ∀ (en1 : En) (σ1 : L2.St) (G1 H1 : Hp) (cls : Value) (od : Option Addr), Rel X.K C G1 H1 σ1 en1 → RepX X.K G1 H1 cls od y → clGo i N cl y en1 → wClauses X.K i W D (cl.map (clOf X.K)) cls od σ1 H1
  | [], _, en1, σ1, G1, H1, cls, od, R1, rx, q => xo y en1 σ1 G1 H1 cls od R1 rx q
  | (cn, ts) :: l, hl, en1, σ1, G1, H1, cls, od, R1, rx, q => by
    refine ⟨decide (y.c = cn), by rw [rx.1]; exact hx _ hy _ (hl _ (List.mem_cons_self ..)), fun h ea na => ?_, fun h => ?_⟩
    · have q : (if y.c = cn then ∀ ea cls d, ts ea cls d (suN i N) (en1.set i (some (.exc ea cls d y))) else clGo i N l y en1) := q
      rw [if_pos (of_decide_eq_true h)] at q
      obtain ⟨G2, R2⟩ := R1.caught rx i ea
      refine ⟨C, G2, _, suN i N, R2, fun _ _ _ _ _ _ _ _ _ z => z, q ea cls od, ⟨fun G H σ en R q => ?_, fun v x G H σ en R r q => L.rt v x G H σ en R r q, fun G H σ en R q => ?_, fun G H σ en R q => ?_, fun _ _ _ _ _ _ _ _ _ _ _ z => z.elim⟩⟩
      · exact L.nx _ _ _ _ (R.forget none) q
      · exact L.bk _ _ _ _ (R.forget none) q
      · exact L.ct _ _ _ _ (R.forget none) q
    · have q : (if y.c = cn then ∀ ea cls d, ts ea cls d (suN i N) (en1.set i (some (.exc ea cls d y))) else clGo i N l y en1) := q
      rw [if_neg (of_decide_eq_false h)] at q
      exact clGo_ok hx xo L y hy (fun p hp => hl p (List.mem_cons_of_mem _ hp)) en1 σ1 G1 H1 cls od R1 rx q
theorem ds_try {i : Nat} {n : Str} {es : List Str} {body : List Stmt} {h0 : ExceptHandler} {hds : List ExceptHandler} {tb : WS} {cl : List (Str × WCl)} (hs : X.stack = X.env :: X.outer) (hf : X.env.frame = some X.env.locals) (hN : X.N.Nodup) (hi : X.N[i]? = some n) (hln : X.env.kindOf n = some .local)
    (hx : ∀ c ∈ es, ∀ c' ∈ es, PySem.W.exmOne X.K (.ref (He.ga X.K c)) (.ref (He.ga X.K c')) = some (decide (c = c'))) (hes : (cl.all fun p => es.contains p.1) = true) (tk : Takes X W)
    (hb : ∀ (W' : WX) (pn : List (Addr × Obj)) (xe : Value → Shared → Prop), Takes (X.tr pn xe) W' → PassesOwn (model X.prog X.w) X.A X.env xe → DSs (X.tr pn xe) W' body tb)
    (hh : DCls X n (h0 :: hds) cl) : DS X W (.Try body (h0 :: hds) [] [] pos) (sTry es tb i cl) :=
  PS.of (ps_try_clauses (tb := fun W' => RlS X.K W' tb) hs hf hN hi hln tk (fun W' pn xe t q => hb W' pn xe t q) hh.ok) fun D σ H ⟨C, G, en, N, R, xo, q, L⟩ =>
    ⟨C, G, en, { N with ex := fun x en1 => x.c ∈ es ∧ clGo i N cl x en1 }, R, fun y en1 σ1 G1 H1 cls od R1 rx q1 => clGo_ok hx xo L y q1.1 (fun p hp => List.contains_iff_mem.mp (List.all_eq_true.mp hes p hp)) en1 σ1 G1 H1 cls od R1 rx q1.2, q, ⟨L.nx, L.rt, L.bk, L.ct, L.fr⟩⟩
/-! ### in a suite -/
section
variable {ea : Addr} {oe : Obj} {cls : Value} {d : Option Addr} {pn : List (Addr × Obj)} {n : Str} {i : Nat} {WW : WX}
theorem d_exf (T : XfC X.K (He.ga X.K cn)) (hno : PySem.W.findIn X.K (.ref (He.ga X.K cn)) f = some none) (hz : Zc cls d oe) (hf : ∃ fv, oe.data = .fields fv) (hv : PE (X.suite ea ((ea, oe) :: pn)) (.Name n p) (tVar i))
    (hb : attributeBase (.Name n p) f X.env (eval (.Name n p) X.env) = eval (.Name n p) X.env := by rfl) : DE (X.suite ea ((ea, oe) :: pn)) WW (.Attribute (.Name n p) f pos) (eExc ea cls d cn i f) :=
  PE.of (pe_xf T hno hz hf hv hb) fun σ H Z ⟨C, G, en, Q, E, R, xo, q, k⟩ => by
    unfold eExc at q
    split at q
    · rename_i a c e x he
      obtain ⟨⟨rfl, rfl, rfl, hc⟩, q⟩ := q
      obtain ⟨v, h1, h2, h3, h4⟩ := R.var he
      cases h2
      split at q
      · rename_i y hy
        rcases h4 with ⟨h4, _⟩ | ⟨dd, vs, hd, hg, rf⟩
        · rw [h4] at hy; cases hy
        · obtain ⟨u, hu, ru⟩ := rf.lookup hy
          exact ⟨_, h1, rfl, by rw [h3, hc], dd, vs, u, hd, R.sub _ _ hg, hu, k _ _ G H en R (Same.refl G) ru q⟩
      · exact q.elim
    · exact q.elim
end
end
end KD

namespace KD
open PySem PySem.Spec PyProof.Rows L2 KP
def w_is_integer : WS := (sRet (eAnd (eB oIsi (aCons (eVar 0) (aCons (eK (.ty "int")) aNil))) (eNot (eB oIsi (aCons (eVar 0) (aCons (eK (.ty "bool")) aNil))))))
@[irreducible] def W_is_integer : WD := runD 1 1 w_is_integer
def w_is_between : WS := (sRet (eAnd (eCall W_is_integer (aCons (eVar 0) aNil)) (eChain oLe oLe (eVar 1) (eVar 0) (eVar 2))))
@[irreducible] def W_is_between : WD := runD 3 3 w_is_between
def w_is_name : WS := (sSeq (sCut (sIf (tOrD (tNotD (tOf (eB oIsi (aCons (eVar 0) (aCons (eK (.ty "str")) aNil))))) (tNotD (tOf (eChain oLe oLe (eK (.int 1)) (eLenV 0) (eK (.int 8)))))) (sRet (eK (.bl false))) sNil))
    (sRet (eB oAll (aCons (eF (fLc (iStrD (eVar 0)) (gN 1) tYesD (eOp (oIn false) (eVar 1) (eK (.str "abcdefghijklmnopqrstuvwxyz"))) [1])) aNil))))
@[irreducible] def W_is_name : WD := runD 1 2 w_is_name
def w_Painter_init : WS := (sSeq (sIf (tNotD (tOf (eCall W_is_name (aCons (eVar 1) aNil)))) (sRaise "InvalidPainter" "reason" (eK (.str "name"))) sNil)
    (sSeq (sIf (tNotD (tOf (eCall W_is_between (aCons (eVar 2) (aCons (eK (.int 0)) (aCons (eConV "Painter" 0 "MAX_DAY" (.int 1000000000000000000000000000000)) aNil)))))) (sRaise "InvalidPainter" "reason" (eK (.str "day"))) sNil)
    (sSeq (sIf (tNotD (tOf (eCall W_is_between (aCons (eVar 3) (aCons (eUn oNeg (eConV "Painter" 0 "MAX_POST" (.int 1000000000000000000000000000000))) (aCons (eConV "Painter" 0 "MAX_POST" (.int 1000000000000000000000000000000)) aNil)))))) (sRaise "InvalidPainter" "reason" (eK (.str "post"))) sNil)
    (sSeq (sCut (sIf (tOrD (tNotD (tOf (eCall W_is_between (aCons (eVar 4) (aCons (eUn oNeg (eConV "Painter" 0 "MAX_STRIDE" (.int 1000000000000000000))) (aCons (eConV "Painter" 0 "MAX_STRIDE" (.int 1000000000000000000)) aNil)))))) (tOf (eOp oEq (eVar 4) (eK (.int 0))))) (sRaise "InvalidPainter" "reason" (eK (.str "stride"))) sNil))
    (sFldC "Painter" 0 "parts" (eTup (aCons (eVar 1) (aCons (eVar 2) (aCons (eVar 3) (aCons (eVar 4) aNil))))))))))
@[irreducible] def W_Painter_init : WN := runN "Painter" 5 5 w_Painter_init
def w_Painter_name : WS := (sRet (eOp oIx (eFldC "Painter" "parts" (eVar 0)) (eK (.int 0))))
@[irreducible] def W_Painter_name : WD := runD 1 1 w_Painter_name
def w_Painter_day : WS := (sRet (eOp oIx (eFldC "Painter" "parts" (eVar 0)) (eK (.int 1))))
@[irreducible] def W_Painter_day : WD := runD 1 1 w_Painter_day
def w_Painter_post : WS := (sRet (eOp oIx (eFldC "Painter" "parts" (eVar 0)) (eK (.int 2))))
@[irreducible] def W_Painter_post : WD := runD 1 1 w_Painter_post
def w_Painter_stride : WS := (sRet (eOp oIx (eFldC "Painter" "parts" (eVar 0)) (eK (.int 3))))
@[irreducible] def W_Painter_stride : WD := runD 1 1 w_Painter_stride
def w_integer_in : WS := (sSeq (sSet 2 (eCut (eIf (tOf (eOp oEq (eSlV 0 oNo (oSo (eK (.int 1)))) (eK (.str "-")))) (eSlV 0 (oSo (eK (.int 1))) oNo) (eVar 0))))
    (sSeq (sCut (sIf (tOrD (tNotD (tOf (eChain oLe oLe (eK (.int 1)) (eLenV 2) (eVar 1)))) (tNotD (tOf (eB oAll (aCons (eF (fLc (iStrD (eVar 2)) (gN 3) tYesD (eOp (oIn false) (eVar 3) (eK (.str "0123456789"))) [3])) aNil))))) (sRet (eK .non)) sNil))
    (sSeq (sCut (sIf (tAndD (tOf (eOp oEq (eIxN 2 (eK (.int 0))) (eK (.str "0")))) (tOf (eOp oNe (eVar 0) (eK (.str "0"))))) (sRet (eK .non)) sNil))
    (sRet (eB oIntS (aCons (eVar 0) aNil))))))
@[irreducible] def W_integer_in : WD := runD 2 4 w_integer_in
def w_painter_line : WS := (sRet (eJs [(eFmt (eVar 0)), (eK (.str " ")), (eFmt (eVar 1)), (eK (.str " ")), (eFmt (eVar 2)), (eK (.str " ")), (eFmt (eVar 3))]))
@[irreducible] def W_painter_line : WD := runD 4 4 w_painter_line
def w_painter_parts : WS := (sSeq (sAsg (eSplit (eVar 0) (eK (.str " "))) (gS 1 (gsCons (gN 1) (gsCons (gN 2) gsNil))))
    (sSeq (sSet 3 (eF (fLc (iLst (eVar 2)) (gN 4) tYesD (eCallD W_integer_in [.int 80] (aCons (eVar 4) aNil)) [4])))
    (sSeq (sCut (sIf (tOrD (tNotD (tOf (eCall W_is_name (aCons (eVar 1) aNil)))) (tOrD (tOf (eOp oNe (eLenV 3) (eK (.int 3)))) (tOf (eOp (oIn false) (eK .non) (eVar 3))))) (sRet (eK .non)) sNil))
    (sRet (eTup (aCons (eVar 1) (aStar (eVar 3) aNil)))))))
@[irreducible] def W_painter_parts : WD := runD 1 5 w_painter_parts
def w_Painter_text : WS := (sRet (eCall W_painter_line (aStar (eFldC "Painter" "parts" (eVar 0)) aNil)))
@[irreducible] def W_Painter_text : WD := runD 1 1 w_Painter_text
def w_Painter_add : WS := (sRet (eMake "Painter" W_Painter_init (aCons (eProp "Painter" W_Painter_name (eVar 0)) (aCons (eProp "Painter" W_Painter_day (eVar 0)) (aCons (eOp oAdd (eProp "Painter" W_Painter_post (eVar 0)) (eVar 1)) (aCons (eProp "Painter" W_Painter_stride (eVar 0)) aNil))))))
@[irreducible] def W_Painter_add : WD := runD 2 2 w_Painter_add
def w_Painter_neg : WS := (sRet (eMake "Painter" W_Painter_init (aCons (eProp "Painter" W_Painter_name (eVar 0)) (aCons (eProp "Painter" W_Painter_day (eVar 0)) (aCons (eUn oNeg (eProp "Painter" W_Painter_post (eVar 0))) (aCons (eUn oNeg (eProp "Painter" W_Painter_stride (eVar 0))) aNil))))))
@[irreducible] def W_Painter_neg : WD := runD 1 1 w_Painter_neg
def w_Painter_eq : WS := (sRet (eAnd (eB (oIsiC "Painter" []) (aCons (eVar 1) (aCons (eK (.cls "Painter")) aNil))) (eOp oEq (eFldC "Painter" "parts" (eVar 0)) (eFldC "Painter" "parts" (eVar 1)))))
@[irreducible] def W_Painter_eq : WD := runD 2 2 w_Painter_eq
def w_Painter_read : WS := (sSeq (sSet 2 (eCut (eIf (tOf (eB oIsi (aCons (eVar 1) (aCons (eK (.ty "str")) aNil)))) (eCall W_painter_parts (aCons (eVar 1) aNil)) (eK .non))))
    (sSeq (sIf (tOf (eOp oIs (eVar 2) (eK .non))) (sRaise "ParseError" "line" (eK (.int 0))) sNil)
    (sTryN (sRet (eMakeV "Painter" W_Painter_init 0 (eVar 2))))))
@[irreducible] def W_Painter_read : WD := runD 2 3 w_Painter_read
def w_Fence_init : WS := (sSeq (sFor (iEnT (aCons (eVar 1) aNil)) (gT 2 (gsCons (gN 2) (gsCons (gN 3) gsNil)))
    (sIf (tNotD (tOf (eB (oIsiC "Painter" []) (aCons (eVar 3) (aCons (eK (.cls "Painter")) aNil))))) (sRaise "InvalidFence" "index" (eVar 2)) sNil))
    (sSeq (sSet 4 (eF (fLc (iTupD (eVar 1)) (gN 3) tYesD (eProp "Painter" W_Painter_name (eVar 3)) [3])))
    (sSeq (sFor (iEn (aCons (eVar 4) aNil)) (gT 2 (gsCons (gN 2) (gsCons (gN 5) gsNil)))
    (sIf (tOf (eOp (oIn false) (eVar 5) (eSlV 4 oNo (oSo (eVar 2))))) (sRaise "DuplicateName" "value" (eVar 5)) sNil))
    (sSeq (sIf (tOf (eOp oGt (eLenV 1) (eK (.int 40)))) (sRaise "TooMany" "limit" (eK (.int 40))) sNil)
    (sSeq (sFldC "Fence" 0 "listed" (eVar 1))
    (sFldC "Fence" 0 "places" (eFK (fDc (iEn (aCons (eVar 4) aNil)) (gT 2 (gsCons (gN 2) (gsCons (gN 5) gsNil))) tYesD (eVar 5) (eVar 2) [2, 5]))))))))
@[irreducible] def W_Fence_init : WN := starN 0 (runN "Fence" 2 6 w_Fence_init)
def w_Fence_contains : WS := (sRet (eAnd (eB oIsi (aCons (eVar 1) (aCons (eK (.ty "str")) aNil))) (eOp (oIn false) (eVar 1) (eFldC "Fence" "places" (eVar 0)))))
@[irreducible] def W_Fence_contains : WD := runD 2 2 w_Fence_contains
def w_Fence_need_name : WS := (sIf (tOf (eOwnIn "Fence" true W_Fence_contains (eVar 1) (eVar 0))) (sRaise "UnknownName" "value" (eVar 1)) sNil)
@[irreducible] def W_Fence_need_name : WD := runD 2 2 w_Fence_need_name
def w_Fence_getitem : WS := (sSeq (sExpr (eMeth "Fence" "need_name" W_Fence_need_name [] (eVar 0) (aCons (eVar 1) aNil)))
    (sRet (eOp oIx (eFldC "Fence" "listed" (eVar 0)) (eOp oIx (eFldC "Fence" "places" (eVar 0)) (eVar 1)))))
@[irreducible] def W_Fence_getitem : WD := runD 2 2 w_Fence_getitem
def w_Fence_eq : WS := (sRet (eAnd (eB (oIsiC "Fence" []) (aCons (eVar 1) (aCons (eK (.cls "Fence")) aNil))) (eTupC false "Painter" W_Painter_eq (eFldC "Fence" "listed" (eVar 0)) (eFldC "Fence" "listed" (eVar 1)))))
@[irreducible] def W_Fence_eq : WD := runD 2 2 w_Fence_eq
def w_line : WS := (sRet (eJoin (eK (.str " ")) (eF (fLc (iTupD (eVar 0)) (gN 1) tYesD (eB oStr (aCons (eVar 1) aNil)) [1]))))
@[irreducible] def W_line : WD := runD 1 2 w_line
def w_parts : WS := (sRet (eTup (aCons (eProp "Painter" W_Painter_name (eVar 0)) (aCons (eProp "Painter" W_Painter_day (eVar 0)) (aCons (eProp "Painter" W_Painter_post (eVar 0)) (aCons (eProp "Painter" W_Painter_stride (eVar 0)) aNil))))))
@[irreducible] def W_parts : WD := runD 1 1 w_parts
def w_added : WS := (sTry ["DuplicateName", "InvalidFence", "InvalidPainter", "ParseError", "TooMany", "UnknownName"] (sRet (eCall W_parts (aCons (eOwn2 "Painter" (okT "int") W_Painter_add (eVar 0) (eVar 1)) aNil))) 2 [("InvalidPainter", fun ea cls d => (sRet (eExc ea cls d "InvalidPainter" 2 "reason")))])
@[irreducible] def W_added : WD := runD 2 3 w_added
def w_law : WS := (sSeq (sFor (iR1 (aCons (eK (.int 10)) aNil)) (gN 2)
    (sFor (iLst (eOp oAdd (eCall W_painters (aPen 1 aNil)) (eLst (aCons (eTup (aCons (eK (.str "a")) (aCons (eK (.int 0)) (aCons (eK (.int 1000000000000000000000000000000)) (aCons (eUn oNeg (eK (.int 1))) aNil))))) (aCons (eTup (aCons (eK (.str "b")) (aCons (eK (.int 3)) (aCons (eUn oNeg (eK (.int 1000000000000000000000000000000))) (aCons (eK (.int 5)) aNil))))) (aCons (eTup (aCons (eK (.str "c")) (aCons (eK (.int 0)) (aCons (eK (.int 0)) (aCons (eK (.int 1000000000000000000)) aNil))))) aNil)))))) (gN 3)
    (sSeq (sAsg (eVar 3) (gT 4 (gsCons (gN 4) (gsCons (gN 5) (gsCons (gN 6) (gsCons (gN 7) gsNil))))))
    (sSeq (sSet 8 (eMake "Painter" W_Painter_init (aCons (eVar 4) (aCons (eVar 5) (aCons (eVar 6) (aCons (eVar 7) aNil))))))
    (sSeq (sFor (iLst (eLst (aCons (eK (.int 0)) (aCons (eCall W_around (aPen 1 (aCons (eK (.int 9)) aNil))) (aCons (eCall W_great (aPen 1 (aCons (eK (.int 30)) aNil))) (aCons (eOp oSub (eK (.int 0)) (eCall W_great (aPen 1 (aCons (eK (.int 31)) aNil)))) (aCons (eOp oSub (eK (.int 1000000000000000000000000000000)) (eVar 6)) aNil))))))) (gN 9)
    (sSeq (sSet 10 (eCut (eIf (tOf (eOp oLe (eB oAbs (aCons (eOp oAdd (eVar 6) (eVar 9)) aNil)) (eK (.int 1000000000000000000000000000000)))) (eTup (aCons (eVar 4) (aCons (eVar 5) (aCons (eOp oAdd (eVar 6) (eVar 9)) (aCons (eVar 7) aNil))))) (eK (.str "post")))))
    (sIf (tOf (eOp oNe (eB oRepr (aCons (eCall W_added (aCons (eVar 8) (aCons (eVar 9) aNil))) aNil)) (eB oRepr (aCons (eVar 10) aNil)))) (sRet (eK (.bl false))) sNil)))
    (sSeq (sCut (sIf (tOrD (tOf (eOp oNe (eB oRepr (aCons (eCall W_parts (aCons (eOwn1 "Painter" W_Painter_neg (eVar 8)) aNil)) aNil)) (eB oRepr (aCons (eTup (aCons (eVar 4) (aCons (eVar 5) (aCons (eOp oSub (eK (.int 0)) (eVar 6)) (aCons (eOp oSub (eK (.int 0)) (eVar 7)) aNil))))) aNil)))) (tOf (eOp oNe (eCall W_parts (aCons (eVar 8) aNil)) (eVar 3)))) (sRet (eK (.bl false))) sNil))
    (sSeq (sSet 11 (eLst (aCons (eVar 3) (aCons (eOp oAdd (eTup (aCons (eK (.str "zz")) aNil)) (eSlV 3 (oSo (eK (.int 1))) oNo)) (aCons (eTup (aCons (eVar 4) (aCons (eOp oDiv (eVar 5) (eK (.int 2))) (aCons (eVar 6) (aCons (eVar 7) aNil))))) (aCons (eTup (aCons (eVar 4) (aCons (eVar 5) (aCons (eOp oDiv (eVar 6) (eK (.int 2))) (aCons (eVar 7) aNil))))) aNil))))))
    (sSeq (sSet 12 (eCall W_pick (aPen 1 (aCons (eOp oAdd (eVar 11) (eLst (aCons (eTup (aCons (eVar 4) (aCons (eVar 5) (aCons (eVar 6) (aCons (eOp oSub (eK (.int 0)) (eVar 7)) aNil))))) aNil))) aNil))))
    (sSeq (sSet 13 (eMake "Painter" W_Painter_init (aCons (eIxN 12 (eK (.int 0))) (aCons (eIxN 12 (eK (.int 1))) (aCons (eIxN 12 (eK (.int 2))) (aCons (eIxN 12 (eK (.int 3))) aNil))))))
    (sSeq (sCut (sIf (tOrD (tOf (eOp oNe (eOwnC false "Painter" W_Painter_eq (eVar 8) (eVar 13)) (eOp oEq (eVar 12) (eVar 3)))) (tOf (eOp oEq (eOwnC true "Painter" W_Painter_eq (eVar 8) (eVar 13)) (eOp oEq (eVar 12) (eVar 3))))) (sRet (eK (.bl false))) sNil))
    (sSeq (sSet 14 (eLst (aCons (eK .non) (aCons (eVar 4) (aCons (eVar 3) (aCons (eB oList (aCons (eVar 3) aNil)) (aCons (eProp "Painter" W_Painter_text (eVar 8)) aNil)))))))
    (sSeq (sIf (tOf (eOp oNe (eF (fLc (iLst (eVar 14)) (gN 15) (tOrD (tOf (eOwnA false "Painter" W_Painter_eq (eVar 8) (eVar 15))) (tNotD (tOf (eOwnA true "Painter" W_Painter_eq (eVar 8) (eVar 15))))) (eVar 15) [15])) (eLst aNil))) (sRet (eK (.bl false))) sNil)
    (sSeq (sCut (sIf (tOrD (tNotD (tOf (eOwnC false "Painter" W_Painter_eq (eCMeth "Painter" W_Painter_read (aCons (eProp "Painter" W_Painter_text (eVar 8)) aNil)) (eVar 8)))) (tOf (eOp oNe (eCall W_parts (aCons (eCMeth "Painter" W_Painter_read (aCons (eCall W_line (aCons (eVar 12) aNil)) aNil)) aNil)) (eVar 12)))) (sRet (eK (.bl false))) sNil))
    (sIf (tOrD (tNotD (tOf (eOwnC false "Painter" W_Painter_eq (eOwn2 "Fence" (fun _ => true) W_Fence_getitem (eMake "Fence" W_Fence_init (aCons (eVar 8) aNil)) (eVar 4)) (eVar 8)))) (tOf (eOp oNe (eOwnC false "Fence" W_Fence_eq (eMake "Fence" W_Fence_init (aCons (eVar 8) aNil)) (eMake "Fence" W_Fence_init (aCons (eVar 13) aNil))) (eOp oEq (eVar 12) (eVar 3))))) (sRet (eK (.bl false))) sNil))))))))))))))
    (sRet (eK (.bl true))))
end KD

namespace KP
open PySem PySem.Spec PyProof.Rows L2
local macro_rules | `(tactic| walk_at "sc") => `(tactic| first | (show (0 : Int) < _; decide) | (show (0 : Int) < _; omega) | (refine ⟨?_, ?_, ?_, ?_⟩ <;> (first | omega | (unfold Big; omega))) | (refine ⟨?_, ?_, ?_⟩ <;> (first | omega | (unfold Big; omega))) | (refine ⟨?_, ?_⟩ <;> (first | omega | (unfold Big; omega))))
/-! ### draws -/
def dlim : Nat → Int
  | 0 => 60000000
  | d + 1 => 60000000 * (dlim d - 1)
theorem dlim_pos : ∀ d, 1 < dlim d
  | 0 => by decide
  | d + 1 => by
    have h := dlim_pos d
    show 1 < 60000000 * (dlim d - 1)
    omega
/-- a draw of a number below many, d calls deep at most -/
def spD (K : PySem.W.Frag) : Nat → Sp
  | 0 => fun _ _ _ _ => False
  | d + 1 => fun vs H Q _ => ∃ (p : Pid) (many b : Int), vs = [.ref p.a, .int many] ∧ Pen K H p b ∧ 0 < many ∧ many ≤ dlim d ∧ many < 10 ^ 150 ∧ b + d < 10 ^ 12 ∧
      ∀ (r : Int) (H' : Hp) (b' : Int), Ext p.a H H' → Pen K H' p b' → b' ≤ b + d + 1 → 0 ≤ r → r < many → Q (.int r) H'
section
variable {P : Program} {w : World} {K : PySem.W.Frag} {mg : Str → Option Value} {base : Heap}
theorem lay_ints : ∀ cs : List Int, PyData.canLayAll0 (cs.map PyData.int) = true ∧ PyData.depthAll (cs.map PyData.int) = 0
  | [] => ⟨rfl, rfl⟩
  | x :: r => by
    obtain ⟨h1, h2⟩ := lay_ints r
    constructor
    · show (PyData.canLay0 (.int x) && PyData.canLayAll0 (r.map PyData.int)) = true
      rw [h1]
      rfl
    · show max (PyData.depth (.int x)) (PyData.depthAll (r.map PyData.int)) = 0
      rw [h2]
      rfl
theorem dp_ints {K : PySem.W.Frag} {H : Hp} : ∀ cs : List Int, DpAll K H (cs.map V.int) (cs.map PyData.int)
  | [] => .nil
  | x :: r => .cons (.int x) (dp_ints r)
theorem shaped_ints (cs : List Int) (h : cs.length ≤ 1000) : SeqAt.shaped (.list (cs.map PyData.int)) = true := by
  obtain ⟨h1, h2⟩ := lay_ints cs
  show (PyData.canLayAll0 (cs.map PyData.int) && decide (PyData.depthAll (cs.map PyData.int) + 1 ≤ 64)) = true
  rw [h1, h2]
  rfl
theorem ok_draw (T : Tx K mg) : ∀ d : Nat, FnOk P w K mg base CX0 d (He.ga K "_law_draw") T.fd_draw P_draw (spD K d)
  | 0 => ⟨fun _ _ _ _ h => h.elim, fun _ _ _ _ _ _ _ _ _ _ _ _ _ h => h.elim⟩
  | d + 1 => by
    have c_draw : Cal P w K mg base d _ T.fd_draw P_draw (spD K d) := ⟨ok_draw T d, T.fn_draw.kp, FunD.bindsN T.fn_draw fun _ _ _ _ _ _ us hl => match us, hl with | [_, _], _ => rfl⟩
    refine T.fn_draw.ok sc_draw (fun vs H Q E h => ?_) (fun cdv A outer s H vs Q E hr h => ?_)
    · obtain ⟨p, many, b, rfl, _⟩ := h
      rfl
    · obtain ⟨⟨p, c, cs⟩, many, b, rfl, hP, h0, hl, hB, hb, q⟩ := h
      have hu := hu_of hr
      refine ⟨_, PSs.nox (pss_cons (ps_if (pt_cmpR op_gt (pe_dget hu (pv 0) pe_str (fun _ _ => rfl)) pe_int (nomark _)) (pss_cons (ps_set (i := 2) sc_draw.nd rfl (Or.inl rfl) (pe_op op_mod (pe_callTy call_int1 (by rfl) T.b_int PyProof.Rows.boot_int (pa_cons (pe_dget hu (pv 0) pe_str (fun _ _ => rfl)) pa_nil)) (pv 1)))
      (pss_cons (ps_dput hu (pv 0) pe_str (pe_op op_fdivB (pe_dget hu (pv 0) pe_str (fun _ _ => rfl)) (pv 1)) rfl)
      (pss_one (ps_ret (pv 2))))) pss_nil)
      (pss_cons (ps_set (i := 3) sc_draw.nd rfl (Or.inl rfl) (pe_dget hu (pv 0) pe_str (fun _ _ => rfl)))
      (pss_cons (ps_dput hu (pv 0) pe_str (pe_op op_add (pv 3) pe_int) rfl)
      (pss_cons (ps_set (i := 4) sc_draw.nd rfl (Or.inl rfl) (pe_op op_add (pe_op op_mulB pe_int (pv 3)) pe_int))
      (Evl.pss_cut (ps_if (pt_cmpR (op_neD hr.units) (pe_dget hu (pv 0) pe_str (fun _ _ => rfl)) (pe_lst pa_nil) (nomark _)) (pss_one (ps_set (i := 4) sc_draw.nd rfl (Or.inl rfl) (pe_ix ix_list (pe_dget hu (pv 0) pe_str (fun _ _ => rfl)) (pe_op op_mod (pe_callTy call_int1 (by rfl) T.b_int PyProof.Rows.boot_int (pa_cons (pv 3) pa_nil)) (pe_callB call_len_seq (by rfl) T.b_len PySem.boot_len (pa_cons (pe_dget hu (pv 0) pe_str (fun _ _ => rfl)) pa_nil))) (fun _ _ => rfl)))) pss_nil)
      (Evl.pss_cut (ps_if (PW.pt (pw_and (pt_cmpR op_lt (pv 3) (pe_callB call_len_seq (by rfl) T.b_len PySem.boot_len (pa_cons (pe_dget hu (pv 0) pe_str (fun _ _ => rfl)) pa_nil)) (nomark _)) (pw_and1 (pt_cmpR op_ge (pe_callB call_abs (by rfl) T.b_abs (by decide +kernel) (pa_cons (pv 4) pa_nil)) (ppow (c := 1000000000000000000) (by decide) (by decide +kernel)) (nomark _))))) (pss_cons (ps_dput hu (pv 0) pe_str (pe_op op_fdivB (pe_op op_sub (pe_callB call_abs (by rfl) T.b_abs (by decide +kernel) (pa_cons (pv 4) pa_nil)) (ppow (c := 1000000000000000000) (by decide) (by decide +kernel))) (pv 1)) rfl)
      (pss_one (ps_ret (pe_op op_mod (pe_op op_sub (pe_callB call_abs (by rfl) T.b_abs (by decide +kernel) (pa_cons (pv 4) pa_nil)) (ppow (c := 1000000000000000000) (by decide) (by decide +kernel))) (pv 1))))) pss_nil)
      (pss_cons (ps_set (i := 5) sc_draw.nd rfl (Or.inl rfl) (pe_op op_mod (pe_callTy call_int1 (by rfl) T.b_int PyProof.Rows.boot_int (pa_cons (pe_op op_add (pe_op op_add (pe_op op_mulB (pe_op op_mod (pe_callTy call_int1 (by rfl) T.b_int PyProof.Rows.boot_int (pa_cons (pv 4) pa_nil)) pe_int) pe_int) (pe_op op_mulB (pe_op op_mulB pe_int (pv 3)) (pv 3))) pe_int) pa_nil)) pe_int))
      (pss_cons (ps_set (i := 5) sc_draw.nd rfl (Or.inl rfl) (pe_op op_mod (pe_callTy call_int1 (by rfl) T.b_int PyProof.Rows.boot_int (pa_cons (pe_op op_add (pe_op op_add (pe_op op_add (pe_op op_mulB (pv 5) (pv 5)) (pe_op op_mulB pe_int (pv 5))) (pe_op op_mulB pe_int (pv 3))) pe_int) pa_nil)) pe_int))
      (pss_cons (ps_set (i := 5) sc_draw.nd rfl (Or.inl rfl) (pe_op op_fdivB (pe_op op_mod (pe_callTy call_int1 (by rfl) T.b_int PyProof.Rows.boot_int (pa_cons (pe_op op_mulB (pv 5) (pe_op op_add (pv 5) pe_int)) pa_nil)) pe_int) pe_int))
      (Evl.pss_cut (ps_if (pt_cmpR op_gt (pv 1) pe_int (nomark _)) (pss_one (ps_set (i := 5) sc_draw.nd rfl (Or.inl rfl) (pe_op op_add (pe_op op_mod (pe_callTy call_int1 (by rfl) T.b_int PyProof.Rows.boot_int (pa_cons (pv 5) pa_nil)) pe_int) (pe_op op_mulB pe_int (pe_call c_draw.F hr (by rfl) T.g_draw c_draw.kp c_draw.b .nil pass0 (pa_cons (pv 0) (pa_cons (pe_op op_add (pe_op op_fdivB (pv 1) pe_int) pe_int) pa_nil))))))) pss_nil)
      (pss_one (ps_ret (pe_op op_mod (pe_callTy call_int1 (by rfl) T.b_int PyProof.Rows.boot_int (pa_cons (pv 5) pa_nil)) (pv 1)))))))))))))), ?_⟩
      obtain ⟨r, hp, hc, hn, hb0, hr0⟩ := hP
      replace hp : H p = some (penO c b r) := hp
      replace hc : SqL K H c (cs.map V.int) := hc
      replace hn : cs.length ≤ 63 := hn
      have big : many < Big := by
        unfold Big
        omega
      -- if rest > 0
      refine ⟨.ref p, rfl, p, .int r, rfl, pen_rest hp, r, 0, rfl, rfl, _, rfl, ite2 (fun e => ?_) (fun e => ?_)⟩
      · refine ⟨.ref p, rfl, p, .int r, rfl, pen_rest hp, .inl ⟨r, rfl, .int many, rfl, r, many, rfl, rfl, h0, ?_⟩⟩
        refine ⟨.ref p, rfl, p, .int r, rfl, pen_rest hp, .int many, rfl, r, many, rfl, rfl, ⟨h0, big⟩, .ref p, rfl, p, _, rfl, put_rest hp (r / many), ?_⟩
        refine ⟨_, rfl, q (r % many) _ b (Ext.put hp) ⟨r / many, upd_same, (Ext.put hp).l hc, hn, hb0, Int.ediv_nonneg hr0 (by omega)⟩ (by omega) (Int.emod_nonneg _ (by omega)) (Int.emod_lt_of_pos _ h0)⟩
      · have rz : r = 0 := by
          have := of_decide_eq_false (Bool.eq_false_iff.mpr e)
          omega
        -- site, begun
        refine ⟨.ref p, rfl, p, .int b, rfl, pen_begun hp, ?_⟩
        refine ⟨.int b, rfl, b, 1, rfl, rfl, .ref p, rfl, p, _, rfl, put_begun hp (b + 1), ?_⟩
        have e1 : Ext p H (upd H p (penO c (b + 1) r)) := Ext.put hp
        have hp1 : (upd H p (penO c (b + 1) r)) p = some (penO c (b + 1) r) := upd_same
        have hc1 := e1.l hc
        generalize upd H p (penO c (b + 1) r) = H1 at e1 hp1 hc1 ⊢
        -- cell = 61 * site + 7
        refine ⟨.int b, rfl, 61, b, rfl, rfl, ⟨by decide, by decide, by unfold Big; omega, by unfold Big; omega⟩, _, 7, rfl, rfl, ?_⟩
        refine ⟨fun σ' H' => ∃ v : Int, σ' = [some (.ref p), some (.int many), none, some (.int b), some (.int v), none] ∧ Ext p H H' ∧ H' p = some (penO c (b + 1) r) ∧ SqL K H' c (cs.map V.int), ?_, fun σ' H' hM => ?_⟩
        · -- if cells != []
          refine ⟨.ref p, rfl, p, .ref c, rfl, pen_cells hp1, Nat.zero_le _, fun l nl => ?_⟩
          have e2 : Ext p H1 (upd H1 l (.lst [])) := Ext.new ⟨_, hp1⟩ nl
          have hp2 : (upd H1 l (.lst [])) p = some (penO c (b + 1) r) := by
            rw [upd_ne (ne_of_none hp1 nl)]
            exact hp1
          have hl2 : (upd H1 l (.lst [])) l = some (.lst []) := upd_same
          have hc2 := e2.l hc1
          generalize upd H1 l (.lst []) = H2 at e2 hp2 hc2 hl2 ⊢
          refine ⟨.list (cs.map PyData.int), .list [], .lst hc2 (dp_ints cs), .lst (SqL.of hl2) .nil, shaped_ints cs (by omega), rfl, _, rfl, ite2 (fun e => ?_) (fun e => ?_)⟩
          · have ne : cs ≠ [] := fun z => by
              subst z
              cases e
            have lp : 0 < cs.length := List.length_pos_iff.mpr ne
            refine ⟨.ref p, rfl, p, .ref c, rfl, pen_cells hp2, .int b, rfl, .inl ⟨b, rfl, .ref p, rfl, p, .ref c, rfl, pen_cells hp2, c, _, rfl, .inl hc2, b, _, rfl, rfl, ?_, ?_⟩⟩
            · rw [List.length_map]
              show (0 : Int) < cs.length
              omega
            · rw [List.length_map]
              have i0 : 0 ≤ b % (cs.length : Int) := Int.emod_nonneg _ (by omega)
              have i1 : b % (cs.length : Int) < cs.length := Int.emod_lt_of_pos _ (by omega)
              obtain ⟨i, ei⟩ := Int.eq_ofNat_of_zero_le i0
              have il : i < cs.length := by omega
              refine ⟨c, _, _, .int cs[i], rfl, rfl, hc2, ?_, ⟨cs[i], rfl, e1.trans e2, hp2, hc2⟩⟩
              rw [ei]
              exact atI_nat (by rw [List.getElem?_map, List.getElem?_eq_getElem il]; rfl)
          · exact ⟨_, rfl, e1.trans e2, hp2, hc2⟩
        · obtain ⟨v, rfl, e2, hp2, hc2⟩ := hM
          clear e1 hp1 hc1
          have ab : 0 ≤ (if v < 0 then -v else v) := by split <;> omega
          -- if site < len(cells) and abs(cell) >= 10 ** 18
          refine ⟨fun σ3 H3 => σ3 = [some (.ref p), some (.int many), none, some (.int b), some (.int v), none] ∧ H3 = H', ?_, ?_⟩
          · refine ⟨.int b, rfl, .ref p, rfl, p, .ref c, rfl, pen_cells hp2, c, _, rfl, .inl hc2, b, _, rfl, rfl, _, rfl, ite2 (fun e3 => ?_) (fun e3 => ?_)⟩
            · refine ⟨.int v, rfl, v, rfl, _, _, rfl, rfl, _, rfl, ite2 (fun e4 => ?_) (fun e4 => ?_)⟩
              · have ge := of_decide_eq_true e4
                refine ⟨.int v, rfl, v, rfl, _, _, rfl, rfl, .int many, rfl, _, many, rfl, rfl, ⟨h0, big⟩, .ref p, rfl, p, _, rfl, put_rest hp2 _, ?_⟩
                have e5 := Ext.put (kvs' := [(.inr "cells", .ref c), (.inr "begun", .int (b + 1)), (.inr "rest", .int (((if v < 0 then -v else v) - 1000000000000000000) / many))]) hp2
                refine ⟨.int v, rfl, v, rfl, _, _, rfl, rfl, .int many, rfl, _, many, rfl, rfl, h0, q _ _ (b + 1) (e2.trans e5) ⟨_, upd_same, e5.l hc2, hn, by omega, Int.ediv_nonneg (by omega) (by omega)⟩ (by omega) (Int.emod_nonneg _ (by omega)) (Int.emod_lt_of_pos _ h0)⟩
              · exact ⟨rfl, rfl⟩
            · exact ⟨rfl, rfl⟩
          · rintro σ3 H3 ⟨rfl, rfl⟩
            -- mixed, thrice
            have m0 : 0 ≤ v % 4294967279 := Int.emod_nonneg _ (by decide)
            have m1 : v % 4294967279 < 4294967279 := Int.emod_lt_of_pos _ (by decide)
            have bb : 0 ≤ 40503 * b ∧ 40503 * b < 10 ^ 20 := by omega
            refine ⟨.int v, rfl, .inl ⟨v, rfl, v, 4294967279, rfl, rfl, by walk_at "sc", _, 69069, rfl, rfl, by walk_at "sc", .int b, rfl, 40503, b, rfl, rfl, by walk_at "sc", .int b, rfl, _, b, rfl, rfl, by walk_at "sc", _, _, rfl, rfl, _, 101, rfl, rfl, .inl ⟨_, rfl, _, 4294967291, rfl, rfl, by walk_at "sc", ?_⟩⟩⟩
            have n0 : 0 ≤ (v % 4294967279 * 69069 + 40503 * b * b + 101) % 4294967291 := Int.emod_nonneg _ (by decide)
            have n1 : (v % 4294967279 * 69069 + 40503 * b * b + 101) % 4294967291 < 4294967291 := Int.emod_lt_of_pos _ (by decide)
            dsimp only
            generalize (v % 4294967279 * 69069 + 40503 * b * b + 101) % 4294967291 = x1 at n0 n1 ⊢
            refine ⟨.int x1, rfl, .int x1, rfl, x1, x1, rfl, rfl, by walk_at "sc", .int x1, rfl, 31337, x1, rfl, rfl, by walk_at "sc", _, _, rfl, rfl, .int b, rfl, 17, b, rfl, rfl, by walk_at "sc", _, _, rfl, rfl, _, 3, rfl, rfl, .inl ⟨_, rfl, _, 4294967279, rfl, rfl, by walk_at "sc", ?_⟩⟩
            have k0 : 0 ≤ (x1 * x1 + 31337 * x1 + 17 * b + 3) % 4294967279 := Int.emod_nonneg _ (by decide)
            have k1 : (x1 * x1 + 31337 * x1 + 17 * b + 3) % 4294967279 < 4294967279 := Int.emod_lt_of_pos _ (by decide)
            dsimp only
            generalize (x1 * x1 + 31337 * x1 + 17 * b + 3) % 4294967279 = x2 at k0 k1 ⊢
            refine ⟨.int x2, rfl, .int x2, rfl, x2, 65599, rfl, rfl, x2, _, rfl, rfl, by walk_at "sc", .inl ⟨_, rfl, _, 4294967197, rfl, rfl, by walk_at "sc", _, 64, rfl, rfl, by walk_at "sc", ?_⟩⟩
            have l0 : 0 ≤ x2 * (x2 + 65599) % 4294967197 / 64 := Int.ediv_nonneg (Int.emod_nonneg _ (by decide)) (by decide)
            dsimp only
            generalize x2 * (x2 + 65599) % 4294967197 / 64 = x3 at l0 ⊢
            -- the last: a great number's upper figures
            refine ⟨fun σ4 H4 => ∃ (y b4 : Int), σ4 = [some (.ref p), some (.int many), none, some (.int b), some (.int v), some (.int y)] ∧ Ext p H H4 ∧ Pen K H4 ⟨p, c, cs⟩ b4 ∧ b4 ≤ b + d + 1, ?_, ?_⟩
            · refine ⟨.int many, rfl, many, 60000000, rfl, rfl, _, rfl, ite2 (fun e5 => ?_) (fun e5 => ?_)⟩
              · have gt := of_decide_eq_true e5
                refine ⟨.int x3, rfl, .inl ⟨x3, rfl, x3, 60000000, rfl, rfl, by walk_at "sc", .ref p, rfl, .int many, rfl, many, 60000000, rfl, rfl, by walk_at "sc", _, 1, rfl, rfl, ?_⟩⟩
                cases d with
                | zero => exact absurd hl (by show ¬ many ≤ 60000000; omega)
                | succ d =>
                  have hl2 : many ≤ 60000000 * (dlim d - 1) := hl
                  have dp := dlim_pos d
                  refine ⟨⟨p, c, cs⟩, many / 60000000 + 1, b + 1, rfl, ⟨r, hp2, hc2, hn, by omega, hr0⟩, by omega, by omega, by omega, by omega, fun r2 H4 b4 e6 hP4 hb4 r0 r1 => ?_⟩
                  refine ⟨60000000, r2, rfl, rfl, by walk_at "sc", _, _, rfl, rfl, _, b4, rfl, e2.trans e6, hP4, by omega⟩
              · exact ⟨x3, b + 1, rfl, e2, ⟨r, hp2, hc2, hn, by omega, hr0⟩, by omega⟩
            · rintro σ4 H4 ⟨y, b4, rfl, e6, hP4, hb4⟩
              refine ⟨.int y, rfl, .inl ⟨y, rfl, .int many, rfl, y, many, rfl, rfl, h0, q (y % many) H4 b4 e6 hP4 hb4 (Int.emod_nonneg _ (by omega)) (Int.emod_lt_of_pos _ h0)⟩⟩
end
end KP

namespace KP
open PySem PySem.Spec PyProof.Rows L2
local macro_rules | `(tactic| walk_at "sc") => `(tactic| first | (show (0 : Int) < _; decide) | (show (0 : Int) < _; omega) | (refine ⟨?_, ?_, ?_, ?_⟩ <;> (first | omega | (unfold Big; omega))) | (refine ⟨?_, ?_, ?_⟩ <;> (first | omega | (unfold Big; omega))) | (refine ⟨?_, ?_⟩ <;> (first | omega | (unfold Big; omega))))
/-! ### promises of what draws -/
/-- b draws are begun; what follows may begin n more -/
def spDraw (K : PySem.W.Frag) : Sp := fun vs H Q _ => ∃ (p : Pid) (many b : Int), vs = [.ref p.a, .int many] ∧ Pen K H p b ∧ 0 < many ∧ many ≤ 10 ^ 100 ∧ b < 10 ^ 11 ∧
  ∀ (r : Int) (H' : Hp) (b' : Int), Ext p.a H H' → Pen K H' p b' → b' ≤ b + 13 → 0 ≤ r → r < many → Q (.int r) H'
/-- a list or a tuple of xs, or a text of the signs xs -/
def SeqOf (K : PySem.W.Frag) (H : Hp) (o : V) (xs : List V) : Prop := (∃ a, o = .ref a ∧ (SqL K H a xs ∨ SqT K H a xs)) ∨ ∃ z : Str, o = .str z ∧ z.length ≤ 1000 ∧ xs = z.cps.toList.map fun c => .str ⟨#[c]⟩
def spPick (K : PySem.W.Frag) : Sp := fun vs H Q _ => ∃ (p : Pid) (o : V) (xs : List V) (b : Int), vs = [.ref p.a, o] ∧ Pen K H p b ∧ SeqOf K H o xs ∧ xs ≠ [] ∧ xs.length ≤ 1000 ∧ b < 10 ^ 11 ∧
  ∀ v ∈ xs, ∀ (H' : Hp) (b' : Int), Ext p.a H H' → Pen K H' p b' → b' ≤ b + 13 → Q v H'
def spAround (K : PySem.W.Frag) : Sp := fun vs H Q _ => ∃ (p : Pid) (most b : Int), vs = [.ref p.a, .int most] ∧ Pen K H p b ∧ 0 ≤ most ∧ most ≤ 10 ^ 99 ∧ b < 10 ^ 11 ∧
  ∀ (r : Int) (H' : Hp) (b' : Int), Ext p.a H H' → Pen K H' p b' → b' ≤ b + 13 → -most ≤ r → r ≤ most → Q (.int r) H'
def spPen (K : PySem.W.Frag) : Sp := fun vs H Q _ => ∃ (a : Addr) (ns : List Int), vs = [.ref a] ∧ SqL K H a (ns.map V.int) ∧ ∀ (p : Pid) (H' : Hp), Same H H' → H p.a = none → Pen K H' p 0 → Q (.ref p.a) H'
/-- a name: one to eight small letters -/
def NameOk (z : Str) : Prop := 1 ≤ z.length ∧ z.length ≤ 8 ∧ ∀ c ∈ z.cps.toList, 97 ≤ c ∧ c ≤ 122
def spNames (K : PySem.W.Frag) : Sp := fun vs H Q _ => ∃ (p : Pid) (many b : Int), vs = [.ref p.a, .int many] ∧ Pen K H p b ∧ 0 ≤ many ∧ many ≤ 52 ∧ b < 10 ^ 10 ∧
  ∀ (l : Addr) (zs : List Str) (H' : Hp) (b' : Int), Ext p.a H H' → H l = none → Pen K H' p b' → b' ≤ b + 1000 → H' l = some (.lst (zs.map V.str)) → (zs.length : Int) = many → (∀ z ∈ zs, NameOk z) → zs.Nodup → (many ≤ 26 → ∀ z ∈ zs, z.length ≤ 7) → Q (.ref l) H'
section
variable {P : Program} {w : World} {K : PySem.W.Frag} {mg : Str → Option Value} {base : Heap}
theorem SeqOf.ext {p : Addr} {H H' : Hp} {o : V} {xs : List V} (e : Ext p H H') (h : SeqOf K H o xs) : SeqOf K H' o xs := by
  rcases h with ⟨a, ea, h | h⟩ | h
  · exact .inl ⟨a, ea, .inl (e.l h)⟩
  · exact .inl ⟨a, ea, .inr (e.t h)⟩
  · exact .inr h
theorem k_draw (T : Tx K mg) : Cal P w K mg base 13 (He.ga K "_law_draw") T.fd_draw P_draw (spDraw K) :=
  ⟨(ok_draw T 13).imp fun vs H Q E ⟨p, many, b, e, hP, h0, h1, hb, q⟩ => ⟨p, many, b, e, hP, h0, Int.le_trans h1 (by decide +kernel), by omega, (show b + (12 : Int) < 10 ^ 12 by omega), fun r H' b' x1 x2 (x3 : b' ≤ b + (12 : Int) + 1) => q r H' b' x1 x2 (by omega)⟩, T.fn_draw.kp, FunD.bindsN T.fn_draw fun _ _ _ _ _ _ us hl => match us, hl with | [_, _], _ => rfl⟩
theorem k_pick (T : Tx K mg) : Cal P w K mg base 14 (He.ga K "_law_pick") T.fd_pick P_pick (spPick K) := by
  have c_draw := k_draw (P := P) (w := w) (base := base) T
  refine ⟨T.fn_pick.ok sc_pick (fun vs H Q E h => ?_) (fun cdv A outer s H vs Q E hr h => ?_), T.fn_pick.kp, FunD.bindsN T.fn_pick fun _ _ _ _ _ _ us hl => match us, hl with | [_, _], _ => rfl⟩
  · obtain ⟨p, o, xs, b, rfl, _⟩ := h
    rfl
  · obtain ⟨p, o, xs, b, rfl, hP, hS, hne, hlen, hb, q⟩ := h
    refine ⟨_, PSs.nox (pss_one (ps_ret (pe_ix ix_seq (pv 1) (pe_call c_draw.F (hr.mono (by decide)) (by rfl) T.g_draw c_draw.kp c_draw.b .nil pass0 (pa_cons (pv 0) (pa_cons (pe_callB call_len (by rfl) T.b_len PySem.boot_len (pa_cons (pv 1) pa_nil)) pa_nil))) (fun _ _ => rfl)))), ?_⟩
    have lp : 0 < xs.length := List.length_pos_iff.mpr hne
    have hlv : LenV K o H xs.length := by
      rcases hS with ⟨a, rfl, h | h⟩ | ⟨z, rfl, hz, rfl⟩
      · exact .inl ⟨xs, h, rfl⟩
      · exact .inr ⟨xs, h, rfl⟩
      · exact ⟨Nat.le_trans hz (by rw [sizeLine_eq]; decide), by rw [List.length_map]; rfl⟩
    refine ⟨o, rfl, .ref p.a, rfl, o, rfl, o, xs.length, rfl, hlv, p, _, b, rfl, hP, by omega, by omega, hb, fun r H' b' e1 hP1 hb1 r0 r1 => ?_⟩
    obtain ⟨i, rfl⟩ := Int.eq_ofNat_of_zero_le r0
    have hi : i < xs.length := by omega
    have fin : Q xs[i] H' := q _ (List.getElem_mem hi) H' b' e1 hP1 hb1
    rcases hS.ext e1 with ⟨a, rfl, h | h⟩ | ⟨z, rfl, hz, rfl⟩
    · exact .inl ⟨a, xs, i, xs[i], rfl, rfl, h, atI_nat (List.getElem?_eq_getElem hi), fin⟩
    · exact .inr (.inl ⟨a, xs, i, xs[i], rfl, rfl, h, atI_nat (List.getElem?_eq_getElem hi), fin⟩)
    · rw [List.length_map] at hi
      refine .inr (.inr ⟨z, i, z.cps.toList[i], rfl, rfl, Nat.le_trans hz (by rw [sizeLine_eq]; decide), atI_nat (List.getElem?_eq_getElem hi), ?_⟩)
      rw [List.getElem_map] at fin
      exact fin
theorem k_around (T : Tx K mg) : Cal P w K mg base 14 (He.ga K "_law_around") T.fd_around P_around (spAround K) := by
  have c_draw := k_draw (P := P) (w := w) (base := base) T
  refine ⟨T.fn_around.ok sc_around (fun vs H Q E h => ?_) (fun cdv A outer s H vs Q E hr h => ?_), T.fn_around.kp, FunD.bindsN T.fn_around fun _ _ _ _ _ _ us hl => match us, hl with | [_, _], _ => rfl⟩
  · obtain ⟨p, most, b, rfl, _⟩ := h
    rfl
  · obtain ⟨p, most, b, rfl, hP, h0, h1, hb, q⟩ := h
    refine ⟨_, PSs.nox (pss_one (ps_ret (pe_op op_sub (pe_call c_draw.F (hr.mono (by decide)) (by rfl) T.g_draw c_draw.kp c_draw.b .nil pass0 (pa_cons (pv 0) (pa_cons (pe_op op_add (pe_op op_mulB pe_int (pv 1)) pe_int) pa_nil))) (pv 1)))), ?_⟩
    refine ⟨.ref p.a, rfl, .int most, rfl, 2, most, rfl, rfl, by walk_at "sc", _, 1, rfl, rfl, p, 2 * most + 1, b, rfl, hP, by omega, by omega, hb, fun r H' b' e1 hP1 hb1 r0 r1 => ?_⟩
    exact ⟨.int most, rfl, r, most, rfl, rfl, q (r - most) H' b' e1 hP1 hb1 (by omega) (by omega)⟩
theorem k_pen (T : Tx K mg) : Cal P w K mg base 1 (He.ga K "_law_pen") T.fd_pen P_pen (spPen K) := by
  refine ⟨T.fn_pen.ok sc_pen (fun vs H Q E h => ?_) (fun cdv A outer s H vs Q E hr h => ?_), T.fn_pen.kp, FunD.bindsN T.fn_pen fun _ _ _ _ _ _ us hl => match us, hl with | [_], _ => rfl⟩
  · obtain ⟨a, ns, rfl, _⟩ := h
    rfl
  · obtain ⟨a, ns, rfl, hS, q⟩ := h
    refine ⟨_, PSs.nox (pss_one (ps_ret (pe_disp (pps_cons pe_str (pe_callTy call_list_of (by rfl) T.b_list (by decide +kernel) (pa_cons (pe_slice sl_list (pv 0) po_none (po_some pe_int)) pa_nil)) (pps_cons pe_str pe_int (pps_cons pe_str pe_int pps_nil))) (by rfl) (by rfl) (fun z => by cases z) (by decide)))), ?_⟩
    intro p np
    refine ⟨.ref a, rfl, 63, rfl, a, _, rfl, (Same.new np).seq hS, fun c nc => ?_⟩
    refine ⟨c, _, rfl, .inl (SqL.of upd_same), fun l nl => ?_⟩
    have hpc : p ≠ c := ne_of_none upd_same nc
    have hpl : p ≠ l := ne_of_none (by rw [upd_ne hpc]; exact upd_same) nl
    have hcl : c ≠ l := ne_of_none upd_same nl
    refine ⟨?_, [(.inr "cells", .ref l), (.inr "begun", .int 0), (.inr "rest", .int 0)], rfl, by show 3 ≤ 15; decide, ?_⟩
    · rw [upd_ne hpl, upd_ne hpc]
      exact upd_same
    · have cut : cutV (ns.map V.int) none (some 63) = (ns.take 63).map V.int := by
        unfold cutV
        rw [HT.sIx_none, show HT.sIx (ns.map V.int).length (ns.map V.int).length (some 63) = min 63 (ns.map V.int).length from HT.sIx_nat _ _ 63]
        rw [List.drop_zero, Nat.sub_zero, List.map_take]
        rw [List.take_eq_take_iff]
        omega
      refine q ⟨p, l, ns.take 63⟩ _ (fun x o hx => ?_) np ⟨0, upd_same, .inl (.inl ?_), by show (ns.take 63).length ≤ 63; rw [List.length_take]; omega, by omega, by omega⟩
      · have xp : x ≠ p := ne_of_none hx np
        have h1 : (upd H p (.dK [])) x = some o := by
          rw [upd_ne xp]
          exact hx
        have xc : x ≠ c := ne_of_none h1 nc
        have h2 : (upd (upd H p (.dK [])) c (.lst (cutV (ns.map V.int) none (some 63)))) x = some o := by
          rw [upd_ne xc]
          exact h1
        rw [upd_ne xp, upd_ne (ne_of_none h2 nl)]
        exact h2
      · show (upd _ p _) l = _
        rw [upd_ne hpl.symm, upd_same, cut]
end
end KP

namespace KP
open PySem PySem.Spec PyProof.Rows L2
local macro_rules | `(tactic| walk_at "sc") => `(tactic| first | (show (0 : Int) < _; decide) | (show (0 : Int) < _; omega) | (refine ⟨?_, ?_, ?_, ?_⟩ <;> (first | omega | (unfold Big; omega))) | (refine ⟨?_, ?_, ?_⟩ <;> (first | omega | (unfold Big; omega))) | (refine ⟨?_, ?_⟩ <;> (first | omega | (unfold Big; omega))))
/-! ### names: the mathematics -/
def abc : Str := "abcdefghijklmnopqrstuvwxyz"
def abcL : List Nat := (List.range 26).map (97 + ·)
theorem abc_tl : abc.cps.toList = abcL := by decide +kernel
theorem abc_at {i : Nat} (h : i < 26) : abc.cps.toList[i]? = some (97 + i) := by
  rw [abc_tl]
  unfold abcL
  rw [List.getElem?_map, List.getElem?_range h]
  rfl
theorem mem_abc {c : Nat} (h : c ∈ abc.cps.toList) : 97 ≤ c ∧ c ≤ 122 := by
  rw [abc_tl] at h
  obtain ⟨i, hi, rfl⟩ := List.mem_map.mp h
  have := List.mem_range.mp hi
  omega
abbrev Let (c : Nat) : Prop := 97 ≤ c ∧ c ≤ 122
def steps : List Int := [1, 3, 5, 7, 9, 11, 15, 17, 19, 21, 23, 25]
/-- the k-th name: stem and own letter, behind it a sign from the 26-th on -/
def NameAt (S : List Nat) (front step : Int) (k : Nat) (z : Str) : Prop := ∃ (c : Nat) (t : List Nat), (c : Int) = 97 + (front + step * k) % 26 ∧ z.cps.toList = (if S.length % 2 = 0 then S ++ [c] else [c] ++ S) ++ t ∧ (k < 26 → t = []) ∧ (26 ≤ k → ∃ d, Let d ∧ t = [d])
theorem nameAt_ok {S : List Nat} {front step : Int} {k : Nat} {z : Str} (hS : S.length ≤ 6) (hL : ∀ c ∈ S, Let c) (h : NameAt S front step k z) : NameOk z := by
  obtain ⟨c, t, hc, hz, h1, h2⟩ := h
  have cl : Let c := by
    have a := Int.emod_nonneg (front + step * k) (show (26 : Int) ≠ 0 by decide)
    have b := Int.emod_lt_of_pos (front + step * k) (show (0 : Int) < 26 by decide)
    constructor <;> omega
  have tl1 : t.length ≤ 1 ∧ ∀ d ∈ t, Let d := by
    by_cases hk : k < 26
    · rw [h1 hk]
      exact ⟨Nat.zero_le _, fun d hd => nomatch hd⟩
    · obtain ⟨d, hd, rfl⟩ := h2 (by omega)
      exact ⟨Nat.le_refl _, fun e he => by
        rw [List.mem_singleton.mp he]
        exact hd⟩
  have len : z.length = S.length + 1 + t.length := by
    show z.cps.size = _
    rw [← Array.length_toList, hz]
    split <;> simp <;> omega
  refine ⟨by omega, by omega, fun d hd => ?_⟩
  rw [hz] at hd
  rcases List.mem_append.mp hd with hd | hd
  · split at hd
    · rcases List.mem_append.mp hd with hd | hd
      · exact hL d hd
      · rw [List.mem_singleton.mp hd]
        exact cl
    · rcases List.mem_append.mp hd with hd | hd
      · rw [List.mem_singleton.mp hd]
        exact cl
      · exact hL d hd
  · exact tl1.2 d hd
theorem nameAt_7 {S : List Nat} {front step : Int} {k : Nat} {z : Str} (hS : S.length ≤ 6) (hk : k < 26) (h : NameAt S front step k z) : z.length ≤ 7 := by
  obtain ⟨c, t, hc, hz, h1, h2⟩ := h
  rw [h1 hk] at hz
  show z.cps.size ≤ 7
  rw [← Array.length_toList, hz]
  split <;> simp <;> omega
theorem step_apart {step : Int} (hs : step ∈ steps) {front : Int} {i j : Nat} (hij : i < j) (hd : j < i + 26) (e : (front + step * i) % 26 = (front + step * j) % 26) : False := by
  have hm : (step * ((j : Int) - i)) % 26 = 0 := by
    have h1 : (front + step * j - (front + step * i)) % 26 = 0 := by omega
    have h2 : front + step * j - (front + step * i) = step * ((j : Int) - i) := by
      rw [Int.mul_sub]
      omega
    rw [h2] at h1
    exact h1
  obtain ⟨m, hm1⟩ : ∃ m : Nat, (j : Int) - i = m := ⟨j - i, by omega⟩
  rw [hm1] at hm
  have hm0 : 0 < m ∧ m < 26 := by omega
  have key : ∀ s ∈ steps, ∀ m : Nat, m < 26 → 0 < m → ¬ (s * (m : Int)) % 26 = 0 := by decide +kernel
  exact key step hs m hm0.2 hm0.1 hm
theorem base_inj {S : List Nat} {c d : Nat} (h : (if S.length % 2 = 0 then S ++ [c] else [c] ++ S) = (if S.length % 2 = 0 then S ++ [d] else [d] ++ S)) : c = d := by
  split at h
  · have := List.append_cancel_left h
    simpa using this
  · have := List.append_cancel_right h
    simpa using this
theorem nameAt_ne {S : List Nat} {front step : Int} (hs : step ∈ steps) {i j : Nat} (hij : i < j) (hj : j < 52) {y z : Str} (hy : NameAt S front step i y) (hz : NameAt S front step j z) : y ≠ z := fun e => by
  subst e
  obtain ⟨c, t, hc, e1, t1, t2⟩ := hy
  obtain ⟨d, u, hd, e2, u1, u2⟩ := hz
  have ee := e1.symm.trans e2
  have bl : ∀ x : Nat, (if S.length % 2 = 0 then S ++ [x] else [x] ++ S).length = S.length + 1 := fun x => by
    split <;> simp
  have ll : t.length = u.length := by
    have := congrArg List.length ee
    rw [List.length_append, List.length_append, bl, bl] at this
    omega
  have near : j < i + 26 := by
    by_cases hi : i < 26
    · by_cases hj2 : j < 26
      · omega
      · obtain ⟨x, _, rfl⟩ := u2 (by omega)
        rw [t1 hi] at ll
        simp at ll
    · omega
  have cd : c = d := by
    have := List.append_inj_left ee (by rw [bl, bl])
    exact base_inj this
  refine step_apart hs hij near (front := front) ?_
  have : (c : Int) = d := by rw [cd]
  omega
theorem names_nodup {S : List Nat} {front step : Int} (hs : step ∈ steps) {zs : List Str} (hl : zs.length ≤ 52) (h : ∀ (i : Nat) (z : Str), zs[i]? = some z → NameAt S front step i z) : zs.Nodup := by
  rw [List.Nodup, List.pairwise_iff_getElem]
  intro i j hi hj hij
  exact nameAt_ne hs hij (by omega) (h i _ (List.getElem?_eq_getElem hi)) (h j _ (List.getElem?_eq_getElem hj))
theorem join_ones : ∀ ys : List Str, (∀ y ∈ ys, ∃ c, Let c ∧ y = ⟨#[c]⟩) → (Txt.join "" ys).cps.toList.length = ys.length ∧ ∀ c ∈ (Txt.join "" ys).cps.toList, Let c := by
  intro ys h
  have key : ∀ ys : List Str, (∀ y ∈ ys, ∃ c, Let c ∧ y = ⟨#[c]⟩) → (TL.joinL [] (ys.map TL.tl)).length = ys.length ∧ ∀ c ∈ TL.joinL [] (ys.map TL.tl), Let c := by
    intro ys
    induction ys with
    | nil => exact fun _ => ⟨rfl, fun c hc => nomatch hc⟩
    | cons y r ih =>
      intro h
      obtain ⟨c, hc, rfl⟩ := h y (List.mem_cons_self ..)
      have ih2 := ih fun z hz => h z (List.mem_cons_of_mem _ hz)
      cases r with
      | nil =>
        refine ⟨rfl, fun d hd => ?_⟩
        have hd2 : d ∈ [c] := hd
        rw [List.mem_singleton.mp hd2]
        exact hc
      | cons z r =>
        have e : TL.joinL [] (((⟨#[c]⟩ : Str) :: z :: r).map TL.tl) = [c] ++ ([] ++ TL.joinL [] ((z :: r).map TL.tl)) := rfl
        rw [e]
        refine ⟨by rw [List.length_append, List.nil_append, ih2.1]; simp; omega, fun d hd => ?_⟩
        rcases List.mem_append.mp hd with hd | hd
        · rw [List.mem_singleton.mp hd]
          exact hc
        · exact ih2.2 d hd
  have e : (Txt.join "" ys).cps.toList = TL.joinL [] (ys.map TL.tl) := by
    rw [TL.join_eq]
    exact TL.tl_join "" ys
  rw [e]
  exact key ys h
section
variable {P : Program} {w : World} {K : PySem.W.Frag} {mg : Str → Option Value} {base : Heap}
theorem seq_abc (H : Hp) : SeqOf K H (.str abc) (abc.cps.toList.map fun c => .str ⟨#[c]⟩) := .inr ⟨abc, rfl, by decide +kernel, rfl⟩
theorem abc_ne : (abc.cps.toList.map fun c => V.str ⟨#[c]⟩) ≠ [] := by
  rw [abc_tl]
  intro h
  cases h
theorem abc_len : (abc.cps.toList.map fun c => V.str ⟨#[c]⟩).length ≤ 1000 := by
  rw [List.length_map, abc_tl]
  decide
theorem abc_mem {v : V} (h : v ∈ abc.cps.toList.map fun c => V.str ⟨#[c]⟩) : ∃ c, Let c ∧ v = .str ⟨#[c]⟩ := by
  obtain ⟨c, hc, rfl⟩ := List.mem_map.mp h
  exact ⟨c, mem_abc hc, rfl⟩
theorem str_add (x y : Str) : (x ++ y).cps.toList = x.cps.toList ++ y.cps.toList := TL.tl_append x y
theorem len_tl (x : Str) : x.length = x.cps.toList.length := by
  show x.cps.size = _
  rw [Array.length_toList]
theorem ones_sum : ∀ ys : List Str, (∀ y ∈ ys, ∃ c, Let c ∧ y = ⟨#[c]⟩) → (ys.map (·.length)).sum = ys.length
  | [], _ => rfl
  | y :: r, h => by
    obtain ⟨c, _, rfl⟩ := h y (List.mem_cons_self ..)
    have ih := ones_sum r fun z hz => h z (List.mem_cons_of_mem _ hz)
    rw [List.map_cons, List.sum_cons, ih, List.length_cons]
    show 1 + r.length = r.length + 1
    omega
theorem k_names (T : Tx K mg) : Cal P w K mg base 15 (He.ga K "_law_names") T.fd_names P_names (spNames K) := by
  have c_draw := k_draw (P := P) (w := w) (base := base) T
  have c_pick := k_pick (P := P) (w := w) (base := base) T
  refine ⟨T.fn_names.ok sc_names (fun vs H Q E h => ?_) (fun cdv A outer s H vs Q E hr h => ?_), T.fn_names.kp, FunD.bindsN T.fn_names fun _ _ _ _ _ _ us hl => match us, hl with | [_, _], _ => rfl⟩
  · obtain ⟨p, many, b, rfl, _⟩ := h
    rfl
  · obtain ⟨p, many, b, rfl, hP, h0, h1, hb, q⟩ := h
    refine ⟨_, PSs.nox (pss_cons (ps_set (i := 2) sc_names.nd rfl (Or.inr rfl) pe_str)
      (pss_cons (ps_set (i := 3) sc_names.nd rfl (Or.inl rfl) (pe_join pe_str (pe_lc (own := [("_law_k", 7)]) (by rfl) sc_names.nd (pi_range1 (by rfl) T.b_range (pa_cons (pe_call c_draw.F (hr.mono (by decide)) (by rfl) T.g_draw c_draw.kp c_draw.b .nil pass0 (pa_cons (pv 0) (pa_cons pe_int pa_nil))) pa_nil)) (blkOk_by (own := [("_law_k", 7)]) (N := N_names) (sc := defScope s_names) (by decide +kernel)) (fun _ _ _ _ _ => pg_name (i := 7) sc_names.nd rfl (Or.inl rfl)) (fun _ _ _ _ _ => pts_nil) (fun _ _ _ _ _ => (pe_call c_pick.F (hr.mono (by decide)) (by rfl) T.g_pick c_pick.kp c_pick.b .nil pass0 (pa_cons (pv 0) (pa_cons (pv 2) pa_nil)))))))
      (pss_cons (ps_par (by rfl) sc_names.nd (i := 4) (j := 5) rfl rfl (by decide) rfl rfl (pa_cons (pe_call c_draw.F (hr.mono (by decide)) (by rfl) T.g_draw c_draw.kp c_draw.b .nil pass0 (pa_cons (pv 0) (pa_cons pe_int pa_nil))) (pa_cons (pe_lst pa_nil) pa_nil)) (by rfl))
      (pss_cons (ps_set (i := 6) sc_names.nd rfl (Or.inl rfl) (pe_call c_pick.F (hr.mono (by decide)) (by rfl) T.g_pick c_pick.kp c_pick.b .nil pass0 (pa_cons (pv 0) (pa_cons (pe_lst (pa_cons pe_int (pa_cons pe_int (pa_cons pe_int (pa_cons pe_int (pa_cons pe_int (pa_cons pe_int (pa_cons pe_int (pa_cons pe_int (pa_cons pe_int (pa_cons pe_int (pa_cons pe_int (pa_cons pe_int pa_nil))))))))))))) pa_nil))))
      (pss_cons (ps_for PassesOwn.never rfl (pi_range1 (by rfl) T.b_range (pa_cons (pv 1) pa_nil)) (pg_name (i := 7) sc_names.nd rfl (Or.inl rfl))
      (pss_cons (ps_set (i := 8) sc_names.nd rfl (Or.inl rfl) (pe_ix ix_str (pv 2) (pe_op op_mod (pe_callTy call_int1 (by rfl) T.b_int PyProof.Rows.boot_int (pa_cons (pe_op op_add (pv 4) (pe_op op_mulB (pv 6) (pv 7))) pa_nil)) pe_int) (fun _ _ => rfl)))
      (pss_cons (ps_set (i := 9) sc_names.nd rfl (Or.inl rfl) (pcutE (pe_ifExp (pt_cmpR op_lt (pv 7) pe_int (nomark _)) pe_str (pe_call c_pick.F (hr.mono (by decide)) (by rfl) T.g_pick c_pick.kp c_pick.b .nil pass0 (pa_cons (pv 0) (pa_cons (pv 2) pa_nil))))))
      (pss_one (ps_expr (pe_bm PySem.F.plainAttrs_list PySem.F.slot_list_append PySem.F.type_list_append mt_append (pv 5) (pa_cons (pe_op op_add_str (pe_ix ix_list (pe_lst (pa_cons (pe_op op_add_str (pv 3) (pv 8)) (pa_cons (pe_op op_add_str (pv 8) (pv 3)) pa_nil))) (pe_op op_mod (pe_callB call_len_str (by rfl) T.b_len PySem.boot_len (pa_cons (pv 3) pa_nil)) pe_int) (fun _ _ => rfl)) (pv 9)) pa_nil)))))))
      (pss_one (ps_ret (pv 5)))))))), ?_⟩
    -- the stem
    refine ⟨⟨_, rfl⟩, .ref p.a, rfl, p, 7, b, rfl, hP, by decide, by decide, by omega, fun n H1 b1 e1 hP1 hb1 n0 n1 => ⟨n, rfl, by omega, by omega, fun Dl nD => ?_⟩⟩
    refine lc_range (lo := 0) (n := n.toNat) (fun i H' => ∃ (ys : List Str) (b' : Int), H' Dl = some (.lst (ys.map V.str)) ∧ ys.length = i ∧ (∀ y ∈ ys, ∃ c, Let c ∧ y = ⟨#[c]⟩) ∧ Ext p.a H1 H' ∧ Pen K H' p b' ∧ b' ≤ b1 + 13 * i) ?_ ?_ ?_
    · exact ⟨[], b1, upd_same, rfl, fun y hy => (nomatch hy), Ext.new hP1.is_ nD, hP1.new nD, by omega⟩
    · rintro i H' hi ⟨ys, b', hD, hyl, hy, e2, hP2, hb2⟩
      refine ⟨rfl, .ref p.a, rfl, .str abc, rfl, p, .str abc, _, b', rfl, hP2, seq_abc H', abc_ne, abc_len, by omega, fun v hv H3 b3 e3 hP3 hb3 => ?_⟩
      obtain ⟨c, hc, rfl⟩ := abc_mem hv
      have hD3 : H3 Dl = some (.lst (ys.map V.str)) := e3.at hD fun _ z => nomatch z
      refine ⟨_, hD3, ?_, ys ++ [⟨#[c]⟩], b3, ?_, by simp; omega, fun y hy2 => ?_, ?_, ?_, by omega⟩
      · rw [List.length_map, sizeLine_eq]
        omega
      · rw [upd_same, List.map_append]
        rfl
      · rcases List.mem_append.mp hy2 with z | z
        · exact hy y z
        · exact ⟨c, hc, List.mem_singleton.mp z⟩
      · exact (e2.trans e3).mut nD
      · exact hP3.mut hP1 nD
    · rintro H2 ⟨ys, b2, hD2, hyl, hy, e2, hP2, hb2⟩
      obtain ⟨jl, jm⟩ := join_ones ys hy
      refine ⟨"", Dl, ys, rfl, rfl, .inl (SqL.of hD2), ?_, ?_⟩
      · rw [ones_sum ys hy]
        show ys.length + ys.length * 0 ≤ 16777216
        omega
      generalize Txt.join "" ys = stem at jl jm ⊢
      have sl : stem.cps.toList.length ≤ 6 := by omega
      have sl2 : stem.length ≤ 6 := by
        rw [len_tl]
        exact sl
      clear hD2 hy
      -- front, found
      refine ⟨.ref p.a, rfl, p, 26, b2, rfl, hP2, by decide, by decide, by omega, fun front H3 b3 e3 hP3 hb3 f0 f1 => ?_⟩
      refine ⟨Nat.zero_le _, fun l nl => ⟨_, _, rfl, ?_⟩⟩
      have nlH : H l = none := e1.back (e2.back (e3.back nl))
      have e4 : Ext p.a H (upd H3 l (.lst [])) := (e1.trans (e2.trans e3)).trans (Ext.new hP3.is_ nl)
      have hP4 : Pen K (upd H3 l (.lst [])) p b3 := hP3.new nl
      have hl4 : (upd H3 l (.lst [])) l = some (.lst []) := upd_same
      generalize upd H3 l (.lst []) = H4 at e4 hP4 hl4 ⊢
      -- step
      refine ⟨.ref p.a, rfl, by show 12 ≤ sizeLine; rw [sizeLine_eq]; decide, fun t nt => ?_⟩
      refine ⟨p, .ref t, steps.map V.int, b3, rfl, hP4.new nt, .inl ⟨t, rfl, .inl (SqL.of upd_same)⟩, by decide, by decide, by omega, fun v hv H5 b5 e5 hP5 hb5 => ?_⟩
      obtain ⟨step, hst, rfl⟩ := List.mem_map.mp hv
      have st1 : 1 ≤ step ∧ step ≤ 25 := by
        have key : ∀ s ∈ steps, 1 ≤ s ∧ s ≤ 25 := by decide
        exact key step hst
      have e6 : Ext p.a H H5 := e4.trans ((Ext.new hP4.is_ nt).trans e5)
      have hl5 : H5 l = some (.lst []) := e5.at (show (upd H4 t _) l = some (.lst []) by rw [upd_ne (ne_of_none hl4 nt)]; exact hl4) fun _ z => nomatch z
      -- the loop
      refine ⟨.int many, rfl, many, rfl, by omega, by omega, ?_⟩
      refine for_range (lo := 0) (n := many.toNat) (fun i σ' H' => ∃ (y7 y8 y9 : Option V) (zs : List Str) (b' : Int), σ' = [some (.ref p.a), some (.int many), some (.str abc), some (.str stem), some (.int front), some (.ref l), some (.int step), y7, y8, y9] ∧
        Ext p.a H H' ∧ Pen K H' p b' ∧ b' ≤ b5 + 13 * i ∧ H' l = some (.lst (zs.map V.str)) ∧ zs.length = i ∧ ∀ (j : Nat) (z : Str), zs[j]? = some z → NameAt stem.cps.toList front step j z) ?_ ?_ ?_
      · exact ⟨none, none, none, [], b5, rfl, e6, hP5, by omega, hl5, rfl, fun j z hz => (nomatch hz)⟩
      · rintro i σ' H' hi ⟨y7, y8, y9, zs, b', rfl, eH, hPH, hbH, hlH, hzl, hz⟩
        have hi2 : (i : Int) < many := by omega
        have m0 : 0 ≤ (front + step * (0 + (i : Int))) % 26 := Int.emod_nonneg _ (by decide)
        have m1 : (front + step * (0 + (i : Int))) % 26 < 26 := Int.emod_lt_of_pos _ (by decide)
        have si : step * (0 + (i : Int)) ≤ 25 * 52 := by
          have : step * (0 + (i : Int)) ≤ 25 * (0 + (i : Int)) := Int.mul_le_mul_of_nonneg_right st1.2 (by omega)
          omega
        obtain ⟨j, hj⟩ := Int.eq_ofNat_of_zero_le m0
        have j26 : j < 26 := by omega
        -- own
        refine ⟨.str abc, rfl, .int front, rfl, .int step, rfl, _, rfl, step, _, rfl, rfl, by walk_at "sc", _, _, rfl, rfl, .inl ⟨_, rfl, _, 26, rfl, rfl, by walk_at "sc", abc, _, 97 + j, rfl, rfl, by decide +kernel, ?_, ?_⟩⟩
        · rw [hj]
          exact atI_nat (abc_at j26)
        -- tail
        refine ⟨fun v H6 => ∃ (u : Str) (b6 : Int), v = .str u ∧ Ext p.a H' H6 ∧ Pen K H6 p b6 ∧ b6 ≤ b' + 13 ∧ u.length ≤ 1 ∧ (i < 26 → u.cps.toList = []) ∧ (26 ≤ i → ∃ d, Let d ∧ u.cps.toList = [d]), ?_, ?_⟩
        · refine ⟨_, rfl, _, 26, rfl, rfl, _, rfl, ite2 (fun e => ?_) (fun e => ?_)⟩
          · have lt := of_decide_eq_true e
            exact ⟨"", b', rfl, Ext.refl hPH.is_, hPH, by omega, by decide, fun _ => rfl, fun z => absurd z (by omega)⟩
          · have ge := of_decide_eq_false (Bool.eq_false_iff.mpr e)
            refine ⟨.ref p.a, rfl, .str abc, rfl, p, .str abc, _, b', rfl, hPH, seq_abc H', abc_ne, abc_len, by omega, fun v hv H6 b6 e6 hP6 hb6 => ?_⟩
            obtain ⟨c, hc, rfl⟩ := abc_mem hv
            exact ⟨⟨#[c]⟩, b6, rfl, e6, hP6, hb6, Nat.le_refl _, fun z => absurd z (by omega), fun _ => ⟨c, hc, rfl⟩⟩
        · rintro v H6 ⟨u, b6, rfl, e7, hP6, hb6, ul, u1, u2⟩
          have hl6 : H6 l = some (.lst (zs.map V.str)) := e7.at hlH fun _ z => nomatch z
          have sz : ∀ {n : Nat}, n ≤ 1000 → n ≤ sizeLine := fun h => Nat.le_trans h (by rw [sizeLine_eq]; decide)
          have ol : (⟨#[97 + j]⟩ : Str).length = 1 := rfl
          have l1 : (stem ++ (⟨#[97 + j]⟩ : Str)).length = stem.length + 1 := by
            rw [len_tl, str_add, List.length_append, ← len_tl, ← len_tl, ol]
          have l2 : ((⟨#[97 + j]⟩ : Str) ++ stem).length = 1 + stem.length := by
            rw [len_tl, str_add, List.length_append, ← len_tl, ← len_tl, ol]
          -- found.append([stem + own, own + stem][len(stem) % 2] + tail)
          refine ⟨.ref l, rfl, .inl ⟨rfl, _, .inl (.inl hl6)⟩, .str stem, rfl, _, rfl, stem, _, rfl, rfl, sz (by rw [ol]; omega), _, rfl, .str stem, rfl, _, stem, rfl, rfl, sz (by rw [ol]; omega), by show 2 ≤ sizeLine; rw [sizeLine_eq]; decide, fun t nt => ?_⟩
          have e8 : Ext p.a H6 (upd H6 t (.lst [.str (stem ++ (⟨#[97 + j]⟩ : Str)), .str ((⟨#[97 + j]⟩ : Str) ++ stem)])) := Ext.new hP6.is_ nt
          have ht8 : (upd H6 t (.lst [.str (stem ++ (⟨#[97 + j]⟩ : Str)), .str ((⟨#[97 + j]⟩ : Str) ++ stem)])) t = some (.lst [.str (stem ++ (⟨#[97 + j]⟩ : Str)), .str ((⟨#[97 + j]⟩ : Str) ++ stem)]) := upd_same
          have hP8 := hP6.new (o := .lst [.str (stem ++ (⟨#[97 + j]⟩ : Str)), .str ((⟨#[97 + j]⟩ : Str) ++ stem)]) nt
          have hl8 := e8.at hl6 fun _ z => nomatch z
          generalize upd H6 t (.lst [.str (stem ++ (⟨#[97 + j]⟩ : Str)), .str ((⟨#[97 + j]⟩ : Str) ++ stem)]) = H8 at e8 ht8 hP8 hl8 ⊢
          refine ⟨.str stem, rfl, stem, rfl, sz (by omega), _, 2, rfl, rfl, by walk_at "sc", t, _, _, .str (if stem.cps.toList.length % 2 = 0 then stem ++ (⟨#[97 + j]⟩ : Str) else (⟨#[97 + j]⟩ : Str) ++ stem), rfl, rfl, SqL.of ht8, ?_, ?_⟩
          · have el := len_tl stem
            by_cases ev : stem.cps.toList.length % 2 = 0
            · rw [if_pos ev, show ((stem.length : Int) % 2) = ((0 : Nat) : Int) by omega]
              exact atI_nat rfl
            · rw [if_neg ev, show ((stem.length : Int) % 2) = ((1 : Nat) : Int) by omega]
              exact atI_nat rfl
          · have lb : (if stem.cps.toList.length % 2 = 0 then stem ++ (⟨#[97 + j]⟩ : Str) else (⟨#[97 + j]⟩ : Str) ++ stem).length ≤ 7 := by
              split <;> omega
            have tb : (if stem.cps.toList.length % 2 = 0 then stem ++ (⟨#[97 + j]⟩ : Str) else (⟨#[97 + j]⟩ : Str) ++ stem).cps.toList = (if stem.cps.toList.length % 2 = 0 then stem.cps.toList ++ [97 + j] else [97 + j] ++ stem.cps.toList) := by
              split <;> rw [str_add]
            generalize (if stem.cps.toList.length % 2 = 0 then stem ++ (⟨#[97 + j]⟩ : Str) else (⟨#[97 + j]⟩ : Str) ++ stem) = nb at lb tb ⊢
            refine ⟨.str u, rfl, nb, u, rfl, rfl, sz (by omega), l, _, _, rfl, rfl, hl8, ?_, ?_⟩
            · rw [List.length_map, sizeLine_eq]
              omega
            · refine ⟨_, _, _, zs ++ [nb ++ u], b6, rfl, ((eH.trans e7).trans e8).mut nlH, hP8.mut hP nlH, by omega, ?_, by rw [List.length_append, hzl]; rfl, fun k z hk => ?_⟩
              · rw [upd_same, List.map_append]
                rfl
              · by_cases hkz : k < zs.length
                · rw [List.getElem?_append_left hkz] at hk
                  exact hz k z hk
                · rw [List.getElem?_append_right (by omega)] at hk
                  have k0 : k - zs.length = 0 := by
                    cases q0 : k - zs.length with
                    | zero => rfl
                    | succ n =>
                      rw [q0] at hk
                      cases hk
                  have ki : k = i := by omega
                  rw [k0] at hk
                  have zz : nb ++ u = z := Option.some.inj hk
                  subst zz
                  subst ki
                  refine ⟨97 + j, u.cps.toList, by rw [← show (0 : Int) + (k : Int) = k by omega]; omega, by rw [str_add, tb], u1, u2⟩
      · rintro σ' H' ⟨y7, y8, y9, zs, b', rfl, eH, hPH, hbH, hlH, hzl, hz⟩
        exact ⟨.ref l, rfl, q l zs H' b' eH nlH hPH (by omega) hlH (by omega) (fun z hzm => by
          obtain ⟨j, hj⟩ := List.mem_iff_getElem?.mp hzm
          exact nameAt_ok sl jm (hz j z hj)) (names_nodup hst (by omega) hz) (fun m z hzm => by
          obtain ⟨j, hj⟩ := List.mem_iff_getElem?.mp hzm
          have := (List.getElem?_eq_some_iff.mp hj).1
          exact nameAt_7 sl (by omega) (hz j z hj))⟩
end
end KP

namespace KP
open PySem PySem.Spec PyProof.Rows L2
local macro_rules | `(tactic| walk_at "sc") => `(tactic| first | (show (0 : Int) < _; decide) | (show (0 : Int) < _; omega) | (refine ⟨?_, ?_, ?_, ?_⟩ <;> (first | omega | (unfold Big; omega))) | (refine ⟨?_, ?_, ?_⟩ <;> (first | omega | (unfold Big; omega))) | (refine ⟨?_, ?_⟩ <;> (first | omega | (unfold Big; omega))))
/-! ### great numbers -/
def spPower : Sp := fun vs H Q _ => ∃ n : Nat, vs = [.int n] ∧ n ≤ 90 ∧ Q (.int (10 ^ n)) H
def spGreat (K : PySem.W.Frag) : Sp := fun vs H Q _ => ∃ (p : Pid) (n : Nat) (b : Int), vs = [.ref p.a, .int n] ∧ Pen K H p b ∧ 1 ≤ n ∧ n ≤ 90 ∧ b < 10 ^ 10 ∧
  ∀ (r : Int) (H' : Hp) (b' : Int), Ext p.a H H' → Pen K H' p b' → b' ≤ b + 100 → 0 ≤ r → r < 10 ^ n → Q (.int r) H'
theorem pow_le {n m : Nat} (h : n ≤ m) : (10 : Int) ^ n ≤ 10 ^ m := by
  have := Nat.pow_le_pow_right (show 0 < 10 by decide) h
  have e : ∀ k : Nat, (10 : Int) ^ k = ((10 ^ k : Nat) : Int) := fun k => by simp
  rw [e, e]
  omega
theorem pow_pos10 (n : Nat) : (1 : Int) ≤ 10 ^ n := by
  have := pow_le (Nat.zero_le n)
  simpa using this
section
variable {P : Program} {w : World} {K : PySem.W.Frag} {mg : Str → Option Value} {base : Heap}
theorem k_power (T : Tx K mg) : Cal P w K mg base 1 (He.ga K "_law_power") T.fd_power P_power spPower := by
  refine ⟨T.fn_power.ok sc_power (fun vs H Q E h => ?_) (fun cdv A outer s H vs Q E hr h => ?_), T.fn_power.kp, FunD.bindsN T.fn_power fun _ _ _ _ _ _ us hl => match us, hl with | [_], _ => rfl⟩
  · obtain ⟨n, rfl, _⟩ := h
    rfl
  · obtain ⟨n, rfl, hn, k⟩ := h
    refine ⟨_, PSs.nox (pss_cons (ps_set (i := 1) sc_power.nd rfl (Or.inl rfl) pe_int)
      (pss_cons (ps_for PassesOwn.never rfl (pi_range1 (by rfl) T.b_range (pa_cons (pv 0) pa_nil)) (pg_name (i := 2) sc_power.nd rfl (Or.inl rfl))
      (pss_one (ps_set (i := 1) sc_power.nd rfl (Or.inl rfl) (pe_op op_mulB (pv 1) pe_int))))
      (pss_one (ps_ret (pv 1))))), ?_⟩
    refine ⟨.int n, rfl, n, rfl, by omega, by omega, ?_⟩
    refine for_range (lo := 0) (n := n) (fun i σ' H' => ∃ y2 : Option V, σ' = [some (.int n), some (.int (10 ^ i)), y2] ∧ H' = H) ?_ ?_ ?_
    · exact ⟨none, rfl, rfl⟩
    · rintro i σ' H' hi ⟨y2, rfl, rfl⟩
      have h1 := pow_le (show i ≤ 90 by omega)
      have h2 := pow_pos10 i
      refine ⟨_, rfl, 10 ^ i, 10, rfl, rfl, by walk_at "sc", some (.int (0 + (i : Int))), ?_, rfl⟩
      rw [Int.pow_succ]
      rfl
    · rintro σ' H' ⟨y2, rfl, rfl⟩
      exact ⟨_, rfl, k⟩
theorem k_great (T : Tx K mg) : Cal P w K mg base 15 (He.ga K "_law_great") T.fd_great P_great (spGreat K) := by
  have c_draw := k_draw (P := P) (w := w) (base := base) T
  have c_pick := k_pick (P := P) (w := w) (base := base) T
  have c_power := k_power (P := P) (w := w) (base := base) T
  refine ⟨T.fn_great.ok sc_great (fun vs H Q E h => ?_) (fun cdv A outer s H vs Q E hr h => ?_), T.fn_great.kp, FunD.bindsN T.fn_great fun _ _ _ _ _ _ us hl => match us, hl with | [_, _], _ => rfl⟩
  · obtain ⟨p, n, b, rfl, _⟩ := h
    rfl
  · obtain ⟨p, n, b, rfl, hP, n1, n2, hb, k⟩ := h
    refine ⟨_, PSs.nox (pss_cons (ps_set (i := 2) sc_great.nd rfl (Or.inl rfl) (pe_call c_power.F (hr.mono (by decide)) (by rfl) T.g_power c_power.kp c_power.b .nil pass0 (pa_cons (pv 1) pa_nil)))
      (pss_cons (ps_set (i := 3) sc_great.nd rfl (Or.inl rfl) (pe_lst (pa_cons (pe_call c_draw.F (hr.mono (by decide)) (by rfl) T.g_draw c_draw.kp c_draw.b .nil pass0 (pa_cons (pv 0) (pa_cons pe_int pa_nil))) (pa_cons (pe_call c_draw.F (hr.mono (by decide)) (by rfl) T.g_draw c_draw.kp c_draw.b .nil pass0 (pa_cons (pv 0) (pa_cons (pv 2) pa_nil))) (pa_cons (pe_call c_draw.F (hr.mono (by decide)) (by rfl) T.g_draw c_draw.kp c_draw.b .nil pass0 (pa_cons (pv 0) (pa_cons (pv 2) pa_nil))) pa_nil)))))
      (pss_one (ps_ret (pe_call c_pick.F (hr.mono (by decide)) (by rfl) T.g_pick c_pick.kp c_pick.b .nil pass0 (pa_cons (pv 0) (pa_cons (pe_op op_cat (pv 3) (pe_lst (pa_cons (pe_op op_add (pe_op op_fdivB (pv 2) pe_int) (pe_call c_draw.F (hr.mono (by decide)) (by rfl) T.g_draw c_draw.kp c_draw.b .nil pass0 (pa_cons (pv 0) (pa_cons pe_int pa_nil)))) (pa_cons (pe_op op_sub (pe_op op_sub (pv 2) pe_int) (pe_call c_draw.F (hr.mono (by decide)) (by rfl) T.g_draw c_draw.kp c_draw.b .nil pass0 (pa_cons (pv 0) (pa_cons pe_int pa_nil)))) pa_nil)))) pa_nil))))))), ?_⟩
    refine ⟨.int n, rfl, n, rfl, n2, ?_⟩
    have m1 := pow_le n1
    have m2 := pow_le n2
    generalize (10 : Int) ^ n = most at m1 m2 k ⊢
    have m1' : 10 ≤ most := m1
    refine ⟨.ref p.a, rfl, p, 10, b, rfl, hP, by decide, by decide, by omega, fun r1 H1 b1 e1 hP1 hb1 r10 r11 => ?_⟩
    refine ⟨.ref p.a, rfl, .int most, rfl, p, most, b1, rfl, hP1, by omega, by omega, by omega, fun r2 H2 b2 e2 hP2 hb2 r20 r21 => ?_⟩
    refine ⟨.ref p.a, rfl, .int most, rfl, p, most, b2, rfl, hP2, by omega, by omega, by omega, fun r3 H3 b3 e3 hP3 hb3 r30 r31 => ?_⟩
    refine ⟨Nat.le_trans (show 3 ≤ 1000 by decide) (by rw [sizeLine_eq]; decide), fun l nl => ?_⟩
    have e4 : Ext p.a H3 (upd H3 l (.lst [.int r1, .int r2, .int r3])) := Ext.new hP3.is_ nl
    have hP4 := hP3.new (o := .lst [.int r1, .int r2, .int r3]) nl
    have hl : (upd H3 l (.lst [.int r1, .int r2, .int r3])) l = some (.lst [.int r1, .int r2, .int r3]) := upd_same
    generalize upd H3 l (.lst [.int r1, .int r2, .int r3]) = H4 at e4 hP4 hl ⊢
    refine ⟨.ref p.a, rfl, .ref l, rfl, .int most, rfl, most, 10, rfl, rfl, by walk_at "sc", .ref p.a, rfl, p, 7, b3, rfl, hP4, by decide, by decide, by omega, fun r4 H5 b5 e5 hP5 hb5 r40 r41 => ?_⟩
    refine ⟨_, _, rfl, rfl, .int most, rfl, most, 1, rfl, rfl, .ref p.a, rfl, p, 7, b5, rfl, hP5, by decide, by decide, by omega, fun r5 H6 b6 e6 hP6 hb6 r50 r51 => ?_⟩
    refine ⟨_, _, rfl, rfl, Nat.le_trans (show 2 ≤ 1000 by decide) (by rw [sizeLine_eq]; decide), fun u nu => ?_⟩
    have hl6 := (e5.trans e6).at hl fun _ z => nomatch z
    have e7 : Ext p.a H6 (upd H6 u (.lst [.int (most / 10 + r4), .int (most - 1 - r5)])) := Ext.new hP6.is_ nu
    have hP7 := hP6.new (o := .lst [.int (most / 10 + r4), .int (most - 1 - r5)]) nu
    have hu : (upd H6 u (.lst [.int (most / 10 + r4), .int (most - 1 - r5)])) u = some (.lst [.int (most / 10 + r4), .int (most - 1 - r5)]) := upd_same
    have hl7 := e7.at hl6 fun _ z => nomatch z
    generalize upd H6 u (.lst [.int (most / 10 + r4), .int (most - 1 - r5)]) = H7 at e7 hP7 hu hl7 ⊢
    refine ⟨l, u, _, _, rfl, rfl, hl7, hu, Nat.le_trans (show 5 ≤ 1000 by decide) (by rw [sizeLine_eq]; decide), fun v nv => ?_⟩
    refine ⟨p, .ref v, [.int r1, .int r2, .int r3, .int (most / 10 + r4), .int (most - 1 - r5)], b6, rfl, hP7.new nv, .inl ⟨v, rfl, .inl (SqL.of upd_same)⟩, (fun z => nomatch z), (show 5 ≤ 1000 by decide), by omega, fun x hx H8 b8 e8 hP8 hb8 => ?_⟩
    have e08 : Ext p.a H H8 := (e1.trans (e2.trans e3)).trans ((e4.trans (e5.trans e6)).trans (e7.trans ((Ext.new hP7.is_ nv).trans e8)))
    have fin : ∀ r : Int, 0 ≤ r → r < most → Q (.int r) H8 := fun r h1 h2 => k r H8 b8 e08 hP8 (by omega) h1 h2
    rcases List.mem_cons.mp hx with rfl | hx
    · exact fin _ r10 (by omega)
    rcases List.mem_cons.mp hx with rfl | hx
    · exact fin _ r20 r21
    rcases List.mem_cons.mp hx with rfl | hx
    · exact fin _ r30 r31
    rcases List.mem_cons.mp hx with rfl | hx
    · exact fin _ (by omega) (by omega)
    rw [List.mem_singleton.mp hx]
    exact fin _ (by omega) (by omega)
end
end KP

namespace KP
open PySem PySem.Spec PyProof.Rows L2
local macro_rules | `(tactic| walk_at "sc") => `(tactic| first | (show (0 : Int) < _; decide) | (show (0 : Int) < _; omega) | (refine ⟨?_, ?_, ?_, ?_⟩ <;> (first | omega | (unfold Big; omega))) | (refine ⟨?_, ?_, ?_⟩ <;> (first | omega | (unfold Big; omega))) | (refine ⟨?_, ?_⟩ <;> (first | omega | (unfold Big; omega))))
/-! ### painters -/
structure Ptr where
  name : Str
  day : Int
  post : Int
  stride : Int
structure Ptr.Ok (q : Ptr) : Prop where
  nm : NameOk q.name
  d0 : 0 ≤ q.day
  d1 : q.day ≤ 10 ^ 30
  p0 : -(10 ^ 30) ≤ q.post
  p1 : q.post ≤ 10 ^ 30
  s0 : -(10 ^ 18) ≤ q.stride
  s1 : q.stride ≤ 10 ^ 18
  sn : q.stride ≠ 0
def tupP (q : Ptr) : List V := [.str q.name, .int q.day, .int q.post, .int q.stride]
/-- the package's painter -/
def PObj (K : PySem.W.Frag) (H : Hp) (x : Addr) (q : Ptr) : Prop := ∃ dx t, H x = some (.ins (He.ga K "Painter") dx [("parts", .ref t)]) ∧ H t = some (.tup (tupP q))
theorem PObj.same {K : PySem.W.Frag} {H H' : Hp} {x : Addr} {q : Ptr} (h : PObj K H x q) (s : Same H H') : PObj K H' x q := by
  obtain ⟨dx, t, h1, h2⟩ := h
  exact ⟨dx, t, s _ _ h1, s _ _ h2⟩
theorem PObj.ext {K : PySem.W.Frag} {H H' : Hp} {p x : Addr} {q : Ptr} (h : PObj K H x q) (s : Ext p H H') : PObj K H' x q := by
  obtain ⟨dx, t, h1, h2⟩ := h
  exact ⟨dx, t, s.ins h1, s.at h2 fun _ z => nomatch z⟩
section
variable {P : Program} {w : World} {K : PySem.W.Frag} {mg : Str → Option Value} {base : Heap}
end
end KP

namespace KP
open PySem PySem.Spec PyProof.Rows L2
local macro_rules | `(tactic| walk_at "sc") => `(tactic| first | (show (0 : Int) < _; decide) | (show (0 : Int) < _; omega) | (refine ⟨?_, ?_, ?_, ?_⟩ <;> (first | omega | (unfold Big; omega))) | (refine ⟨?_, ?_, ?_⟩ <;> (first | omega | (unfold Big; omega))) | (refine ⟨?_, ?_⟩ <;> (first | omega | (unfold Big; omega))))
/-! ### painters made, two painters close together -/
structure Ptr.Sm (q : Ptr) : Prop where
  nm : NameOk q.name
  d0 : 0 ≤ q.day
  d1 : q.day ≤ 7
  p0 : -9 ≤ q.post
  p1 : q.post ≤ 9
  s0 : -9 ≤ q.stride
  s1 : q.stride ≤ 9
  sn : q.stride ≠ 0
theorem Ptr.Sm.ok {q : Ptr} (h : q.Sm) : q.Ok := ⟨h.nm, h.d0, by have := h.d1; omega, by have := h.p0; omega, by have := h.p1; omega, by have := h.s0; omega, by have := h.s1; omega, h.sn⟩
/-- tuples of painters -/
def PTup (H : Hp) (G : Ptr → Prop) (v : V) (q : Ptr) : Prop := ∃ a, v = .ref a ∧ H a = some (.tup (tupP q)) ∧ G q
abbrev PList (H : Hp) (G : Ptr → Prop) : List V → List Ptr → Prop := Paired (PTup H G)
theorem PList.mono {H H' : Hp} {G : Ptr → Prop} (h : ∀ a q, H a = some (.tup (tupP q)) → H' a = some (.tup (tupP q))) : ∀ {vs : List V} {qs : List Ptr}, PList H G vs qs → PList H' G vs qs
  | _, _, .nil => .nil
  | _, _, .cons ⟨a, e, ha, g⟩ r => .cons ⟨a, e, h _ _ ha, g⟩ (PList.mono h r)
theorem PList.ext {H H' : Hp} {G : Ptr → Prop} {p : Addr} {vs : List V} {qs : List Ptr} (e : Ext p H H') (h : PList H G vs qs) : PList H' G vs qs := h.mono fun a q ha => e.at ha fun _ z => nomatch z
theorem PList.snoc {H : Hp} {G : Ptr → Prop} {v : V} {q : Ptr} (h2 : PTup H G v q) : ∀ {vs : List V} {qs : List Ptr}, PList H G vs qs → PList H G (vs ++ [v]) (qs ++ [q])
  | _, _, .nil => .cons h2 .nil
  | _, _, .cons x r => .cons x (PList.snoc h2 r)
theorem PList.get {H : Hp} {G : Ptr → Prop} {v : V} : ∀ {vs : List V} {qs : List Ptr} {i : Nat}, PList H G vs qs → vs[i]? = some v → ∃ q, qs[i]? = some q ∧ PTup H G v q
  | _, _, _, .nil, h => by simp at h
  | _, _, 0, .cons x r, h => by
    simp at h
    subst h
    exact ⟨_, rfl, x⟩
  | _, _, i + 1, .cons x r, h => by
    obtain ⟨q, h1, h2⟩ := PList.get (i := i) r (by simpa using h)
    exact ⟨q, by simpa using h1, h2⟩
theorem PList.mem {H : Hp} {G : Ptr → Prop} {v : V} {vs : List V} {qs : List Ptr} (h : PList H G vs qs) (hv : v ∈ vs) : ∃ q, q ∈ qs ∧ PTup H G v q := by
  obtain ⟨i, hi⟩ := List.mem_iff_getElem?.mp hv
  obtain ⟨q, h1, h2⟩ := h.get hi
  exact ⟨q, List.mem_of_getElem? h1, h2⟩
/-- a store into a list leaves the tuples -/
theorem PList.mut {H : Hp} {G : Ptr → Prop} {l : Addr} {xs : List V} {o : HO} {vs : List V} {qs : List Ptr} (h : PList H G vs qs) (hl : H l = some (.lst xs)) : PList (upd H l o) G vs qs := h.mono fun a q ha => by
  rw [upd_ne (ne_of ha hl fun z => nomatch z)]
  exact ha
section
variable {P : Program} {w : World} {K : PySem.W.Frag} {mg : Str → Option Value} {base : Heap}
theorem sz_of {n : Nat} (h : n ≤ 1000) : n ≤ sizeLine := Nat.le_trans h (by rw [sizeLine_eq]; decide)
end
end KP

namespace KP
open PySem PySem.Spec PyProof.Rows L2
local macro_rules | `(tactic| walk_at "sc") => `(tactic| first | (show (0 : Int) < _; decide) | (show (0 : Int) < _; omega) | (refine ⟨?_, ?_, ?_, ?_⟩ <;> (first | omega | (unfold Big; omega))) | (refine ⟨?_, ?_, ?_⟩ <;> (first | omega | (unfold Big; omega))) | (refine ⟨?_, ?_⟩ <;> (first | omega | (unfold Big; omega))))
/-! ### drawn lists of painters -/
/-- painters with numbers that stay within the bounds when a little is added -/
structure Ptr.Md (q : Ptr) : Prop where
  nm : NameOk q.name
  d0 : 0 ≤ q.day
  d1 : q.day ≤ 2 * 10 ^ 29
  p0 : -(2 * 10 ^ 29) ≤ q.post
  p1 : q.post ≤ 2 * 10 ^ 29
  s0 : -(2 * 10 ^ 17) ≤ q.stride
  s1 : q.stride ≤ 2 * 10 ^ 17
  sn : q.stride ≠ 0
theorem Ptr.Md.ok {q : Ptr} (h : q.Md) : q.Ok := ⟨h.nm, h.d0, by have := h.d1; omega, by have := h.p0; omega, by have := h.p1; omega, by have := h.s0; omega, by have := h.s1; omega, h.sn⟩
theorem Ptr.Sm.md {q : Ptr} (h : q.Sm) : q.Md := ⟨h.nm, h.d0, by have := h.d1; omega, by have := h.p0; omega, by have := h.p1; omega, by have := h.s0; omega, by have := h.s1; omega, h.sn⟩
theorem PList.imp {H : Hp} {G G' : Ptr → Prop} (f : ∀ q, G q → G' q) : ∀ {vs : List V} {qs : List Ptr}, PList H G vs qs → PList H G' vs qs
  | _, _, .nil => .nil
  | _, _, .cons ⟨a, e, h, g⟩ r => .cons ⟨a, e, h, f _ g⟩ (PList.imp f r)
theorem PList.len {H : Hp} {G : Ptr → Prop} {vs : List V} {qs : List Ptr} (h : PList H G vs qs) : vs.length = qs.length := Paired.length h
/-- the last item of a list in the place of another one -/
theorem PList.init {H : Hp} {G : Ptr → Prop} : ∀ {vs : List V} {qs : List Ptr} {v : V} {q : Ptr}, PList H G (vs ++ [v]) (qs ++ [q]) → PList H G vs qs
  | [], [], _, _, _ => .nil
  | [], _ :: qs, _, _, h => by
    have := h.len
    simp at this
  | _ :: vs, [], _, _, h => by
    have := h.len
    simp at this
  | _ :: vs, _ :: qs, _, _, .cons x r => .cons x (PList.init r)
def spDrawn (K : PySem.W.Frag) (G : Ptr → Prop) (B : Int) : Sp := fun vs H Q _ => ∃ (p : Pid) (most b : Int), vs = [.ref p.a, .int most] ∧ Pen K H p b ∧ 0 < most ∧ most ≤ 50 ∧ b < 10 ^ 9 ∧
  ∀ (l : Addr) (vs : List V) (qs : List Ptr) (H' : Hp) (b' : Int), Ext p.a H H' → H l = none → Pen K H' p b' → b' ≤ b + B → H' l = some (.lst vs) → PList H' G vs qs → (qs.length : Int) ≤ most → 1 ≤ qs.length → (qs.map Ptr.name).Nodup → (most ≤ 26 → ∀ q ∈ qs, q.name.length ≤ 7) → Q (.ref l) H'
theorem cut_last (vs : List V) (x : V) : cutV (vs ++ [x]) none (some (-1)) = vs := by
  unfold cutV
  have h1 : HT.sIx (vs ++ [x]).length 0 none = 0 := rfl
  have h2 : HT.sIx (vs ++ [x]).length (vs ++ [x]).length (some (-1)) = vs.length := by
    unfold HT.sIx
    dsimp only
    rw [if_pos (by decide), List.length_append]
    simp
    omega
  rw [h1, h2]
  simp
theorem ix_last (vs : List V) (x : V) : ixN (vs ++ [x]).length (-1) = some vs.length := by
  unfold ixN
  rw [if_neg (by decide), if_pos (by rw [List.length_append]; simp; omega)]
  rw [List.length_append]
  simp
  omega
theorem set_last (vs : List V) (x y : V) : (vs ++ [x]).set vs.length y = vs ++ [y] := by simp
theorem map_take {zs : List Str} {z : Str} {qs : List Ptr} {q : Ptr} {i : Nat} (hz : zs[i]? = some z) (h : qs.map Ptr.name = zs.take i) (hq : q.name = z) : (qs ++ [q]).map Ptr.name = zs.take (i + 1) := by
  rw [List.map_append, h, List.take_add_one, hz, List.map_cons, hq]
  rfl
theorem mem3 {v : V} {x y z : Int} (h : v ∈ [V.int x, V.int y, V.int z]) : v = .int x ∨ v = .int y ∨ v = .int z := by
  simp only [List.mem_cons, List.mem_nil_iff, or_false] at h
  exact h
theorem mem2' {v : V} {x y : Int} (h : v ∈ [V.int x, V.int y]) : v = .int x ∨ v = .int y := by
  simp only [List.mem_cons, List.mem_nil_iff, or_false] at h
  exact h
section
variable {P : Program} {w : World} {K : PySem.W.Frag} {mg : Str → Option Value} {base : Heap}
theorem k_small (T : Tx K mg) : Cal P w K mg base 16 (He.ga K "_law_small") T.fd_small P_small (spDrawn K Ptr.Sm 30000) := by
  have c_draw := k_draw (P := P) (w := w) (base := base) T
  have c_pick := k_pick (P := P) (w := w) (base := base) T
  have c_around := k_around (P := P) (w := w) (base := base) T
  have c_names := k_names (P := P) (w := w) (base := base) T
  refine ⟨T.fn_small.ok sc_small (fun vs H Q E h => ?_) (fun cdv A outer s H vs Q E hr h => ?_), T.fn_small.kp, FunD.bindsN T.fn_small fun _ _ _ _ _ _ us hl => match us, hl with | [_, _], _ => rfl⟩
  · obtain ⟨p, most, b, rfl, _⟩ := h
    rfl
  · obtain ⟨p, most, b, rfl, hP, m0, m1, hb, k⟩ := h
    refine ⟨_, PSs.nox (pss_cons (ps_par (by rfl) sc_small.nd (i := 2) (j := 3) rfl rfl (by decide) rfl rfl (pa_cons (pe_lst pa_nil) (pa_cons (pe_op op_add pe_int (pe_call c_draw.F (hr.mono (by decide)) (by rfl) T.g_draw c_draw.kp c_draw.b .nil pass0 (pa_cons (pv 0) (pa_cons (pv 1) pa_nil)))) pa_nil)) (by rfl))
      (pss_cons (ps_for PassesOwn.never rfl (pi_list (pe_call c_names.F (hr.mono (by decide)) (by rfl) T.g_names c_names.kp c_names.b .nil pass0 (pa_cons (pv 0) (pa_cons (pv 3) pa_nil)))) (pg_name (i := 4) sc_small.nd rfl (Or.inl rfl))
      (pss_cons (ps_set (i := 5) sc_small.nd rfl (Or.inl rfl) (pe_op op_add pe_int (pe_call c_pick.F (hr.mono (by decide)) (by rfl) T.g_pick c_pick.kp c_pick.b .nil pass0 (pa_cons (pv 0) (pa_cons (pe_lst (pa_cons (pe_call c_draw.F (hr.mono (by decide)) (by rfl) T.g_draw c_draw.kp c_draw.b .nil pass0 (pa_cons (pv 0) (pa_cons pe_int pa_nil))) (pa_cons (pe_call c_draw.F (hr.mono (by decide)) (by rfl) T.g_draw c_draw.kp c_draw.b .nil pass0 (pa_cons (pv 0) (pa_cons pe_int pa_nil))) pa_nil))) pa_nil)))))
      (pss_cons (ps_set (i := 5) sc_small.nd rfl (Or.inl rfl) (pe_op op_mulB (pv 5) (pe_call c_pick.F (hr.mono (by decide)) (by rfl) T.g_pick c_pick.kp c_pick.b .nil pass0 (pa_cons (pv 0) (pa_cons (pe_lst (pa_cons pe_int (pa_cons (pe_un un_neg pe_int) pa_nil))) pa_nil)))))
      (pss_cons (ps_set (i := 6) sc_small.nd rfl (Or.inl rfl) (pe_call c_pick.F (hr.mono (by decide)) (by rfl) T.g_pick c_pick.kp c_pick.b .nil pass0 (pa_cons (pv 0) (pa_cons (pe_lst (pa_cons pe_int (pa_cons pe_int (pa_cons (pe_call c_draw.F (hr.mono (by decide)) (by rfl) T.g_draw c_draw.kp c_draw.b .nil pass0 (pa_cons (pv 0) (pa_cons pe_int pa_nil))) pa_nil)))) pa_nil))))
      (pss_cons (ps_expr (pe_bm PySem.F.plainAttrs_list PySem.F.slot_list_append PySem.F.type_list_append mt_append (pv 2) (pa_cons (pe_tup (pa_cons (pv 4) (pa_cons (pv 6) (pa_cons (pe_call c_around.F (hr.mono (by decide)) (by rfl) T.g_around c_around.kp c_around.b .nil pass0 (pa_cons (pv 0) (pa_cons pe_int pa_nil))) (pa_cons (pv 5) pa_nil))))) pa_nil)))
      (pss_one (ps_if (PW.pt (pw_and (pt_cmpR op_gt (pe_callB call_len_seq (by rfl) T.b_len PySem.boot_len (pa_cons (pv 2) pa_nil)) pe_int (nomark _)) (pw_and1 (pt_cmpR op_eq (pe_call c_draw.F (hr.mono (by decide)) (by rfl) T.g_draw c_draw.kp c_draw.b .nil pass0 (pa_cons (pv 0) (pa_cons pe_int pa_nil))) pe_int (nomark _))))) (pss_one (ps_asg (pe_op op_catT (pe_tup (pa_cons (pv 4) pa_nil)) (pe_slice sl_tup (pe_call c_pick.F (hr.mono (by decide)) (by rfl) T.g_pick c_pick.kp c_pick.b .nil pass0 (pa_cons (pv 0) (pa_cons (pe_slice sl_list (pv 2) po_none (po_some (pe_un un_neg pe_int))) pa_nil))) (po_some pe_int) po_none)) (pg_sub (pv 2) (pe_un un_neg pe_int) set_list))) pss_nil)))))))
      (pss_one (ps_ret (pv 2))))), ?_⟩
    refine ⟨Nat.zero_le _, fun l nl => ?_⟩
    have nlH : H l = none := nl
    have e0 : Ext p.a H (upd H l (.lst [])) := Ext.new hP.is_ nl
    have hP0 := hP.new (o := .lst []) nl
    have hl0 : (upd H l (.lst [])) l = some (.lst []) := upd_same
    generalize upd H l (.lst []) = H0 at e0 hP0 hl0 ⊢
    refine ⟨.ref p.a, rfl, .int most, rfl, p, most, b, rfl, hP0, m0, by omega, by omega, fun r H1 b1 e1 hP1 hb1 r0 r1 => ?_⟩
    refine ⟨1, r, rfl, rfl, _, _, rfl, ?_⟩
    refine ⟨.ref p.a, rfl, _, rfl, p, 1 + r, b1, rfl, hP1, by omega, by omega, by omega, fun ln zs H2 b2 e2 nln hP2 hb2 hln hzl hz nd h7 => ?_⟩
    have hl2 := (e1.trans e2).at hl0 fun _ z => nomatch z
    have nll : ln ≠ l := fun z => by
      rw [z, e1.at hl0 fun _ z => nomatch z] at nln
      cases nln
    refine ⟨ln, rfl, ⟨_, SqL.of hln⟩, ?_⟩
    refine for_list (K := K) (xs := zs.map V.str) (fun i σ' H' => ∃ (y4 y5 y6 : Option V) (vs : List V) (qs : List Ptr) (b' : Int), σ' = [some (.ref p.a), some (.int most), some (.ref l), some (.int (1 + r)), y4, y5, y6] ∧
      Ext p.a H H' ∧ Pen K H' p b' ∧ b' ≤ b2 + 200 * i ∧ H' l = some (.lst vs) ∧ PList H' Ptr.Sm vs qs ∧ qs.map Ptr.name = zs.take i ∧ H' ln = some (.lst (zs.map V.str)) ∧ True) ?_ ?_ ?_ ?_
    · exact ⟨none, none, none, [], [], b2, rfl, e0.trans (e1.trans e2), hP2, by omega, hl2, .nil, rfl, hln, trivial⟩
    · rintro i σ' H' _ ⟨y4, y5, y6, vs, qs, b', rfl, eH, hPH, hbH, hlH, hpl, hnm, hlnH, hXH⟩
      exact SqL.of hlnH
    · rintro i v σ' H' hv ⟨y4, y5, y6, vs, qs, b', rfl, eH, hPH, hbH, hlH, hpl, hnm, hlnH, hXH⟩
      obtain ⟨z, hz1, rfl⟩ : ∃ z, zs[i]? = some z ∧ v = .str z := by
        rw [List.getElem?_map] at hv
        cases e : zs[i]? with
        | none =>
          rw [e] at hv
          cases hv
        | some z =>
          rw [e] at hv
          exact ⟨z, rfl, (Option.some.inj hv).symm⟩
      have hil : i < zs.length := (List.getElem?_eq_some_iff.mp hz1).1
      have zok := hz z (List.mem_of_getElem? hz1)
      have hql : qs.length = i := by
        have := congrArg List.length hnm
        rw [List.length_map, List.length_take] at this
        omega
      have hvl := hpl.len
      have i50 : i < 50 := by omega
      -- pace
      refine ⟨.ref p.a, rfl, .ref p.a, rfl, p, 6, b', rfl, hPH, by decide, by decide, by omega, fun d1 H3 b3 e3 hP3 hb3 d10 d11 => ?_⟩
      refine ⟨.ref p.a, rfl, p, 2, b3, rfl, hP3, by decide, by decide, by omega, fun d2 H4 b4 e4 hP4 hb4 d20 d21 => ?_⟩
      refine ⟨sz_of (show 2 ≤ 1000 by decide), fun t nt => ?_⟩
      refine ⟨p, .ref t, [.int d1, .int d2], b4, rfl, hP4.new nt, .inl ⟨t, rfl, .inl (SqL.of upd_same)⟩, (fun z => nomatch z), (show 2 ≤ 1000 by decide), by omega, fun v hv H5 b5 e5 hP5 hb5 => ?_⟩
      obtain ⟨x, rfl, x0, x1⟩ : ∃ x : Int, v = .int x ∧ 0 ≤ x ∧ x ≤ 8 := (mem2' hv).elim (fun h => ⟨d1, h, d10, by omega⟩) fun h => ⟨d2, h, d20, by omega⟩
      refine ⟨1, x, rfl, rfl, .int (1 + x), rfl, .ref p.a, rfl, _, rfl, sz_of (by decide), fun t2 nt2 => ?_⟩
      refine ⟨p, .ref t2, [.int 1, .int (-1)], b5, rfl, hP5.new nt2, .inl ⟨t2, rfl, .inl (SqL.of upd_same)⟩, (fun z => nomatch z), by decide, by omega, fun v hv H6 b6 e6 hP6 hb6 => ?_⟩
      obtain ⟨y, rfl, hy⟩ : ∃ y : Int, v = .int y ∧ (y = 1 ∨ y = -1) := (mem2' hv).elim (fun h => ⟨1, h, .inl rfl⟩) fun h => ⟨-1, h, .inr rfl⟩
      refine ⟨1 + x, y, rfl, rfl, by walk_at "sc", ?_⟩
      have sb : -9 ≤ (1 + x) * y ∧ (1 + x) * y ≤ 9 ∧ (1 + x) * y ≠ 0 := by
        rcases hy with rfl | rfl <;> omega
      dsimp only
      generalize (1 + x) * y = st at sb ⊢
      have E6 : Ext p.a H' H6 := (e3.trans e4).trans ((Ext.new hP4.is_ nt).trans (e5.trans ((Ext.new hP5.is_ nt2).trans e6)))
      -- date
      refine ⟨.ref p.a, rfl, .ref p.a, rfl, p, 7, b6, rfl, hP6, by decide, by decide, by omega, fun d3 H7 b7 e7 hP7 hb7 d30 d31 => ?_⟩
      refine ⟨sz_of (show 3 ≤ 1000 by decide), fun t3 nt3 => ?_⟩
      refine ⟨p, .ref t3, [.int 0, .int 0, .int d3], b7, rfl, hP7.new nt3, .inl ⟨t3, rfl, .inl (SqL.of upd_same)⟩, (fun z => nomatch z), (show 3 ≤ 1000 by decide), by omega, fun v hv H8 b8 e8 hP8 hb8 => ?_⟩
      obtain ⟨dd, rfl, dd0, dd1⟩ : ∃ x : Int, v = .int x ∧ 0 ≤ x ∧ x ≤ 7 := (mem3 hv).elim (fun h => ⟨0, h, by decide, by decide⟩) fun h => h.elim (fun h => ⟨0, h, by decide, by decide⟩) fun h => ⟨d3, h, d30, by omega⟩
      have E8 : Ext p.a H' H8 := E6.trans (e7.trans ((Ext.new hP7.is_ nt3).trans e8))
      have hl8 := E8.at hlH fun _ z => nomatch z
      -- found.append
      refine ⟨.ref l, rfl, .inl ⟨rfl, _, .inl (.inl hl8)⟩, .str z, rfl, .int dd, rfl, .ref p.a, rfl, p, 8, b8, rfl, hP8, by decide, by decide, by omega, fun pp H9 b9 e9 hP9 hb9 pp0 pp1 => ?_⟩
      refine ⟨.int st, rfl, sz_of (show 4 ≤ 1000 by decide), fun t4 nt4 => ?_⟩
      have e10 : Ext p.a H9 (upd H9 t4 (.tup [.str z, .int dd, .int pp, .int st])) := Ext.new hP9.is_ nt4
      have E10 := E8.trans (e9.trans e10)
      have hl10 := E10.at hlH fun _ z => nomatch z
      have hln10 := E10.at hlnH fun _ z => nomatch z
      have hP10 := hP9.new (o := .tup [.str z, .int dd, .int pp, .int st]) nt4
      have ht4 : (upd H9 t4 (.tup [.str z, .int dd, .int pp, .int st])) t4 = some (.tup (tupP ⟨z, dd, pp, st⟩)) := upd_same
      have hpl10 := hpl.ext E10
      refine ⟨l, vs, .ref t4, rfl, rfl, hl10, Nat.lt_of_le_of_lt (show vs.length ≤ 50 by omega) (by rw [sizeLine_eq]; decide), ?_⟩
      have smq : Ptr.Sm ⟨z, dd, pp, st⟩ := by
        refine ⟨zok, ?_, ?_, ?_, ?_, ?_, ?_, ?_⟩ <;> dsimp only <;> omega
      have hplc := PList.mut (o := .lst (vs ++ [.ref t4])) (PList.snoc ⟨t4, rfl, ht4, smq⟩ hpl10) hl10
      have EHc := (eH.trans E10).mut (q := l) (o := .lst (vs ++ [.ref t4])) nlH
      have hPc := hP10.mut (o := .lst (vs ++ [.ref t4])) hP nlH
      have hlc : (upd (upd H9 t4 (.tup [.str z, .int dd, .int pp, .int st])) l (.lst (vs ++ [.ref t4]))) l = some (.lst (vs ++ [.ref t4])) := upd_same
      have hlnc : (upd (upd H9 t4 (.tup [.str z, .int dd, .int pp, .int st])) l (.lst (vs ++ [.ref t4]))) ln = some (.lst (zs.map V.str)) := by
        rw [upd_ne nll]
        exact hln10
      generalize upd (upd H9 t4 (.tup [.str z, .int dd, .int pp, .int st])) l (.lst (vs ++ [.ref t4])) = Hc at hplc EHc hPc hlc hlnc ⊢
      have nmc : (qs ++ [(⟨z, dd, pp, st⟩ : Ptr)]).map Ptr.name = zs.take (i + 1) := map_take hz1 hnm rfl
      have hxc : (fun _ : Hp => True) Hc := trivial
      have xext : ∀ H1 H2, Ext p.a H1 H2 → (fun _ : Hp => True) H1 → (fun _ : Hp => True) H2 := fun _ _ _ _ => trivial
      have xmut : ∀ (H1 : Hp) (xs : List V) (o : HO), (fun _ : Hp => True) H1 → H1 l = some (.lst xs) → (fun _ : Hp => True) (upd H1 l o) := fun _ _ _ _ _ => trivial
      have fin : ∀ (H' : Hp) (b' : Int), Ext p.a Hc H' → Pen K H' p b' → b' ≤ b9 + 13 → Ext p.a H H' ∧ b' ≤ b2 + 200 * ((i + 1 : Nat) : Int) ∧ H' l = some (.lst (vs ++ [.ref t4])) ∧ PList H' Ptr.Sm (vs ++ [.ref t4]) (qs ++ [⟨z, dd, pp, st⟩]) ∧ H' ln = some (.lst (zs.map V.str)) ∧ (fun _ : Hp => True) H' := fun H' b' e _ hb' => ⟨EHc.trans e, by omega, e.at hlc (fun _ z => nomatch z), hplc.ext e, e.at hlnc (fun _ z => nomatch z), xext _ _ e hxc⟩
      refine ⟨.ref l, rfl, l, _, rfl, .inl (SqL.of hlc), _, 1, rfl, rfl, _, rfl, ite2 (fun eg => ?_) (fun eg => ?_)⟩
      rotate_left
      · obtain ⟨f1, f2, f3, f4, f5, f6⟩ := fin Hc b9 (Ext.refl hPc.is_) hPc (by omega)
        exact ⟨_, _, _, _, _, b9, rfl, f1, hPc, f2, f3, f4, nmc, f5, f6⟩
      have two : 1 < (vs ++ [V.ref t4]).length := by
        have := of_decide_eq_true eg
        omega
      have vsn : vs ≠ [] := fun z => by
        rw [z] at two
        simp at two
      refine ⟨.ref p.a, rfl, p, 7, b9, rfl, hPc, by decide, by decide, by omega, fun r9 H11 b11 e11 hP11 hb11 r90 r91 => ?_⟩
      obtain ⟨f1, f2, f3, f4, f5, f6⟩ := fin H11 b11 e11 hP11 (by omega)
      refine ⟨rfl, _, rfl, ite2 (fun e => ?_) (fun e => ?_)⟩
      rotate_left
      · exact ⟨_, _, _, _, _, b11, rfl, f1, hP11, f2, f3, f4, nmc, f5, f6⟩
      refine ⟨.str z, rfl, sz_of (show 1 ≤ 1000 by decide), fun ta nta => ?_⟩
      have e12 : Ext p.a H11 (upd H11 ta (.tup [.str z])) := Ext.new hP11.is_ nta
      have hP12 := hP11.new (o := .tup [.str z]) nta
      have hta : (upd H11 ta (.tup [.str z])) ta = some (.tup [.str z]) := upd_same
      generalize upd H11 ta (.tup [.str z]) = H12 at e12 hP12 hta ⊢
      have hl12 := e12.at f3 fun _ z => nomatch z
      refine ⟨.ref p.a, rfl, .ref l, rfl, _, rfl, -1, rfl, l, _, rfl, SqL.of hl12, fun tl ntl => ?_⟩
      rw [cut_last]
      have e13 : Ext p.a H12 (upd H12 tl (.lst vs)) := Ext.new hP12.is_ ntl
      have hP13 := hP12.new (o := .lst vs) ntl
      have htl : (upd H12 tl (.lst vs)) tl = some (.lst vs) := upd_same
      generalize upd H12 tl (.lst vs) = H13 at e13 hP13 htl ⊢
      refine ⟨p, .ref tl, vs, b11, rfl, hP13, .inl ⟨tl, rfl, .inl (SqL.of htl)⟩, vsn, by omega, by omega, fun v hv H14 b14 e14 hP14 hb14 => ?_⟩
      obtain ⟨q0, _, tq, rfl, htq, sq0⟩ := (((f4.init.ext e12).ext e13).ext e14).mem hv
      refine ⟨1, rfl, tq, _, rfl, SqT.of htq, (show ¬(HT.sIx 4 0 (some 1) = 0 ∧ HT.sIx 4 4 none = 4) by decide), fun tb ntb => ?_⟩
      have cut : cutV (tupP q0) (some 1) none = [.int q0.day, .int q0.post, .int q0.stride] := rfl
      rw [cut]
      have e15 : Ext p.a H14 (upd H14 tb (.tup [.int q0.day, .int q0.post, .int q0.stride])) := Ext.new hP14.is_ ntb
      have hP15 := hP14.new (o := .tup [.int q0.day, .int q0.post, .int q0.stride]) ntb
      have htb : (upd H14 tb (.tup [.int q0.day, .int q0.post, .int q0.stride])) tb = some (.tup [.int q0.day, .int q0.post, .int q0.stride]) := upd_same
      generalize upd H14 tb (.tup [.int q0.day, .int q0.post, .int q0.stride]) = H15 at e15 hP15 htb ⊢
      have E15 := e12.trans (e13.trans (e14.trans e15))
      have hta15 := (e13.trans (e14.trans e15)).at hta fun _ z => nomatch z
      refine ⟨ta, tb, _, _, rfl, rfl, SqT.of hta15, SqT.of htb, (fun z => nomatch z), sz_of (show 4 ≤ 1000 by decide), (fun z => nomatch z), fun _ tc ntc => ?_⟩
      have e16 : Ext p.a H15 (upd H15 tc (.tup (tupP ⟨z, q0.day, q0.post, q0.stride⟩))) := Ext.new hP15.is_ ntc
      have hP16 := hP15.new (o := .tup (tupP ⟨z, q0.day, q0.post, q0.stride⟩)) ntc
      have htc : (upd H15 tc (.tup (tupP ⟨z, q0.day, q0.post, q0.stride⟩))) tc = some (.tup (tupP ⟨z, q0.day, q0.post, q0.stride⟩)) := upd_same
      have E16 := E15.trans e16
      have hl16 := E16.at f3 fun _ z => nomatch z
      have hln16 := E16.at f5 fun _ z => nomatch z
      have sq1 : Ptr.Sm ⟨z, q0.day, q0.post, q0.stride⟩ := ⟨zok, sq0.d0, sq0.d1, sq0.p0, sq0.p1, sq0.s0, sq0.s1, sq0.sn⟩
      have hpl16 := PList.mut (o := .lst (vs ++ [.ref tc])) (PList.snoc ⟨tc, rfl, htc, sq1⟩ (f4.init.ext E16)) hl16
      have hx16 := xmut _ _ (.lst (vs ++ [V.ref tc])) (xext _ _ E16 f6) hl16
      refine ⟨.ref l, rfl, _, rfl, l, _, -1, vs.length, rfl, rfl, hl16, ix_last vs _, ?_⟩
      rw [set_last]
      refine ⟨_, _, _, vs ++ [V.ref tc], qs ++ [(⟨z, q0.day, q0.post, q0.stride⟩ : Ptr)], b14, rfl, (f1.trans E16).mut nlH, hP16.mut hP nlH, by omega, upd_same, hpl16, map_take hz1 hnm rfl, ?_, hx16⟩
      rw [upd_ne nll]
      exact hln16

    · rintro σ' H' ⟨y4, y5, y6, vs, qs, b', rfl, eH, hPH, hbH, hlH, hpl, hnm, hlnH, hXH⟩
      rw [List.length_map, List.take_length] at hnm
      have hlen := congrArg List.length hnm
      rw [List.length_map] at hlen
      refine ⟨.ref l, rfl, k l vs qs H' b' eH nlH hPH ?_ hlH hpl (by omega) (by omega) (by rw [hnm]; exact nd) (fun m q hq => h7 (by omega) _ (by rw [← hnm]; exact List.mem_map_of_mem hq))⟩
      rw [List.length_map] at hbH
      omega
/-- the hubs of aimed painters -/
def HubT (H : Hp) (t : Addr) : Prop := ∃ d x : Int, H t = some (.tup [.int d, .int x]) ∧ 10 ^ 12 ≤ d ∧ d ≤ 10 ^ 12 + 10 ^ 29 ∧ -(10 ^ 28) ≤ x ∧ x ≤ 10 ^ 28
def HubsAt (hb : Addr) (H : Hp) : Prop := ∃ ts : List Addr, H hb = some (.lst (ts.map V.ref)) ∧ ts.length = 3 ∧ ∀ t ∈ ts, HubT H t
theorem HubT.ext {p t : Addr} {H H' : Hp} (e : Ext p H H') (h : HubT H t) : HubT H' t := by
  obtain ⟨d, x, h1, h2⟩ := h
  exact ⟨d, x, e.at h1 (fun _ z => nomatch z), h2⟩
theorem HubT.mut {l t : Addr} {H : Hp} {xs : List V} {o : HO} (h : HubT H t) (hl : H l = some (.lst xs)) : HubT (upd H l o) t := by
  obtain ⟨d, x, h1, h2⟩ := h
  refine ⟨d, x, ?_, h2⟩
  rw [upd_ne (ne_of h1 hl fun z => nomatch z)]
  exact h1
theorem k_aimed (T : Tx K mg) : Cal P w K mg base 16 (He.ga K "_law_aimed") T.fd_aimed P_aimed (spDrawn K Ptr.Md 60000) := by
  have c_draw := k_draw (P := P) (w := w) (base := base) T
  have c_pick := k_pick (P := P) (w := w) (base := base) T
  have c_great := k_great (P := P) (w := w) (base := base) T
  have c_names := k_names (P := P) (w := w) (base := base) T
  refine ⟨T.fn_aimed.ok sc_aimed (fun vs H Q E h => ?_) (fun cdv A outer s H vs Q E hr h => ?_), T.fn_aimed.kp, FunD.bindsN T.fn_aimed fun _ _ _ _ _ _ us hl => match us, hl with | [_, _], _ => rfl⟩
  · obtain ⟨p, most, b, rfl, _⟩ := h
    rfl
  · obtain ⟨p, most, b, rfl, hP, m0, m1, hb, k⟩ := h
    refine ⟨_, PSs.nox (pss_cons (ps_par (by rfl) sc_aimed.nd (i := 2) (j := 3) rfl rfl (by decide) rfl rfl (pa_cons (pe_lst pa_nil) (pa_cons (pe_op op_add pe_int (pe_call c_draw.F (hr.mono (by decide)) (by rfl) T.g_draw c_draw.kp c_draw.b .nil pass0 (pa_cons (pv 0) (pa_cons (pv 1) pa_nil)))) pa_nil)) (by rfl))
      (pss_cons (ps_set (i := 4) sc_aimed.nd rfl (Or.inl rfl) (pe_lst pa_nil))
      (pss_cons (ps_for PassesOwn.never rfl (pi_range1 (by rfl) T.b_range (pa_cons pe_int pa_nil)) (pg_name (i := 5) sc_aimed.nd rfl (Or.inl rfl))
      (pss_cons (ps_set (i := 6) sc_aimed.nd rfl (Or.inl rfl) (pe_op op_mulB (pe_call c_great.F (hr.mono (by decide)) (by rfl) T.g_great c_great.kp c_great.b .nil pass0 (pa_cons (pv 0) (pa_cons pe_int pa_nil))) (pe_call c_pick.F (hr.mono (by decide)) (by rfl) T.g_pick c_pick.kp c_pick.b .nil pass0 (pa_cons (pv 0) (pa_cons (pe_lst (pa_cons pe_int (pa_cons (pe_un un_neg pe_int) pa_nil))) pa_nil)))))
      (pss_one (ps_expr (pe_bm PySem.F.plainAttrs_list PySem.F.slot_list_append PySem.F.type_list_append mt_append (pv 4) (pa_cons (pe_tup (pa_cons (pe_op op_add (ppow (c := 1000000000000) (by decide) (by decide +kernel)) (pe_call c_great.F (hr.mono (by decide)) (by rfl) T.g_great c_great.kp c_great.b .nil pass0 (pa_cons (pv 0) (pa_cons pe_int pa_nil)))) (pa_cons (pv 6) pa_nil))) pa_nil))))))
      (pss_cons (ps_set (i := 7) sc_aimed.nd rfl (Or.inl rfl) (pe_op op_add pe_int (pe_call c_great.F (hr.mono (by decide)) (by rfl) T.g_great c_great.kp c_great.b .nil pass0 (pa_cons (pv 0) (pa_cons pe_int pa_nil)))))
      (pss_cons (ps_for PassesOwn.never rfl (pi_list (pe_call c_names.F (hr.mono (by decide)) (by rfl) T.g_names c_names.kp c_names.b .nil pass0 (pa_cons (pv 0) (pa_cons (pv 3) pa_nil)))) (pg_name (i := 8) sc_aimed.nd rfl (Or.inl rfl))
      (pss_cons (ps_asg (pe_call c_pick.F (hr.mono (by decide)) (by rfl) T.g_pick c_pick.kp c_pick.b .nil pass0 (pa_cons (pv 0) (pa_cons (pv 4) pa_nil))) (pg_tup rfl (pgs_cons (pg_name (i := 9) sc_aimed.nd rfl (Or.inl rfl)) (pgs_cons (pg_name (i := 6) sc_aimed.nd rfl (Or.inl rfl)) pgs_nil))))
      (pss_cons (ps_set (i := 10) sc_aimed.nd rfl (Or.inl rfl) (pe_lst (pa_cons (pe_call c_great.F (hr.mono (by decide)) (by rfl) T.g_great c_great.kp c_great.b .nil pass0 (pa_cons (pv 0) (pa_cons pe_int pa_nil))) (pa_cons (pe_op op_mulB (pv 7) (pe_op op_add pe_int (pe_call c_draw.F (hr.mono (by decide)) (by rfl) T.g_draw c_draw.kp c_draw.b .nil pass0 (pa_cons (pv 0) (pa_cons pe_int pa_nil))))) (pa_cons (pe_call c_draw.F (hr.mono (by decide)) (by rfl) T.g_draw c_draw.kp c_draw.b .nil pass0 (pa_cons (pv 0) (pa_cons pe_int pa_nil))) pa_nil)))))
      (pss_cons (ps_set (i := 11) sc_aimed.nd rfl (Or.inl rfl) (pe_op op_mulB (pe_op op_add pe_int (pe_call c_pick.F (hr.mono (by decide)) (by rfl) T.g_pick c_pick.kp c_pick.b .nil pass0 (pa_cons (pv 0) (pa_cons (pv 10) pa_nil)))) (pe_call c_pick.F (hr.mono (by decide)) (by rfl) T.g_pick c_pick.kp c_pick.b .nil pass0 (pa_cons (pv 0) (pa_cons (pe_lst (pa_cons pe_int (pa_cons (pe_un un_neg pe_int) pa_nil))) pa_nil)))))
      (pss_cons (ps_set (i := 12) sc_aimed.nd rfl (Or.inl rfl) (pe_call c_pick.F (hr.mono (by decide)) (by rfl) T.g_pick c_pick.kp c_pick.b .nil pass0 (pa_cons (pv 0) (pa_cons (pe_lst (pa_cons (pe_call c_draw.F (hr.mono (by decide)) (by rfl) T.g_draw c_draw.kp c_draw.b .nil pass0 (pa_cons (pv 0) (pa_cons pe_int pa_nil))) (pa_cons (pe_call c_great.F (hr.mono (by decide)) (by rfl) T.g_great c_great.kp c_great.b .nil pass0 (pa_cons (pv 0) (pa_cons pe_int pa_nil))) (pa_cons (pe_call c_great.F (hr.mono (by decide)) (by rfl) T.g_great c_great.kp c_great.b .nil pass0 (pa_cons (pv 0) (pa_cons pe_int pa_nil))) pa_nil)))) pa_nil))))
      (pss_cons (ps_set (i := 9) sc_aimed.nd rfl (Or.inl rfl) (pe_op op_sub (pe_op op_add (pv 9) (pe_call c_pick.F (hr.mono (by decide)) (by rfl) T.g_pick c_pick.kp c_pick.b .nil pass0 (pa_cons (pv 0) (pa_cons (pe_lst (pa_cons pe_int (pa_cons pe_int (pa_cons (pe_call c_draw.F (hr.mono (by decide)) (by rfl) T.g_draw c_draw.kp c_draw.b .nil pass0 (pa_cons (pv 0) (pa_cons pe_int pa_nil))) pa_nil)))) pa_nil)))) (pv 12)))
      (pss_cons (ps_expr (pe_bm PySem.F.plainAttrs_list PySem.F.slot_list_append PySem.F.type_list_append mt_append (pv 2) (pa_cons (pe_tup (pa_cons (pv 8) (pa_cons (pv 9) (pa_cons (pe_op op_sub (pv 6) (pe_op op_mulB (pv 12) (pv 11))) (pa_cons (pv 11) pa_nil))))) pa_nil)))
      (pss_one (ps_if (PW.pt (pw_and (pt_cmpR op_gt (pe_callB call_len_seq (by rfl) T.b_len PySem.boot_len (pa_cons (pv 2) pa_nil)) pe_int (nomark _)) (pw_and1 (pt_cmpR op_eq (pe_call c_draw.F (hr.mono (by decide)) (by rfl) T.g_draw c_draw.kp c_draw.b .nil pass0 (pa_cons (pv 0) (pa_cons pe_int pa_nil))) pe_int (nomark _))))) (pss_one (ps_asg (pe_op op_catT (pe_tup (pa_cons (pv 8) pa_nil)) (pe_slice sl_tup (pe_call c_pick.F (hr.mono (by decide)) (by rfl) T.g_pick c_pick.kp c_pick.b .nil pass0 (pa_cons (pv 0) (pa_cons (pe_slice sl_list (pv 2) po_none (po_some (pe_un un_neg pe_int))) pa_nil))) (po_some pe_int) po_none)) (pg_sub (pv 2) (pe_un un_neg pe_int) set_list))) pss_nil)))))))))
      (pss_one (ps_ret (pv 2)))))))), ?_⟩
    refine ⟨Nat.zero_le _, fun l nl => ?_⟩
    have nlH : H l = none := nl
    have e0 : Ext p.a H (upd H l (.lst [])) := Ext.new hP.is_ nl
    have hP0 := hP.new (o := .lst []) nl
    have hl0 : (upd H l (.lst [])) l = some (.lst []) := upd_same
    generalize upd H l (.lst []) = H0 at e0 hP0 hl0 ⊢
    refine ⟨.ref p.a, rfl, .int most, rfl, p, most, b, rfl, hP0, m0, by omega, by omega, fun r H1 b1 e1 hP1 hb1 r0 r1 => ?_⟩
    refine ⟨1, r, rfl, rfl, _, _, rfl, ?_⟩
    -- hubs
    refine ⟨Nat.zero_le _, fun hb' nhb => ?_⟩
    have hl1 := e1.at hl0 fun _ z => nomatch z
    have nhl : hb' ≠ l := fun z => by
      rw [z, hl1] at nhb
      cases nhb
    have nhbH : H hb' = none := (e0.trans e1).back nhb
    have e2 : Ext p.a H1 (upd H1 hb' (.lst [])) := Ext.new hP1.is_ nhb
    have hP2 := hP1.new (o := .lst []) nhb
    have hh2 : (upd H1 hb' (.lst [])) hb' = some (.lst []) := upd_same
    have hl2 := e2.at hl1 fun _ z => nomatch z
    generalize upd H1 hb' (.lst []) = H2 at e2 hP2 hh2 hl2 ⊢
    refine ⟨3, rfl, by decide, by decide, ?_⟩
    refine for_range (lo := 0) (n := 3) (fun i σ' H' => ∃ (y5 y6 y7 y8 y9 y10 y11 y12 : Option V) (ts : List Addr) (b' : Int), σ' = [some (.ref p.a), some (.int most), some (.ref l), some (.int (1 + r)), some (.ref hb'), y5, y6, y7, y8, y9, y10, y11, y12] ∧
      Ext p.a H H' ∧ Pen K H' p b' ∧ b' ≤ b1 + 300 * i ∧ H' l = some (.lst []) ∧ H' hb' = some (.lst (ts.map V.ref)) ∧ ts.length = i ∧ ∀ t ∈ ts, HubT H' t) ?_ ?_ ?_
    · exact ⟨none, none, none, none, none, none, none, none, [], b1, rfl, e0.trans (e1.trans e2), hP2, by omega, hl2, hh2, rfl, fun t ht => nomatch ht⟩
    · rintro i σ' H' hi ⟨y5, y6, y7, y8, y9, y10, y11, y12, ts, b', rfl, eH, hPH, hbH, hlH, hhH, htl, hts⟩
      refine ⟨.ref p.a, rfl, p, 28, b', rfl, hPH, by decide, by decide, by omega, fun d1 H3 b3 e3 hP3 hb3 d10 d11 => ?_⟩
      refine ⟨.ref p.a, rfl, _, rfl, sz_of (show 2 ≤ 1000 by decide), fun t2 nt2 => ?_⟩
      refine ⟨p, .ref t2, [.int 1, .int (-1)], b3, rfl, hP3.new nt2, .inl ⟨t2, rfl, .inl (SqL.of upd_same)⟩, (fun z => nomatch z), by decide, by omega, fun v hv H4 b4 e4 hP4 hb4 => ?_⟩
      obtain ⟨y, rfl, hy⟩ : ∃ y : Int, v = .int y ∧ (y = 1 ∨ y = -1) := (mem2' hv).elim (fun h => ⟨1, h, .inl rfl⟩) fun h => ⟨-1, h, .inr rfl⟩
      refine ⟨d1, y, rfl, rfl, by walk_at "sc", ?_⟩
      have sb : -(10 ^ 28) ≤ d1 * y ∧ d1 * y ≤ 10 ^ 28 := by
        rcases hy with rfl | rfl <;> omega
      dsimp only
      generalize d1 * y = spot at sb ⊢
      have E4 : Ext p.a H' H4 := e3.trans ((Ext.new hP3.is_ nt2).trans e4)
      have hh4 := E4.at hhH fun _ z => nomatch z
      refine ⟨.ref hb', rfl, .inl ⟨rfl, _, .inl (.inl hh4)⟩, .ref p.a, rfl, p, 29, b4, rfl, hP4, by decide, by decide, by omega, fun d2 H5 b5 e5 hP5 hb5 d20 d21 => ?_⟩
      refine ⟨1000000000000, d2, rfl, rfl, .int spot, rfl, sz_of (show 2 ≤ 1000 by decide), fun t5 nt5 => ?_⟩
      have e6 : Ext p.a H5 (upd H5 t5 (.tup [.int (1000000000000 + d2), .int spot])) := Ext.new hP5.is_ nt5
      have hP6 := hP5.new (o := .tup [.int (1000000000000 + d2), .int spot]) nt5
      have ht5 : (upd H5 t5 (.tup [.int (1000000000000 + d2), .int spot])) t5 = some (.tup [.int (1000000000000 + d2), .int spot]) := upd_same
      generalize upd H5 t5 (.tup [.int (1000000000000 + d2), .int spot]) = H6 at e6 hP6 ht5 ⊢
      have E6 := E4.trans (e5.trans e6)
      have hh6 := E6.at hhH fun _ z => nomatch z
      have hl6 := E6.at hlH fun _ z => nomatch z
      refine ⟨hb', _, .ref t5, rfl, rfl, hh6, Nat.lt_of_le_of_lt (show (ts.map V.ref).length ≤ 3 by rw [List.length_map]; omega) (by rw [sizeLine_eq]; decide), ?_⟩
      refine ⟨_, _, _, _, _, _, _, _, ts ++ [t5], b5, rfl, (eH.trans E6).mut nhbH, hP6.mut hP nhbH, by omega, ?_, ?_, by rw [List.length_append, htl]; rfl, fun t ht => ?_⟩
      · rw [upd_ne nhl.symm]
        exact hl6
      · rw [List.map_append]
        exact upd_same
      · rcases List.mem_append.mp ht with ht | ht
        · exact ((hts t ht).ext E6).mut hh6
        · rw [List.mem_singleton.mp ht]
          exact HubT.mut ⟨_, _, ht5, by omega, by omega, sb.1, sb.2⟩ hh6
    · rintro σ' H' ⟨y5, y6, y7, y8, y9, y10, y11, y12, ts, b', rfl, eH, hPH, hbH, hlH, hhH, htl, hts⟩
      have hx0 : HubsAt hb' H' := ⟨ts, hhH, htl, hts⟩
      -- lot
      refine ⟨.ref p.a, rfl, p, 9, b', rfl, hPH, by decide, by decide, by omega, fun d1 H3 b3 e3 hP3 hb3 d10 d11 => ?_⟩
      refine ⟨1, d1, rfl, rfl, ?_⟩
      refine ⟨.ref p.a, rfl, _, rfl, p, 1 + r, b3, rfl, hP3, by omega, by omega, by omega, fun ln zs H4 b4 e4 nln hP4 hb4 hln hzl hz nd h7 => ?_⟩
      have hl3 := e3.at hlH fun _ z => nomatch z
      have hl4 := e4.at hl3 fun _ z => nomatch z
      have nll : ln ≠ l := fun z => by
        rw [z, hl3] at nln
        cases nln
      have xext : ∀ H1 H2, Ext p.a H1 H2 → HubsAt hb' H1 → HubsAt hb' H2 := fun H1 H2 e ⟨ts, h1, h2, h3⟩ => ⟨ts, e.at h1 (fun _ z => nomatch z), h2, fun t ht => (h3 t ht).ext e⟩
      have xmut : ∀ (H1 : Hp) (xs : List V) (o : HO), HubsAt hb' H1 → H1 l = some (.lst xs) → HubsAt hb' (upd H1 l o) := fun H1 xs o ⟨ts, h1, h2, h3⟩ hl => ⟨ts, by rw [upd_ne nhl]; exact h1, h2, fun t ht => (h3 t ht).mut hl⟩
      refine ⟨ln, rfl, ⟨_, SqL.of hln⟩, ?_⟩
      generalize hb2 : b4 = b2 at hP4 hb4
      refine for_list (K := K) (xs := zs.map V.str) (fun i σ' H' => ∃ (y5 y6 y8 y9 y10 y11 y12 : Option V) (vs : List V) (qs : List Ptr) (b' : Int), σ' = [some (.ref p.a), some (.int most), some (.ref l), some (.int (1 + r)), some (.ref hb'), y5, y6, some (.int (1 + d1)), y8, y9, y10, y11, y12] ∧
        Ext p.a H H' ∧ Pen K H' p b' ∧ b' ≤ b2 + 1000 * i ∧ H' l = some (.lst vs) ∧ PList H' Ptr.Md vs qs ∧ qs.map Ptr.name = zs.take i ∧ H' ln = some (.lst (zs.map V.str)) ∧ HubsAt hb' H') ?_ ?_ ?_ ?_
      · exact ⟨_, _, _, _, _, _, _, [], [], b2, rfl, eH.trans (e3.trans e4), hP4, by omega, hl4, .nil, rfl, hln, xext _ _ (e3.trans e4) hx0⟩
      · rintro i σ' H' _ ⟨y5, y6, y8, y9, y10, y11, y12, vs, qs, b', rfl, eH, hPH, hbH, hlH, hpl, hnm, hlnH, hXH⟩
        exact SqL.of hlnH
      · rintro i v σ' H' hv ⟨y5, y6, y8, y9, y10, y11, y12, vs, qs, b', rfl, eH, hPH, hbH, hlH, hpl, hnm, hlnH, hXH⟩
        obtain ⟨z, hz1, rfl⟩ : ∃ z, zs[i]? = some z ∧ v = .str z := by
          rw [List.getElem?_map] at hv
          cases e : zs[i]? with
          | none =>
            rw [e] at hv
            cases hv
          | some z =>
            rw [e] at hv
            exact ⟨z, rfl, (Option.some.inj hv).symm⟩
        have hil : i < zs.length := (List.getElem?_eq_some_iff.mp hz1).1
        have zok := hz z (List.mem_of_getElem? hz1)
        have hql : qs.length = i := by
          have := congrArg List.length hnm
          rw [List.length_map, List.length_take] at this
          omega
        have hvl := hpl.len
        have i50 : i < 50 := by omega
        -- date, spot
        obtain ⟨us, hu1, hu2, hu3⟩ := hXH
        refine ⟨.ref p.a, rfl, .ref hb', rfl, p, .ref hb', us.map V.ref, b', rfl, hPH, .inl ⟨hb', rfl, .inl (SqL.of hu1)⟩, (fun z => by rw [List.map_eq_nil_iff.mp z] at hu2; cases hu2), (by rw [List.length_map]; omega), by omega, fun v hv H5 b5 e5 hP5 hb5 => ?_⟩
        obtain ⟨t0, ht0, rfl⟩ := List.mem_map.mp hv
        obtain ⟨hd, hx, hhd, hd0, hd1, hx0', hx1'⟩ := (hu3 t0 ht0).ext e5
        refine ⟨t0, _, rfl, SqT.of hhd, rfl, _, _, rfl, _, _, rfl, rfl, ?_⟩
        -- some
        refine ⟨.ref p.a, rfl, p, 17, b5, rfl, hP5, by decide, by decide, by omega, fun g1 H6 b6 e6 hP6 hb6 g10 g11 => ?_⟩
        refine ⟨.int (1 + d1), rfl, .ref p.a, rfl, p, 6, b6, rfl, hP6, by decide, by decide, by omega, fun g2 H7 b7 e7 hP7 hb7 g20 g21 => ?_⟩
        refine ⟨1, g2, rfl, rfl, 1 + d1, 1 + g2, rfl, rfl, by walk_at "sc", ?_⟩
        have lotb : 0 ≤ (1 + d1) * (1 + g2) ∧ (1 + d1) * (1 + g2) ≤ 10 ^ 17 := by
          have h1 : 0 ≤ (1 + d1) * (1 + g2) := Int.mul_nonneg (by omega) (by omega)
          have h2 : (1 + d1) * (1 + g2) ≤ (1 + d1) * 6 := Int.mul_le_mul_of_nonneg_left (by omega) (by omega)
          omega
        dsimp only
        generalize (1 + d1) * (1 + g2) = lo2 at lotb ⊢
        refine ⟨.ref p.a, rfl, p, 9, b7, rfl, hP7, by decide, by decide, by omega, fun g3 H8 b8 e8 hP8 hb8 g30 g31 => ?_⟩
        refine ⟨sz_of (show 3 ≤ 1000 by decide), fun ts nts => ?_⟩
        have e8b : Ext p.a H8 (upd H8 ts (.lst [.int g1, .int lo2, .int g3])) := Ext.new hP8.is_ nts
        have hP8b := hP8.new (o := .lst [.int g1, .int lo2, .int g3]) nts
        have hts8 : (upd H8 ts (.lst [.int g1, .int lo2, .int g3])) ts = some (.lst [.int g1, .int lo2, .int g3]) := upd_same
        generalize upd H8 ts (.lst [.int g1, .int lo2, .int g3]) = H8b at e8b hP8b hts8 ⊢
        -- pace
        refine ⟨.ref p.a, rfl, .ref ts, rfl, p, .ref ts, _, b8, rfl, hP8b, .inl ⟨ts, rfl, .inl (SqL.of hts8)⟩, (fun z => nomatch z), (show 3 ≤ 1000 by decide), by omega, fun v hv HA bA eA hPA hbA => ?_⟩
        obtain ⟨x, rfl, x0, x1⟩ : ∃ x : Int, v = .int x ∧ 0 ≤ x ∧ x ≤ 10 ^ 17 := (mem3 hv).elim (fun h => ⟨g1, h, g10, by omega⟩) fun h => h.elim (fun h => ⟨lo2, h, lotb.1, lotb.2⟩) fun h => ⟨g3, h, g30, by omega⟩
        refine ⟨1, x, rfl, rfl, .ref p.a, rfl, _, rfl, sz_of (by decide), fun t2 nt2 => ?_⟩
        refine ⟨p, .ref t2, [.int 1, .int (-1)], bA, rfl, hPA.new nt2, .inl ⟨t2, rfl, .inl (SqL.of upd_same)⟩, (fun z => nomatch z), by decide, by omega, fun v hv HB bB eB hPB hbB => ?_⟩
        obtain ⟨y, rfl, hy⟩ : ∃ y : Int, v = .int y ∧ (y = 1 ∨ y = -1) := (mem2' hv).elim (fun h => ⟨1, h, .inl rfl⟩) fun h => ⟨-1, h, .inr rfl⟩
        refine ⟨1 + x, y, rfl, rfl, by walk_at "sc", ?_⟩
        have sb : -(2 * 10 ^ 17) ≤ (1 + x) * y ∧ (1 + x) * y ≤ 2 * 10 ^ 17 ∧ (1 + x) * y ≠ 0 := by
          rcases hy with rfl | rfl <;> omega
        dsimp only
        generalize (1 + x) * y = st at sb ⊢
        have EB : Ext p.a H' HB := (e5.trans e6).trans ((e7.trans e8).trans (e8b.trans (eA.trans ((Ext.new hPA.is_ nt2).trans eB))))
        -- steps
        refine ⟨.ref p.a, rfl, .ref p.a, rfl, p, 4, bB, rfl, hPB, by decide, by decide, by omega, fun g4 HC bC eC hPC hbC g40 g41 => ?_⟩
        refine ⟨.ref p.a, rfl, p, 11, bC, rfl, hPC, by decide, by decide, by omega, fun g5 HD bD eD hPD hbD g50 g51 => ?_⟩
        refine ⟨.ref p.a, rfl, p, 11, bD, rfl, hPD, by decide, by decide, by omega, fun g6 HE bE eE hPE hbE g60 g61 => ?_⟩
        refine ⟨sz_of (show 3 ≤ 1000 by decide), fun t3 nt3 => ?_⟩
        refine ⟨p, .ref t3, [.int g4, .int g5, .int g6], bE, rfl, hPE.new nt3, .inl ⟨t3, rfl, .inl (SqL.of upd_same)⟩, (fun z => nomatch z), (show 3 ≤ 1000 by decide), by omega, fun v hv HF bF eF hPF hbF => ?_⟩
        obtain ⟨stp, rfl, stp0, stp1⟩ : ∃ x : Int, v = .int x ∧ 0 ≤ x ∧ x ≤ 10 ^ 11 := (mem3 hv).elim (fun h => ⟨g4, h, g40, by omega⟩) fun h => h.elim (fun h => ⟨g5, h, g50, by omega⟩) fun h => ⟨g6, h, g60, by omega⟩
        have EF : Ext p.a H' HF := EB.trans ((eC.trans eD).trans (eE.trans ((Ext.new hPE.is_ nt3).trans eF)))
        -- date
        refine ⟨.int hd, rfl, .ref p.a, rfl, .ref p.a, rfl, p, 4, bF, rfl, hPF, by decide, by decide, by omega, fun g7 HG bG eG hPG hbG g70 g71 => ?_⟩
        refine ⟨sz_of (show 3 ≤ 1000 by decide), fun t5 nt5 => ?_⟩
        refine ⟨p, .ref t5, [.int 0, .int 0, .int g7], bG, rfl, hPG.new nt5, .inl ⟨t5, rfl, .inl (SqL.of upd_same)⟩, (fun z => nomatch z), (show 3 ≤ 1000 by decide), by omega, fun v hv H9 b9 e9 hP9 hb9 => ?_⟩
        obtain ⟨ad, rfl, ad0, ad1⟩ : ∃ x : Int, v = .int x ∧ 0 ≤ x ∧ x ≤ 4 := (mem3 hv).elim (fun h => ⟨0, h, by decide, by decide⟩) fun h => h.elim (fun h => ⟨0, h, by decide, by decide⟩) fun h => ⟨g7, h, g70, by omega⟩
        refine ⟨hd, ad, rfl, rfl, .int stp, rfl, _, stp, rfl, rfl, ?_⟩
        have E9 : Ext p.a H' H9 := EF.trans (eG.trans ((Ext.new hPG.is_ nt5).trans e9))
        have hl9 := E9.at hlH fun _ z => nomatch z
        have sm9 : -(2 * 10 ^ 28) ≤ stp * st ∧ stp * st ≤ 2 * 10 ^ 28 := by
          have h1 : stp * st ≤ stp * (2 * 10 ^ 17) := Int.mul_le_mul_of_nonneg_left (by omega) stp0
          have h2 : stp * (-(2 * 10 ^ 17)) ≤ stp * st := Int.mul_le_mul_of_nonneg_left (by omega) stp0
          omega
        -- found.append
        refine ⟨.ref l, rfl, .inl ⟨rfl, _, .inl (.inl hl9)⟩, .str z, rfl, _, rfl, .int hx, rfl, .int stp, rfl, .int st, rfl, stp, st, rfl, rfl, by walk_at "sc", hx, _, rfl, rfl, .int st, rfl, sz_of (show 4 ≤ 1000 by decide), fun t4 nt4 => ?_⟩
        dsimp only at nt4 ⊢
        generalize hdd : hd + ad - stp = dd at nt4 ⊢
        generalize hpp : hx - stp * st = pp at nt4 ⊢
        have e10 : Ext p.a H9 (upd H9 t4 (.tup [.str z, .int dd, .int pp, .int st])) := Ext.new hP9.is_ nt4
        have E10 := E9.trans e10
        have hl10 := E10.at hlH fun _ z => nomatch z
        have hln10 := E10.at hlnH fun _ z => nomatch z
        have hP10 := hP9.new (o := .tup [.str z, .int dd, .int pp, .int st]) nt4
        have ht4 : (upd H9 t4 (.tup [.str z, .int dd, .int pp, .int st])) t4 = some (.tup (tupP ⟨z, dd, pp, st⟩)) := upd_same
        have hpl10 := hpl.ext E10
        refine ⟨l, vs, .ref t4, rfl, rfl, hl10, Nat.lt_of_le_of_lt (show vs.length ≤ 50 by omega) (by rw [sizeLine_eq]; decide), ?_⟩
        have smq : Ptr.Md ⟨z, dd, pp, st⟩ := by
          refine ⟨zok, ?_, ?_, ?_, ?_, ?_, ?_, ?_⟩ <;> dsimp only <;> omega
        have hplc := PList.mut (o := .lst (vs ++ [.ref t4])) (PList.snoc ⟨t4, rfl, ht4, smq⟩ hpl10) hl10
        have EHc := (eH.trans E10).mut (q := l) (o := .lst (vs ++ [.ref t4])) nlH
        have hPc := hP10.mut (o := .lst (vs ++ [.ref t4])) hP nlH
        have hlc : (upd (upd H9 t4 (.tup [.str z, .int dd, .int pp, .int st])) l (.lst (vs ++ [.ref t4]))) l = some (.lst (vs ++ [.ref t4])) := upd_same
        have hlnc : (upd (upd H9 t4 (.tup [.str z, .int dd, .int pp, .int st])) l (.lst (vs ++ [.ref t4]))) ln = some (.lst (zs.map V.str)) := by
          rw [upd_ne nll]
          exact hln10
        have hxc := xmut _ _ (.lst (vs ++ [.ref t4])) (xext _ _ E10 ⟨us, hu1, hu2, hu3⟩) hl10
        generalize upd (upd H9 t4 (.tup [.str z, .int dd, .int pp, .int st])) l (.lst (vs ++ [.ref t4])) = Hc at hplc EHc hPc hlc hlnc hxc ⊢
        have nmc : (qs ++ [(⟨z, dd, pp, st⟩ : Ptr)]).map Ptr.name = zs.take (i + 1) := map_take hz1 hnm rfl
        have fin : ∀ (H' : Hp) (b' : Int), Ext p.a Hc H' → Pen K H' p b' → b' ≤ b9 + 13 → Ext p.a H H' ∧ b' ≤ b2 + 1000 * ((i + 1 : Nat) : Int) ∧ H' l = some (.lst (vs ++ [.ref t4])) ∧ PList H' Ptr.Md (vs ++ [.ref t4]) (qs ++ [⟨z, dd, pp, st⟩]) ∧ H' ln = some (.lst (zs.map V.str)) ∧ (HubsAt hb') H' := fun H' b' e _ hb' => ⟨EHc.trans e, by omega, e.at hlc (fun _ z => nomatch z), hplc.ext e, e.at hlnc (fun _ z => nomatch z), xext _ _ e hxc⟩
        refine ⟨.ref l, rfl, l, _, rfl, .inl (SqL.of hlc), _, 1, rfl, rfl, _, rfl, ite2 (fun eg => ?_) (fun eg => ?_)⟩
        rotate_left
        · obtain ⟨f1, f2, f3, f4, f5, f6⟩ := fin Hc b9 (Ext.refl hPc.is_) hPc (by omega)
          exact ⟨_, _, _, _, _, _, _, _, _, b9, rfl, f1, hPc, f2, f3, f4, nmc, f5, f6⟩
        have two : 1 < (vs ++ [V.ref t4]).length := by
          have := of_decide_eq_true eg
          omega
        have vsn : vs ≠ [] := fun z => by
          rw [z] at two
          simp at two
        refine ⟨.ref p.a, rfl, p, 7, b9, rfl, hPc, by decide, by decide, by omega, fun r9 H11 b11 e11 hP11 hb11 r90 r91 => ?_⟩
        obtain ⟨f1, f2, f3, f4, f5, f6⟩ := fin H11 b11 e11 hP11 (by omega)
        refine ⟨rfl, _, rfl, ite2 (fun e => ?_) (fun e => ?_)⟩
        rotate_left
        · exact ⟨_, _, _, _, _, _, _, _, _, b11, rfl, f1, hP11, f2, f3, f4, nmc, f5, f6⟩
        refine ⟨.str z, rfl, sz_of (show 1 ≤ 1000 by decide), fun ta nta => ?_⟩
        have e12 : Ext p.a H11 (upd H11 ta (.tup [.str z])) := Ext.new hP11.is_ nta
        have hP12 := hP11.new (o := .tup [.str z]) nta
        have hta : (upd H11 ta (.tup [.str z])) ta = some (.tup [.str z]) := upd_same
        generalize upd H11 ta (.tup [.str z]) = H12 at e12 hP12 hta ⊢
        have hl12 := e12.at f3 fun _ z => nomatch z
        refine ⟨.ref p.a, rfl, .ref l, rfl, _, rfl, -1, rfl, l, _, rfl, SqL.of hl12, fun tl ntl => ?_⟩
        rw [cut_last]
        have e13 : Ext p.a H12 (upd H12 tl (.lst vs)) := Ext.new hP12.is_ ntl
        have hP13 := hP12.new (o := .lst vs) ntl
        have htl : (upd H12 tl (.lst vs)) tl = some (.lst vs) := upd_same
        generalize upd H12 tl (.lst vs) = H13 at e13 hP13 htl ⊢
        refine ⟨p, .ref tl, vs, b11, rfl, hP13, .inl ⟨tl, rfl, .inl (SqL.of htl)⟩, vsn, by omega, by omega, fun v hv H14 b14 e14 hP14 hb14 => ?_⟩
        obtain ⟨q0, _, tq, rfl, htq, sq0⟩ := (((f4.init.ext e12).ext e13).ext e14).mem hv
        refine ⟨1, rfl, tq, _, rfl, SqT.of htq, (show ¬(HT.sIx 4 0 (some 1) = 0 ∧ HT.sIx 4 4 none = 4) by decide), fun tb ntb => ?_⟩
        have cut : cutV (tupP q0) (some 1) none = [.int q0.day, .int q0.post, .int q0.stride] := rfl
        rw [cut]
        have e15 : Ext p.a H14 (upd H14 tb (.tup [.int q0.day, .int q0.post, .int q0.stride])) := Ext.new hP14.is_ ntb
        have hP15 := hP14.new (o := .tup [.int q0.day, .int q0.post, .int q0.stride]) ntb
        have htb : (upd H14 tb (.tup [.int q0.day, .int q0.post, .int q0.stride])) tb = some (.tup [.int q0.day, .int q0.post, .int q0.stride]) := upd_same
        generalize upd H14 tb (.tup [.int q0.day, .int q0.post, .int q0.stride]) = H15 at e15 hP15 htb ⊢
        have E15 := e12.trans (e13.trans (e14.trans e15))
        have hta15 := (e13.trans (e14.trans e15)).at hta fun _ z => nomatch z
        refine ⟨ta, tb, _, _, rfl, rfl, SqT.of hta15, SqT.of htb, (fun z => nomatch z), sz_of (show 4 ≤ 1000 by decide), (fun z => nomatch z), fun _ tc ntc => ?_⟩
        have e16 : Ext p.a H15 (upd H15 tc (.tup (tupP ⟨z, q0.day, q0.post, q0.stride⟩))) := Ext.new hP15.is_ ntc
        have hP16 := hP15.new (o := .tup (tupP ⟨z, q0.day, q0.post, q0.stride⟩)) ntc
        have htc : (upd H15 tc (.tup (tupP ⟨z, q0.day, q0.post, q0.stride⟩))) tc = some (.tup (tupP ⟨z, q0.day, q0.post, q0.stride⟩)) := upd_same
        have E16 := E15.trans e16
        have hl16 := E16.at f3 fun _ z => nomatch z
        have hln16 := E16.at f5 fun _ z => nomatch z
        have sq1 : Ptr.Md ⟨z, q0.day, q0.post, q0.stride⟩ := ⟨zok, sq0.d0, sq0.d1, sq0.p0, sq0.p1, sq0.s0, sq0.s1, sq0.sn⟩
        have hpl16 := PList.mut (o := .lst (vs ++ [.ref tc])) (PList.snoc ⟨tc, rfl, htc, sq1⟩ (f4.init.ext E16)) hl16
        have hx16 := xmut _ _ (.lst (vs ++ [V.ref tc])) (xext _ _ E16 f6) hl16
        refine ⟨.ref l, rfl, _, rfl, l, _, -1, vs.length, rfl, rfl, hl16, ix_last vs _, ?_⟩
        rw [set_last]
        refine ⟨_, _, _, _, _, _, _, vs ++ [V.ref tc], qs ++ [(⟨z, q0.day, q0.post, q0.stride⟩ : Ptr)], b14, rfl, (f1.trans E16).mut nlH, hP16.mut hP nlH, by omega, upd_same, hpl16, map_take hz1 hnm rfl, ?_, hx16⟩
        rw [upd_ne nll]
        exact hln16

      · rintro σ' H' ⟨y5, y6, y8, y9, y10, y11, y12, vs, qs, b', rfl, eH, hPH, hbH, hlH, hpl, hnm, hlnH, hXH⟩
        rw [List.length_map, List.take_length] at hnm
        have hlen := congrArg List.length hnm
        rw [List.length_map] at hlen
        refine ⟨.ref l, rfl, k l vs qs H' b' eH nlH hPH ?_ hlH hpl (by omega) (by omega) (by rw [hnm]; exact nd) (fun m q hq => h7 (by omega) _ (by rw [← hnm]; exact List.mem_map_of_mem hq))⟩
        rw [List.length_map] at hbH
        omega
theorem k_lined (T : Tx K mg) : Cal P w K mg base 16 (He.ga K "_law_lined") T.fd_lined P_lined (spDrawn K Ptr.Md 60000) := by
  have c_draw := k_draw (P := P) (w := w) (base := base) T
  have c_pick := k_pick (P := P) (w := w) (base := base) T
  have c_around := k_around (P := P) (w := w) (base := base) T
  have c_great := k_great (P := P) (w := w) (base := base) T
  have c_names := k_names (P := P) (w := w) (base := base) T
  refine ⟨T.fn_lined.ok sc_lined (fun vs H Q E h => ?_) (fun cdv A outer s H vs Q E hr h => ?_), T.fn_lined.kp, FunD.bindsN T.fn_lined fun _ _ _ _ _ _ us hl => match us, hl with | [_, _], _ => rfl⟩
  · obtain ⟨p, most, b, rfl, _⟩ := h
    rfl
  · obtain ⟨p, most, b, rfl, hP, m0, m1, hb, k⟩ := h
    refine ⟨_, PSs.nox (pss_cons (ps_par (by rfl) sc_lined.nd (i := 2) (j := 3) rfl rfl (by decide) rfl rfl (pa_cons (pe_lst pa_nil) (pa_cons (pe_op op_add pe_int (pe_call c_draw.F (hr.mono (by decide)) (by rfl) T.g_draw c_draw.kp c_draw.b .nil pass0 (pa_cons (pv 0) (pa_cons (pv 1) pa_nil)))) pa_nil)) (by rfl))
      (pss_cons (ps_par (by rfl) sc_lined.nd (i := 4) (j := 5) rfl rfl (by decide) rfl rfl (pa_cons (pe_op op_add pe_int (pe_call c_great.F (hr.mono (by decide)) (by rfl) T.g_great c_great.kp c_great.b .nil pass0 (pa_cons (pv 0) (pa_cons pe_int pa_nil)))) (pa_cons (pe_op op_mulB (pe_call c_great.F (hr.mono (by decide)) (by rfl) T.g_great c_great.kp c_great.b .nil pass0 (pa_cons (pv 0) (pa_cons pe_int pa_nil))) (pe_call c_pick.F (hr.mono (by decide)) (by rfl) T.g_pick c_pick.kp c_pick.b .nil pass0 (pa_cons (pv 0) (pa_cons (pe_lst (pa_cons pe_int (pa_cons (pe_un un_neg pe_int) pa_nil))) pa_nil)))) pa_nil)) (by rfl))
      (pss_cons (ps_for PassesOwn.never rfl (pi_list (pe_call c_names.F (hr.mono (by decide)) (by rfl) T.g_names c_names.kp c_names.b .nil pass0 (pa_cons (pv 0) (pa_cons (pv 3) pa_nil)))) (pg_name (i := 6) sc_lined.nd rfl (Or.inl rfl))
      (pss_cons (ps_set (i := 7) sc_lined.nd rfl (Or.inl rfl) (pe_op op_mulB (pe_op op_mulB (pv 4) (pe_op op_add pe_int (pe_call c_draw.F (hr.mono (by decide)) (by rfl) T.g_draw c_draw.kp c_draw.b .nil pass0 (pa_cons (pv 0) (pa_cons pe_int pa_nil))))) (pe_call c_pick.F (hr.mono (by decide)) (by rfl) T.g_pick c_pick.kp c_pick.b .nil pass0 (pa_cons (pv 0) (pa_cons (pe_lst (pa_cons pe_int (pa_cons pe_int (pa_cons (pe_un un_neg pe_int) pa_nil)))) pa_nil)))))
      (pss_cons (ps_set (i := 8) sc_lined.nd rfl (Or.inl rfl) (pe_op op_add (pv 5) (pe_call c_draw.F (hr.mono (by decide)) (by rfl) T.g_draw c_draw.kp c_draw.b .nil pass0 (pa_cons (pv 0) (pa_cons (pe_callB (call_min2 rfl) (by rfl) T.b_min (by decide +kernel) (pa_cons (pv 4) (pa_cons pe_int pa_nil))) pa_nil)))))
      (pss_cons (ps_set (i := 8) sc_lined.nd rfl (Or.inl rfl) (pe_op op_add (pv 8) (pe_op op_mulB (pv 4) (pe_call c_around.F (hr.mono (by decide)) (by rfl) T.g_around c_around.kp c_around.b .nil pass0 (pa_cons (pv 0) (pa_cons (pe_call c_pick.F (hr.mono (by decide)) (by rfl) T.g_pick c_pick.kp c_pick.b .nil pass0 (pa_cons (pv 0) (pa_cons (pe_lst (pa_cons pe_int (pa_cons pe_int (pa_cons (ppow (c := 1000000000000) (by decide) (by decide +kernel)) pa_nil)))) pa_nil))) pa_nil))))))
      (pss_cons (ps_set (i := 9) sc_lined.nd rfl (Or.inl rfl) (pe_call c_pick.F (hr.mono (by decide)) (by rfl) T.g_pick c_pick.kp c_pick.b .nil pass0 (pa_cons (pv 0) (pa_cons (pe_lst (pa_cons pe_int (pa_cons (pe_call c_draw.F (hr.mono (by decide)) (by rfl) T.g_draw c_draw.kp c_draw.b .nil pass0 (pa_cons (pv 0) (pa_cons pe_int pa_nil))) (pa_cons (pe_call c_great.F (hr.mono (by decide)) (by rfl) T.g_great c_great.kp c_great.b .nil pass0 (pa_cons (pv 0) (pa_cons pe_int pa_nil))) pa_nil)))) pa_nil))))
      (pss_one (ps_expr (pe_bm PySem.F.plainAttrs_list PySem.F.slot_list_append PySem.F.type_list_append mt_append (pv 2) (pa_cons (pe_tup (pa_cons (pv 6) (pa_cons (pv 9) (pa_cons (pv 8) (pa_cons (pv 7) pa_nil))))) pa_nil)))))))))
      (pss_one (ps_ret (pv 2)))))), ?_⟩
    refine ⟨Nat.zero_le _, fun l nl => ?_⟩
    have nlH : H l = none := nl
    have e0 : Ext p.a H (upd H l (.lst [])) := Ext.new hP.is_ nl
    have hP0 := hP.new (o := .lst []) nl
    have hl0 : (upd H l (.lst [])) l = some (.lst []) := upd_same
    generalize upd H l (.lst []) = H0 at e0 hP0 hl0 ⊢
    refine ⟨.ref p.a, rfl, .int most, rfl, p, most, b, rfl, hP0, m0, by omega, by omega, fun r H1 b1 e1 hP1 hb1 r0 r1 => ?_⟩
    refine ⟨1, r, rfl, rfl, _, _, rfl, ?_⟩
    -- lot, base
    refine ⟨.ref p.a, rfl, p, 16, b1, rfl, hP1, by decide, by decide, by omega, fun g1 H2 b2 e2 hP2 hb2 g10 g11 => ?_⟩
    refine ⟨1, g1, rfl, rfl, .ref p.a, rfl, p, 29, b2, rfl, hP2, by decide, by decide, by omega, fun g2 H3 b3 e3 hP3 hb3 g20 g21 => ?_⟩
    refine ⟨.ref p.a, rfl, _, rfl, sz_of (show 2 ≤ 1000 by decide), fun t2 nt2 => ?_⟩
    refine ⟨p, .ref t2, [.int 1, .int (-1)], b3, rfl, hP3.new nt2, .inl ⟨t2, rfl, .inl (SqL.of upd_same)⟩, (fun z => nomatch z), by decide, by omega, fun v hv H4 b4 e4 hP4 hb4 => ?_⟩
    obtain ⟨y, rfl, hy⟩ : ∃ y : Int, v = .int y ∧ (y = 1 ∨ y = -1) := (mem2' hv).elim (fun h => ⟨1, h, .inl rfl⟩) fun h => ⟨-1, h, .inr rfl⟩
    refine ⟨g2, y, rfl, rfl, by walk_at "sc", _, _, rfl, ?_⟩
    have bb : -(10 ^ 29) ≤ g2 * y ∧ g2 * y ≤ 10 ^ 29 := by
      rcases hy with rfl | rfl <;> omega
    dsimp only
    generalize g2 * y = bs at bb ⊢
    have E4 : Ext p.a H0 H4 := (e1.trans e2).trans (e3.trans ((Ext.new hP3.is_ nt2).trans e4))
    have hl4 := E4.at hl0 fun _ z => nomatch z
    refine ⟨.ref p.a, rfl, _, rfl, p, 1 + r, b4, rfl, hP4, by omega, by omega, by omega, fun ln zs H5 b5 e5 nln hP5 hb5 hln hzl hz nd h7 => ?_⟩
    have hl5 := e5.at hl4 fun _ z => nomatch z
    have nll : ln ≠ l := fun z => by
      rw [z, hl4] at nln
      cases nln
    refine ⟨ln, rfl, ⟨_, SqL.of hln⟩, ?_⟩
    refine for_list (K := K) (xs := zs.map V.str) (fun i σ' H' => ∃ (y6 y7 y8 y9 : Option V) (vs : List V) (qs : List Ptr) (b' : Int), σ' = [some (.ref p.a), some (.int most), some (.ref l), some (.int (1 + r)), some (.int (1 + g1)), some (.int bs), y6, y7, y8, y9] ∧
      Ext p.a H H' ∧ Pen K H' p b' ∧ b' ≤ b5 + 300 * i ∧ H' l = some (.lst vs) ∧ PList H' Ptr.Md vs qs ∧ qs.map Ptr.name = zs.take i ∧ H' ln = some (.lst (zs.map V.str))) ?_ ?_ ?_ ?_
    · exact ⟨none, none, none, none, [], [], b5, rfl, e0.trans (E4.trans e5), hP5, by omega, hl5, .nil, rfl, hln⟩
    · rintro i σ' H' _ ⟨y6, y7, y8, y9, vs, qs, b', rfl, eH, hPH, hbH, hlH, hpl, hnm, hlnH⟩
      exact SqL.of hlnH
    · rintro i v σ' H' hv ⟨y6, y7, y8, y9, vs, qs, b', rfl, eH, hPH, hbH, hlH, hpl, hnm, hlnH⟩
      obtain ⟨z, hz1, rfl⟩ : ∃ z, zs[i]? = some z ∧ v = .str z := by
        rw [List.getElem?_map] at hv
        cases e : zs[i]? with
        | none =>
          rw [e] at hv
          cases hv
        | some z =>
          rw [e] at hv
          exact ⟨z, rfl, (Option.some.inj hv).symm⟩
      have hil : i < zs.length := (List.getElem?_eq_some_iff.mp hz1).1
      have zok := hz z (List.mem_of_getElem? hz1)
      have hql : qs.length = i := by
        have := congrArg List.length hnm
        rw [List.length_map, List.length_take] at this
        omega
      have hvl := hpl.len
      have i50 : i < 50 := by omega
      -- pace
      refine ⟨.int (1 + g1), rfl, .ref p.a, rfl, p, 12, b', rfl, hPH, by decide, by decide, by omega, fun d1 H6 b6 e6 hP6 hb6 d10 d11 => ?_⟩
      refine ⟨1, d1, rfl, rfl, 1 + g1, 1 + d1, rfl, rfl, by walk_at "sc", ?_⟩
      have lotb : 1 ≤ (1 + g1) * (1 + d1) ∧ (1 + g1) * (1 + d1) ≤ 2 * 10 ^ 17 := by
        have h1 : (1 + g1) * 1 ≤ (1 + g1) * (1 + d1) := Int.mul_le_mul_of_nonneg_left (by omega) (by omega)
        have h2 : (1 + g1) * (1 + d1) ≤ (1 + g1) * 12 := Int.mul_le_mul_of_nonneg_left (by omega) (by omega)
        omega
      dsimp only
      generalize (1 + g1) * (1 + d1) = lo2 at lotb ⊢
      refine ⟨.ref p.a, rfl, _, rfl, sz_of (show 3 ≤ 1000 by decide), fun t6 nt6 => ?_⟩
      refine ⟨p, .ref t6, [.int 1, .int 1, .int (-1)], b6, rfl, hP6.new nt6, .inl ⟨t6, rfl, .inl (SqL.of upd_same)⟩, (fun z => nomatch z), by decide, by omega, fun v hv H7 b7 e7 hP7 hb7 => ?_⟩
      obtain ⟨y2, rfl, hy2⟩ : ∃ y : Int, v = .int y ∧ (y = 1 ∨ y = -1) := (mem3 hv).elim (fun h => ⟨1, h, .inl rfl⟩) fun h => h.elim (fun h => ⟨1, h, .inl rfl⟩) fun h => ⟨-1, h, .inr rfl⟩
      refine ⟨lo2, y2, rfl, rfl, by walk_at "sc", ?_⟩
      have sb : -(2 * 10 ^ 17) ≤ lo2 * y2 ∧ lo2 * y2 ≤ 2 * 10 ^ 17 ∧ lo2 * y2 ≠ 0 := by
        rcases hy2 with rfl | rfl <;> omega
      dsimp only
      generalize lo2 * y2 = st at sb ⊢
      have E7 : Ext p.a H' H7 := e6.trans ((Ext.new hP6.is_ nt6).trans e7)
      -- spot
      have mb : 1 ≤ (if (2 : Int) < 1 + g1 then (2 : Int) else 1 + g1) ∧ (if (2 : Int) < 1 + g1 then (2 : Int) else 1 + g1) ≤ 2 := by split <;> omega
      refine ⟨.int bs, rfl, .ref p.a, rfl, .int (1 + g1), rfl, 1 + g1, 2, rfl, p, _, b7, rfl, hP7, by omega, by omega, by omega, fun d2 H8 b8 e8 hP8 hb8 d20 d21 => ?_⟩
      refine ⟨bs, d2, rfl, rfl, _, rfl, .int (1 + g1), rfl, .ref p.a, rfl, .ref p.a, rfl, sz_of (show 3 ≤ 1000 by decide), fun t8 nt8 => ?_⟩
      refine ⟨p, .ref t8, [.int 3, .int 40, .int 1000000000000], b8, rfl, hP8.new nt8, .inl ⟨t8, rfl, .inl (SqL.of upd_same)⟩, (fun z => nomatch z), by decide, by omega, fun v hv H9 b9 e9 hP9 hb9 => ?_⟩
      obtain ⟨far, rfl, far0, far1⟩ : ∃ y : Int, v = .int y ∧ 3 ≤ y ∧ y ≤ 10 ^ 12 := (mem3 hv).elim (fun h => ⟨3, h, by decide, by decide⟩) fun h => h.elim (fun h => ⟨40, h, by decide, by decide⟩) fun h => ⟨1000000000000, h, by decide, by decide⟩
      refine ⟨p, far, b9, rfl, hP9, by omega, by omega, by omega, fun d3 HA bA eA hPA hbA d30 d31 => ?_⟩
      refine ⟨1 + g1, d3, rfl, rfl, by walk_at "sc", _, _, rfl, rfl, ?_⟩
      have fb : -(10 ^ 28) ≤ (1 + g1) * d3 ∧ (1 + g1) * d3 ≤ 10 ^ 28 := by
        have h1 : (1 + g1) * d3 ≤ (1 + g1) * 10 ^ 12 := Int.mul_le_mul_of_nonneg_left (by omega) (by omega)
        have h2 : (1 + g1) * (-(10 ^ 12)) ≤ (1 + g1) * d3 := Int.mul_le_mul_of_nonneg_left (by omega) (by omega)
        omega
      dsimp only
      generalize hpp : bs + d2 + (1 + g1) * d3 = pp
      have ppb : -(2 * 10 ^ 29) ≤ pp ∧ pp ≤ 2 * 10 ^ 29 := by
        rw [← hpp]
        split at d21 <;> omega
      -- date
      refine ⟨.ref p.a, rfl, .ref p.a, rfl, p, 30, bA, rfl, hPA, by decide, by decide, by omega, fun d4 HB bB eB hPB hbB d40 d41 => ?_⟩
      refine ⟨.ref p.a, rfl, p, 29, bB, rfl, hPB, by decide, by decide, by omega, fun d5 HC bC eC hPC hbC d50 d51 => ?_⟩
      refine ⟨sz_of (show 3 ≤ 1000 by decide), fun tC ntC => ?_⟩
      refine ⟨p, .ref tC, [.int 0, .int d4, .int d5], bC, rfl, hPC.new ntC, .inl ⟨tC, rfl, .inl (SqL.of upd_same)⟩, (fun z => nomatch z), (show 3 ≤ 1000 by decide), by omega, fun v hv HD bD eD hPD hbD => ?_⟩
      obtain ⟨dd, rfl, dd0, dd1⟩ : ∃ x : Int, v = .int x ∧ 0 ≤ x ∧ x ≤ 10 ^ 29 := (mem3 hv).elim (fun h => ⟨0, h, by decide, by decide⟩) fun h => h.elim (fun h => ⟨d4, h, d40, by omega⟩) fun h => ⟨d5, h, d50, by omega⟩
      have ED : Ext p.a H' HD := (E7.trans e8).trans (((Ext.new hP8.is_ nt8).trans e9).trans (eA.trans ((eB.trans eC).trans ((Ext.new hPC.is_ ntC).trans eD))))
      have hlD := ED.at hlH fun _ z => nomatch z
      -- found.append
      refine ⟨.ref l, rfl, .inl ⟨rfl, _, .inl (.inl hlD)⟩, .str z, rfl, .int dd, rfl, .int pp, rfl, .int st, rfl, sz_of (show 4 ≤ 1000 by decide), fun t4 nt4 => ?_⟩
      have e10 : Ext p.a HD (upd HD t4 (.tup (tupP ⟨z, dd, pp, st⟩))) := Ext.new hPD.is_ nt4
      have E10 := ED.trans e10
      have hl10 := E10.at hlH fun _ z => nomatch z
      have hln10 := E10.at hlnH fun _ z => nomatch z
      refine ⟨l, vs, .ref t4, rfl, rfl, hl10, Nat.lt_of_le_of_lt (show vs.length ≤ 50 by omega) (by rw [sizeLine_eq]; decide), ?_⟩
      have smq : Ptr.Md ⟨z, dd, pp, st⟩ := by
        refine ⟨zok, ?_, ?_, ?_, ?_, ?_, ?_, ?_⟩ <;> dsimp only <;> omega
      refine ⟨_, _, _, _, vs ++ [V.ref t4], qs ++ [(⟨z, dd, pp, st⟩ : Ptr)], bD, rfl, (eH.trans E10).mut nlH, (hPD.new nt4).mut hP nlH, by omega, upd_same, PList.mut (PList.snoc ⟨t4, rfl, upd_same, smq⟩ (hpl.ext E10)) hl10, map_take hz1 hnm rfl, ?_⟩
      rw [upd_ne nll]
      exact hln10
    · rintro σ' H' ⟨y6, y7, y8, y9, vs, qs, b', rfl, eH, hPH, hbH, hlH, hpl, hnm, hlnH⟩
      rw [List.length_map, List.take_length] at hnm
      have hlen := congrArg List.length hnm
      rw [List.length_map] at hlen
      refine ⟨.ref l, rfl, k l vs qs H' b' eH nlH hPH ?_ hlH hpl (by omega) (by omega) (by rw [hnm]; exact nd) (fun m q hq => h7 (by omega) _ (by rw [← hnm]; exact List.mem_map_of_mem hq))⟩
      rw [List.length_map] at hbH
      omega
def spPainters (K : PySem.W.Frag) : Sp := fun vs H Q _ => ∃ (p : Pid) (b : Int), vs = [.ref p.a] ∧ Pen K H p b ∧ b < 10 ^ 8 ∧
  ∀ (l : Addr) (vs : List V) (qs : List Ptr) (H' : Hp) (b' : Int), Ext p.a H H' → H l = none → Pen K H' p b' → b' ≤ b + 70000 → H' l = some (.lst vs) → PList H' Ptr.Md vs qs → qs.length ≤ 6 → (qs.map Ptr.name).Nodup → Q (.ref l) H'
theorem k_painters (T : Tx K mg) : Cal P w K mg base 17 (He.ga K "_law_painters") T.fd_painters P_painters (spPainters K) := by
  have c_draw := k_draw (P := P) (w := w) (base := base) T
  have c_small := k_small (P := P) (w := w) (base := base) T
  have c_aimed := k_aimed (P := P) (w := w) (base := base) T
  have c_lined := k_lined (P := P) (w := w) (base := base) T
  refine ⟨T.fn_painters.ok sc_painters (fun vs H Q E h => ?_) (fun cdv A outer s H vs Q E hr h => ?_), T.fn_painters.kp, FunD.bindsN T.fn_painters fun _ _ _ _ _ _ us hl => match us, hl with | [_], _ => rfl⟩
  · obtain ⟨p, b, rfl, _⟩ := h
    rfl
  · obtain ⟨p, b, rfl, hP, hb, k⟩ := h
    refine ⟨_, PSs.nox (pss_cons (ps_set (i := 1) sc_painters.nd rfl (Or.inl rfl) (pe_call c_draw.F (hr.mono (by decide)) (by rfl) T.g_draw c_draw.kp c_draw.b .nil pass0 (pa_cons (pv 0) (pa_cons pe_int pa_nil))))
      (pss_cons (ps_if (pt_cmpR op_eq (pv 1) pe_int (nomark _)) (pss_one (ps_ret (pe_lst pa_nil))) pss_nil)
      (pss_cons (ps_if (pt_cmpR op_lt (pv 1) pe_int (nomark _)) (pss_one (ps_ret (pe_call c_small.F (hr.mono (by decide)) (by rfl) T.g_small c_small.kp c_small.b .nil pass0 (pa_cons (pv 0) (pa_cons pe_int pa_nil))))) pss_nil)
      (pss_one (ps_ret (pe_ifExp (pt_cmpR op_lt (pv 1) pe_int (nomark _)) (pe_call c_aimed.F (hr.mono (by decide)) (by rfl) T.g_aimed c_aimed.kp c_aimed.b .nil pass0 (pa_cons (pv 0) (pa_cons pe_int pa_nil))) (pe_call c_lined.F (hr.mono (by decide)) (by rfl) T.g_lined c_lined.kp c_lined.b .nil pass0 (pa_cons (pv 0) (pa_cons pe_int pa_nil))))))))), ?_⟩
    refine ⟨.ref p.a, rfl, p, 10, b, rfl, hP, by decide, by decide, by omega, fun r H1 b1 e1 hP1 hb1 r0 r1 => ?_⟩
    have back : ∀ l, H1 l = none → H l = none := fun l h => e1.back h
    refine ⟨.int r, rfl, rfl, _, rfl, ite2 (fun e => ?_) (fun e => ?_)⟩
    · refine ⟨Nat.zero_le _, fun l nl => ?_⟩
      exact k l [] [] _ b1 (e1.trans (Ext.new hP1.is_ nl)) (back l nl) (hP1.new nl) (by omega) upd_same .nil (by decide) .nil
    refine ⟨.int r, rfl, r, 5, rfl, rfl, _, rfl, ite2 (fun e => ?_) (fun e => ?_)⟩
    · refine ⟨.ref p.a, rfl, p, 6, b1, rfl, hP1, by decide, by decide, by omega, fun l vs qs H2 b2 e2 nl hP2 hb2 hl hpl h6 _ nd _ => ?_⟩
      exact k l vs qs H2 b2 (e1.trans e2) (back l nl) hP2 (by omega) hl (hpl.imp fun q h => h.md) (by omega) nd
    refine ⟨.int r, rfl, r, 8, rfl, rfl, _, rfl, ite2 (fun e => ?_) (fun e => ?_)⟩
    · refine ⟨.ref p.a, rfl, p, 6, b1, rfl, hP1, by decide, by decide, by omega, fun l vs qs H2 b2 e2 nl hP2 hb2 hl hpl h6 _ nd _ => ?_⟩
      exact k l vs qs H2 b2 (e1.trans e2) (back l nl) hP2 (by omega) hl hpl (by omega) nd
    · refine ⟨.ref p.a, rfl, p, 6, b1, rfl, hP1, by decide, by decide, by omega, fun l vs qs H2 b2 e2 nl hP2 hb2 hl hpl h6 _ nd _ => ?_⟩
      exact k l vs qs H2 b2 (e1.trans e2) (back l nl) hP2 (by omega) hl hpl (by omega) nd
end
end KP

/-! The drawing defs, over data. -/
namespace KD
open PySem PySem.Spec PyProof.Rows L2 KP
section
variable {P : Program} {w : World} {K : PySem.W.Frag} {mg : Str → Option Value} {base : Heap}
theorem calx_of {k : Nat} {f : Addr} {fd : FuncData} {ps : List Str} {sp : Sp} {W : WD} (c : KP.Cal P w K mg base k f fd ps sp) (h : ∀ vs H Z E, Pr K W vs H Z E → sp vs H Z E) : CalX P w K mg base k f fd ps (Pr K W) := ⟨FnOk.pr c.F h, c.kp, c.b⟩
theorem kx_around (T : Tx K mg) : CalX P w K mg base 14 (He.ga K "_law_around") T.fd_around P_around (Pr K W_around) := calx_of (k_around T) fun vs H Z E ⟨π, G, b, bs, Q, EQ, s, hp, ar, q, kq, ke⟩ => by
  unfold W_around at q
  split at q
  · rename_i many
    obtain ⟨v, u, rfl, ⟨p, hpi, rfl⟩, h2⟩ := args2 ar
    cases (show Rep K G u (.int many) from h2)
    obtain rfl : π = some p := hpi
    obtain ⟨hP, g⟩ := hp.1 p rfl
    exact ⟨p, many, b, rfl, hP, q.1, q.2.1, q.2.2.1, fun r H' b' e hP' hb r0 r1 => kq _ _ G H' b' (fr_ext s e hP' g) (.int r) (q.2.2.2 r b' hb r0 r1)⟩
  · exact q.elim
theorem seq_of {G H : Hp} (s : Same G H) {v : V} {x : D} {xs : List D} (h : Rep K G v x) (e : seqD x = some xs) : ∃ vs, SeqOf K H v vs ∧ Reps K G vs xs := by
  cases h with
  | lst h1 h2 => cases e; exact ⟨_, .inl ⟨_, rfl, .inl (SqL.of (s _ _ h1))⟩, h2⟩
  | tup h1 h2 => cases e; exact ⟨_, .inl ⟨_, rfl, .inr (Same.tup s h1)⟩, h2⟩
  | str z =>
    have e : (if z.length ≤ 1000 then some (z.cps.toList.map fun c => D.str ⟨#[c]⟩) else none) = some xs := e
    by_cases hz : z.length ≤ 1000
    · rw [if_pos hz] at e
      cases e
      refine ⟨_, .inr ⟨z, rfl, hz, rfl⟩, ?_⟩
      generalize z.cps.toList = l
      induction l with
      | nil => exact .nil
      | cons c l ih => exact .cons (.str _) ih
    · rw [if_neg hz] at e; cases e
  | _ => cases e
theorem kx_pick (T : Tx K mg) : CalX P w K mg base 14 (He.ga K "_law_pick") T.fd_pick P_pick (Pr K W_pick) := calx_of (k_pick T) fun vs H Z E ⟨π, G, b, bs, Q, EQ, s, hp, ar, q, kq, ke⟩ => by
  unfold W_pick at q
  split at q
  · rename_i x
    split at q
    · rename_i xs e
      obtain ⟨v, u, rfl, ⟨p, hpi, rfl⟩, h2⟩ := args2 ar
      obtain ⟨ws, hs, hr⟩ := seq_of s (show Rep K G u x from h2) e
      obtain rfl : π = some p := hpi
      obtain ⟨hP, g⟩ := hp.1 p rfl
      have hl := hr.length
      refine ⟨p, u, ws, b, rfl, hP, hs, fun z => q.1 (List.length_eq_zero_iff.mp (by rw [← hl, z]; rfl)), by rw [hl]; exact q.2.1, q.2.2.1, fun v hv H' b' e' hP' hb => ?_⟩
      obtain ⟨i, hi⟩ := List.mem_iff_getElem?.mp hv
      obtain ⟨y, hy, ry⟩ := hr.get hi
      exact kq _ _ G H' b' (fr_ext s e' hP' g) ry (q.2.2.2 y (List.mem_of_getElem? hy) b' hb)
    · exact q.elim
  · exact q.elim
theorem kx_great (T : Tx K mg) : CalX P w K mg base 15 (He.ga K "_law_great") T.fd_great P_great (Pr K W_great) := calx_of (k_great T) fun vs H Z E ⟨π, G, b, bs, Q, EQ, s, hp, ar, q, kq, ke⟩ => by
  unfold W_great at q
  split at q
  · rename_i n
    obtain ⟨v, u, rfl, ⟨p, hpi, rfl⟩, h2⟩ := args2 ar
    cases (show Rep K G u (.int n) from h2)
    obtain rfl : π = some p := hpi
    obtain ⟨hP, g⟩ := hp.1 p rfl
    exact ⟨p, n.toNat, b, by rw [show ((n.toNat : Nat) : Int) = n by omega], hP, by omega, by omega, q.2.2.1, fun r H' b' e hP' hb r0 r1 => kq _ _ G H' b' (fr_ext s e hP' g) (.int r) (q.2.2.2 r b' hb r0 r1)⟩
  · exact q.elim
def ptD (q : Ptr) : Pt := ⟨q.name, q.day, q.post, q.stride⟩
theorem plist_reps {G G2 H : Hp} {R : Ptr → Prop} : ∀ {vs : List V} {qs : List Ptr}, PList H R vs qs → Reps K (tups G2 H) vs ((qs.map ptD).map Pt.d)
  | _, _, .nil => .nil
  | _, _, .cons (b := q) ⟨a, e, h, g⟩ r => by
    subst e
    exact .cons (.tup (SqT.of (by unfold tups; rw [h]; rfl)) (.cons (.str _) (.cons (.int _) (.cons (.int _) (.cons (.int _) .nil))))) (plist_reps (G := G) r)
theorem nm_map (qs : List Ptr) : (qs.map ptD).map Pt.nm = qs.map Ptr.name := by simp [ptD, Function.comp_def]
theorem plist_all {H : Hp} {R : Ptr → Prop} {S : Pt → Prop} (f : ∀ q, R q → S (ptD q)) : ∀ {vs : List V} {qs : List Ptr}, PList H R vs qs → ∀ q ∈ qs.map ptD, S q
  | _, _, .nil, _, h => by simp at h
  | _, _, .cons ⟨a, e, h, g⟩ r, q, hq => by
    rcases List.mem_cons.mp hq with z | z
    · subst z; exact f _ g
    · exact plist_all f r q z
theorem lst_tups {G2 H' : Hp} {l : Addr} {vs : List V} (hl : H' l = some (.lst vs)) : tups (upd G2 l (.lst vs)) H' l = some (.lst vs) := by unfold tups; rw [hl]; exact upd_same
theorem md_in (q : Ptr) (h : q.Md) : (ptD q).In (2 * 10 ^ 29) (2 * 10 ^ 29) (2 * 10 ^ 17) := ⟨h.nm, h.d0, h.d1, h.p0, h.p1, h.s0, h.s1, h.sn⟩
theorem kx_painters (T : Tx K mg) : CalX P w K mg base 17 (He.ga K "_law_painters") T.fd_painters P_painters (Pr K W_painters) := calx_of (k_painters T) fun vs H Z E ⟨π, G, b, bs, Q, EQ, s, hp, ar, q, kq, ke⟩ => by
  unfold W_painters at q
  split at q
  · obtain ⟨v, rfl, ⟨p, hpi, rfl⟩⟩ := args1 ar
    obtain rfl : π = some p := hpi
    obtain ⟨hP, g⟩ := hp.1 p rfl
    refine ⟨p, b, rfl, hP, q.1, fun l vs qs H' b' e nl hP' hb hl pl h1 nd => ?_⟩
    exact kq _ (.lst ((qs.map ptD).map Pt.d)) _ H' b' (fr_tups (fr_list s e hP' g nl hl)) (.lst (lst_tups hl) (plist_reps (G := G) pl)) (q.2 (qs.map ptD) b' hb (plist_all md_in pl) (by simpa using h1) (by rw [nm_map]; exact nd))
  · exact q.elim
end
end KD

namespace KD
open PySem PySem.Spec PyProof.Rows L2 KP
def spLaw (K : PySem.W.Frag) : Sp := fun vs H Q _ => ∃ (a : Addr) (ns : List Int), vs = [.ref a] ∧ SqL K H a (ns.map V.int) ∧ ns.length ≤ 63 ∧ TbH K H ∧ ∀ H', Q (.bl true) H'
section
variable {P : Program} {w : World} {K : PySem.W.Frag} {mg : Str → Option Value} {base : Heap}
theorem kx_is_integer (T : Tx K mg) (PO : ErM.PrgOk P mainF) : CalX P w K mg base 1 (He.ga K "is_integer") T.fd_is_integer P_is_integer (Pr K W_is_integer) := by
  refine ⟨?_, T.fn_is_integer.kp, FunD.bindsN T.fn_is_integer fun _ _ _ _ _ _ us hl => match us, hl with | [_], _ => rfl⟩
  rw [W_is_integer]
  refine def_ok (k := 0) T.fn_is_integer sc_is_integer fun cdv A outer s H E hr tk => ?_
  exact (ds_one (ds_ret (d_and (d_b call_isiD (by rfl) T.b_isinstance (by decide +kernel) (da_cons (dv 0) (da_cons (d_ty (by rfl) T.b_int PyProof.Rows.boot_int) da_nil))) (d_one (d_not (d_b call_isiD (by rfl) T.b_isinstance (by decide +kernel) (da_cons (dv 0) (da_cons (d_ty (by rfl) T.b_bool PyProof.Rows.boot_bool) da_nil))))))))
theorem kx_is_between (T : Tx K mg) (PO : ErM.PrgOk P mainF) : CalX P w K mg base 2 (He.ga K "is_between") T.fd_is_between P_is_between (Pr K W_is_between) := by
  have c_is_integer := kx_is_integer (P := P) (w := w) (base := base) T PO
  refine ⟨?_, T.fn_is_between.kp, FunD.bindsN T.fn_is_between fun _ _ _ _ _ _ us hl => match us, hl with | [_, _, _], _ => rfl⟩
  rw [W_is_between]
  refine def_ok (k := 1) T.fn_is_between sc_is_between fun cdv A outer s H E hr tk => ?_
  exact (ds_one (ds_ret (d_and (d_call c_is_integer.F (hr.mono (by decide)) (by rfl) T.g_is_integer c_is_integer.kp c_is_integer.b tk (da_cons (dv 0) da_nil)) (d_one (d_chain op_leD op_leD (dv 1) (dv 0) (dv 2))))))
theorem kx_is_name (T : Tx K mg) (PO : ErM.PrgOk P mainF) : CalX P w K mg base 1 (He.ga K "is_name") T.fd_is_name P_is_name (Pr K W_is_name) := by
  refine ⟨?_, T.fn_is_name.kp, FunD.bindsN T.fn_is_name fun _ _ _ _ _ _ us hl => match us, hl with | [_], _ => rfl⟩
  rw [W_is_name]
  refine def_ok (k := 0) T.fn_is_name sc_is_name fun cdv A outer s H E hr tk => ?_
  exact (ds_cons (ds_cut (ds_if (PW.pt (dw_or (dt_not (dt_bool (d_b call_isiD (by rfl) T.b_isinstance (by decide +kernel) (da_cons (dv 0) (da_cons (d_ty (by rfl) T.b_str PyProof.Rows.boot_str) da_nil))))) (dw_or1 (dt_not (dt_chain op_leD op_leD d_int (d_lenV (pv 0) (by rfl) T.b_len) (d_gI (by rfl) T.g_MAX_NAME)))))) (ds_one (ds_ret d_bl)) ds_nil))
    (ds_one (ds_ret (d_b (call_allD rfl) (by rfl) T.b_all (by decide +kernel) (da_cons (DF.de (df_lc (pe_lc (own := [("letter", 1)]) rfl sc_is_name.nd (di_str (pi_str (dv 0))) (blkOk_by (own := [("letter", 1)]) (N := N_is_name) (sc := defScope s_is_name) (by decide +kernel)) (fun _ _ _ _ _ => (dg_name (pg_name (i := 1) sc_is_name.nd rfl (Or.inl rfl)))) (fun _ _ _ _ _ => dts_nil) (fun _ _ _ _ _ => (d_cmp (op_inD (hu_of hr)) (dv 1) (d_gS (by rfl) T.g_LETTERS)))))) da_nil)))))
theorem kx_Painter_init (T : Tx K mg) (PO : ErM.PrgOk P mainF) : CalX P w K mg base 3 (He.ma K (He.ga K "Painter") "__init__") T.fd_Painter_init P_Painter_init (PrI K "Painter" W_Painter_init) := by
  have c_is_name := kx_is_name (P := P) (w := w) (base := base) T PO
  have c_is_between := kx_is_between (P := P) (w := w) (base := base) T PO
  refine ⟨?_, T.fn_Painter_init.kp, FunD.bindsN T.fn_Painter_init fun _ _ _ _ _ _ us hl => match us, hl with | [_, _, _, _, _], _ => rfl⟩
  rw [W_Painter_init]
  refine init_ok (k := 2) T.fn_Painter_init sc_Painter_init fun cdv A outer s H E hr tk => ?_
  exact (ds_cons (ds_if (dt_not (dt_bool (d_call c_is_name.F (hr.mono (by decide)) (by rfl) T.g_is_name_names c_is_name.kp c_is_name.b tk (da_cons (dv 1) da_nil)))) (ds_one (ds_raise PO T.er_InvalidPainter T.b_super hr (by rfl) T.g_InvalidPainter rfl tk d_str)) ds_nil)
    (ds_cons (ds_if (dt_not (dt_bool (d_call c_is_between.F (hr.mono (by decide)) (by rfl) T.g_is_between c_is_between.kp c_is_between.b tk (da_cons (dv 2) (da_cons d_int (da_cons (d_conV (cn := "Painter") (pv 0) T.c_Painter T.o_Painter_MAX_DAY) da_nil)))))) (ds_one (ds_raise PO T.er_InvalidPainter T.b_super hr (by rfl) T.g_InvalidPainter rfl tk d_str)) ds_nil)
    (ds_cons (ds_if (dt_not (dt_bool (d_call c_is_between.F (hr.mono (by decide)) (by rfl) T.g_is_between c_is_between.kp c_is_between.b tk (da_cons (dv 3) (da_cons (d_un un_negD (d_conV (cn := "Painter") (pv 0) T.c_Painter T.o_Painter_MAX_POST)) (da_cons (d_conV (cn := "Painter") (pv 0) T.c_Painter T.o_Painter_MAX_POST) da_nil)))))) (ds_one (ds_raise PO T.er_InvalidPainter T.b_super hr (by rfl) T.g_InvalidPainter rfl tk d_str)) ds_nil)
    (ds_cons (ds_cut (ds_if (PW.pt (dw_or (dt_not (dt_bool (d_call c_is_between.F (hr.mono (by decide)) (by rfl) T.g_is_between c_is_between.kp c_is_between.b tk (da_cons (dv 4) (da_cons (d_un un_negD (d_conV (cn := "Painter") (pv 0) T.c_Painter T.o_Painter_MAX_STRIDE)) (da_cons (d_conV (cn := "Painter") (pv 0) T.c_Painter T.o_Painter_MAX_STRIDE) da_nil)))))) (dw_or1 (dt_cmp (op_eqDD hr.units) (dv 4) d_int)))) (ds_one (ds_raise PO T.er_InvalidPainter T.b_super hr (by rfl) T.g_InvalidPainter rfl tk d_str)) ds_nil))
    (ds_one (ds_fldC (cn := "Painter") (ps_fld (pv 0) (d_tup (da_cons (dv 1) (da_cons (dv 2) (da_cons (dv 3) (da_cons (dv 4) da_nil))))) rfl) T.c_Painter T.n_Painter_parts))))))
theorem kx_Painter_name (T : Tx K mg) (PO : ErM.PrgOk P mainF) : CalX P w K mg base 1 (pgA K (He.ga K "Painter") "name") T.fd_Painter_name P_Painter_name (Pr K W_Painter_name) := by
  refine ⟨?_, T.fn_Painter_name.kp, FunD.bindsN T.fn_Painter_name fun _ _ _ _ _ _ us hl => match us, hl with | [_], _ => rfl⟩
  rw [W_Painter_name]
  refine def_ok (k := 0) T.fn_Painter_name sc_Painter_name fun cdv A outer s H E hr tk => ?_
  exact (ds_one (ds_ret (d_ix (hu_of hr) (d_fldC (dv 0) T.c_Painter T.n_Painter_parts) d_int)))
theorem kx_Painter_day (T : Tx K mg) (PO : ErM.PrgOk P mainF) : CalX P w K mg base 1 (pgA K (He.ga K "Painter") "day") T.fd_Painter_day P_Painter_day (Pr K W_Painter_day) := by
  refine ⟨?_, T.fn_Painter_day.kp, FunD.bindsN T.fn_Painter_day fun _ _ _ _ _ _ us hl => match us, hl with | [_], _ => rfl⟩
  rw [W_Painter_day]
  refine def_ok (k := 0) T.fn_Painter_day sc_Painter_day fun cdv A outer s H E hr tk => ?_
  exact (ds_one (ds_ret (d_ix (hu_of hr) (d_fldC (dv 0) T.c_Painter T.n_Painter_parts) d_int)))
theorem kx_Painter_post (T : Tx K mg) (PO : ErM.PrgOk P mainF) : CalX P w K mg base 1 (pgA K (He.ga K "Painter") "post") T.fd_Painter_post P_Painter_post (Pr K W_Painter_post) := by
  refine ⟨?_, T.fn_Painter_post.kp, FunD.bindsN T.fn_Painter_post fun _ _ _ _ _ _ us hl => match us, hl with | [_], _ => rfl⟩
  rw [W_Painter_post]
  refine def_ok (k := 0) T.fn_Painter_post sc_Painter_post fun cdv A outer s H E hr tk => ?_
  exact (ds_one (ds_ret (d_ix (hu_of hr) (d_fldC (dv 0) T.c_Painter T.n_Painter_parts) d_int)))
theorem kx_Painter_stride (T : Tx K mg) (PO : ErM.PrgOk P mainF) : CalX P w K mg base 1 (pgA K (He.ga K "Painter") "stride") T.fd_Painter_stride P_Painter_stride (Pr K W_Painter_stride) := by
  refine ⟨?_, T.fn_Painter_stride.kp, FunD.bindsN T.fn_Painter_stride fun _ _ _ _ _ _ us hl => match us, hl with | [_], _ => rfl⟩
  rw [W_Painter_stride]
  refine def_ok (k := 0) T.fn_Painter_stride sc_Painter_stride fun cdv A outer s H E hr tk => ?_
  exact (ds_one (ds_ret (d_ix (hu_of hr) (d_fldC (dv 0) T.c_Painter T.n_Painter_parts) d_int)))
theorem kx_integer_in (T : Tx K mg) (PO : ErM.PrgOk P mainF) : CalX P w K mg base 1 (He.ga K "integer_in") T.fd_integer_in P_integer_in (Pr K W_integer_in) := by
  obtain ⟨ds0, vd0, bd0⟩ := FunD.binds1 (ps := P_integer_in) T.fn_integer_in 2 1 (fun z => nomatch z) rfl fun _ _ _ _ _ _ _ us its h1 h2 => match us, its, h1, h2 with | [_, _], [_], _, _ => ⟨_, rfl, rfl⟩
  cases vd0
  refine ⟨?_, T.fn_integer_in.kp, bd0⟩
  rw [W_integer_in]
  refine def_ok (k := 0) T.fn_integer_in sc_integer_in fun cdv A outer s H E hr tk => ?_
  exact (ds_cons (ds_set (ps_set (i := 2) sc_integer_in.nd rfl (Or.inl rfl) (d_cut (d_if (dt_cmp (op_eqDD hr.units) (d_slV (pv 0) do_none (do_some d_int)) d_str) (d_slV (pv 0) (do_some d_int) do_none) (dv 0)))))
    (ds_cons (ds_cut (ds_if (PW.pt (dw_or (dt_not (dt_chain op_leD op_leD d_int (d_lenV (pv 2) (by rfl) T.b_len) (dv 1))) (dw_or1 (dt_not (dt_bool (d_b (call_allD rfl) (by rfl) T.b_all (by decide +kernel) (da_cons (DF.de (df_lc (pe_lc (own := [("digit", 3)]) rfl sc_integer_in.nd (di_str (pi_str (dv 2))) (blkOk_by (own := [("digit", 3)]) (N := N_integer_in) (sc := defScope s_integer_in) (by decide +kernel)) (fun _ _ _ _ _ => (dg_name (pg_name (i := 3) sc_integer_in.nd rfl (Or.inl rfl)))) (fun _ _ _ _ _ => dts_nil) (fun _ _ _ _ _ => (d_cmp (op_inD (hu_of hr)) (dv 3) (d_gS (by rfl) T.g_DIGITS)))))) da_nil))))))) (ds_one (ds_ret d_non)) ds_nil))
    (ds_cons (ds_cut (ds_if (PW.pt (dw_and (dt_cmp (op_eqDD hr.units) (d_ixN (hu_of hr) (pv 2) d_int) d_str) (dw_and1 (dt_cmp (op_neDD hr.units) (dv 0) d_str)))) (ds_one (ds_ret d_non)) ds_nil))
    (ds_one (ds_ret (d_bT call_intSD (by rfl) T.b_int (by decide +kernel) (da_cons (dv 0) da_nil)))))))
theorem kx_painter_line (T : Tx K mg) (PO : ErM.PrgOk P mainF) : CalX P w K mg base 1 (He.ga K "painter_line") T.fd_painter_line P_painter_line (Pr K W_painter_line) := by
  refine ⟨?_, T.fn_painter_line.kp, FunD.bindsN T.fn_painter_line fun _ _ _ _ _ _ us hl => match us, hl with | [_, _, _, _], _ => rfl⟩
  rw [W_painter_line]
  refine def_ok (k := 0) T.fn_painter_line sc_painter_line fun cdv A outer s H E hr tk => ?_
  exact (ds_one (ds_ret (d_js (ws := [(eFmt (eVar 0)), (eK (.str " ")), (eFmt (eVar 1)), (eK (.str " ")), (eFmt (eVar 2)), (eK (.str " ")), (eFmt (eVar 3))]) (PJ.cons (d_fmt (dv 0)) (PJ.cons d_str (PJ.cons (d_fmt (dv 1)) (PJ.cons d_str (PJ.cons (d_fmt (dv 2)) (PJ.cons d_str (PJ.cons (d_fmt (dv 3)) PJ.nil))))))))))
theorem kx_painter_parts (T : Tx K mg) (PO : ErM.PrgOk P mainF) : CalX P w K mg base 2 (He.ga K "painter_parts") T.fd_painter_parts P_painter_parts (Pr K W_painter_parts) := by
  have c_integer_in := kx_integer_in (P := P) (w := w) (base := base) T PO
  have c_is_name := kx_is_name (P := P) (w := w) (base := base) T PO
  obtain ⟨ds_integer_in, vd_integer_in, bd_integer_in⟩ := FunD.binds1 (ps := P_integer_in) T.fn_integer_in 1 0 (fun z => nomatch z) rfl fun _ _ _ _ _ _ _ us its h1 h2 => match us, its, h1, h2 with | [_], [_], _, _ => ⟨_, rfl, rfl⟩
  refine ⟨?_, T.fn_painter_parts.kp, FunD.bindsN T.fn_painter_parts fun _ _ _ _ _ _ us hl => match us, hl with | [_], _ => rfl⟩
  rw [W_painter_parts]
  refine def_ok (k := 1) T.fn_painter_parts sc_painter_parts fun cdv A outer s H E hr tk => ?_
  exact (ds_cons (ds_asg (ps_asg (d_split (dv 0) d_str) (dg_star (pg_star rfl (dgs_cons (pgs_cons (dg_name (pg_name (i := 1) sc_painter_parts.nd rfl (Or.inl rfl))) (dgs_star1 (dg_name (pg_name (i := 2) sc_painter_parts.nd rfl (Or.inl rfl))))))))))
    (ds_cons (ds_lc (ps_setLc (i := 3) (own := [("word", 4)]) rfl sc_painter_parts.nd rfl rfl (sw_true rfl rfl rfl (by decide +kernel)) (di_list (pi_list (dv 2))) (blkOk_by (own := [("word", 4)]) (N := N_painter_parts) (sc := defScope s_painter_parts) (by decide +kernel)) (fun _ _ _ _ _ => (dg_name (pg_name (i := 4) sc_painter_parts.nd rfl (Or.inl rfl)))) (fun _ _ _ _ _ => dts_nil) (fun _ _ _ _ _ => (d_callD c_integer_in.F (hr.mono (by decide)) (by rfl) T.g_integer_in c_integer_in.kp bd_integer_in vd_integer_in (fun G => (.cons (.int _) .nil)) takes0 (da_cons (dv 4) da_nil)))))
    (ds_cons (ds_cut (ds_if (PW.pt (dw_or (dt_not (dt_bool (d_call c_is_name.F (hr.mono (by decide)) (by rfl) T.g_is_name_names c_is_name.kp c_is_name.b tk (da_cons (dv 1) da_nil)))) (dw_or (dt_cmp (op_neDD hr.units) (d_lenV (pv 3) (by rfl) T.b_len) d_int) (dw_or1 (dt_cmp (op_inD (hu_of hr)) d_non (dv 3)))))) (ds_one (ds_ret d_non)) ds_nil))
    (ds_one (ds_ret (d_tup (da_cons (dv 1) (da_star (dv 3) da_nil))))))))
theorem kx_Painter_text (T : Tx K mg) (PO : ErM.PrgOk P mainF) : CalX P w K mg base 2 (pgA K (He.ga K "Painter") "text") T.fd_Painter_text P_Painter_text (Pr K W_Painter_text) := by
  have c_painter_line := kx_painter_line (P := P) (w := w) (base := base) T PO
  refine ⟨?_, T.fn_Painter_text.kp, FunD.bindsN T.fn_Painter_text fun _ _ _ _ _ _ us hl => match us, hl with | [_], _ => rfl⟩
  rw [W_Painter_text]
  refine def_ok (k := 1) T.fn_Painter_text sc_Painter_text fun cdv A outer s H E hr tk => ?_
  exact (ds_one (ds_ret (d_callS1 c_painter_line.F (hr.mono (by decide)) (by rfl) T.g_painter_line c_painter_line.kp c_painter_line.b tk (d_fldC (dv 0) T.c_Painter T.n_Painter_parts))))
theorem kx_Painter_add (T : Tx K mg) (PO : ErM.PrgOk P mainF) : CalX P w K mg base 5 (He.ma K (He.ga K "Painter") "__add__") T.fd_Painter_add P_Painter_add (Pr K W_Painter_add) := by
  have c_Painter_init := kx_Painter_init (P := P) (w := w) (base := base) T PO
  have c_Painter_stride := kx_Painter_stride (P := P) (w := w) (base := base) T PO
  have c_Painter_post := kx_Painter_post (P := P) (w := w) (base := base) T PO
  have c_Painter_day := kx_Painter_day (P := P) (w := w) (base := base) T PO
  have c_Painter_name := kx_Painter_name (P := P) (w := w) (base := base) T PO
  refine ⟨?_, T.fn_Painter_add.kp, FunD.bindsN T.fn_Painter_add fun _ _ _ _ _ _ us hl => match us, hl with | [_, _], _ => rfl⟩
  rw [W_Painter_add]
  refine def_ok (k := 4) T.fn_Painter_add sc_Painter_add fun cdv A outer s H E hr tk => ?_
  exact (ds_one (ds_ret (d_make T.k_Painter c_Painter_init.F (hr.mono (by decide)) (by rfl) T.g_Painter c_Painter_init.b tk (da_cons (d_prop (dv 0) T.c_Painter T.p_Painter_name c_Painter_name.F (hr.mono (by decide)) c_Painter_name.b) (da_cons (d_prop (dv 0) T.c_Painter T.p_Painter_day c_Painter_day.F (hr.mono (by decide)) c_Painter_day.b) (da_cons (d_op op_addD (d_prop (dv 0) T.c_Painter T.p_Painter_post c_Painter_post.F (hr.mono (by decide)) c_Painter_post.b) (dv 1)) (da_cons (d_prop (dv 0) T.c_Painter T.p_Painter_stride c_Painter_stride.F (hr.mono (by decide)) c_Painter_stride.b) da_nil)))))))
theorem kx_Painter_neg (T : Tx K mg) (PO : ErM.PrgOk P mainF) : CalX P w K mg base 5 (He.ma K (He.ga K "Painter") "__neg__") T.fd_Painter_neg P_Painter_neg (Pr K W_Painter_neg) := by
  have c_Painter_init := kx_Painter_init (P := P) (w := w) (base := base) T PO
  have c_Painter_stride := kx_Painter_stride (P := P) (w := w) (base := base) T PO
  have c_Painter_post := kx_Painter_post (P := P) (w := w) (base := base) T PO
  have c_Painter_day := kx_Painter_day (P := P) (w := w) (base := base) T PO
  have c_Painter_name := kx_Painter_name (P := P) (w := w) (base := base) T PO
  refine ⟨?_, T.fn_Painter_neg.kp, FunD.bindsN T.fn_Painter_neg fun _ _ _ _ _ _ us hl => match us, hl with | [_], _ => rfl⟩
  rw [W_Painter_neg]
  refine def_ok (k := 4) T.fn_Painter_neg sc_Painter_neg fun cdv A outer s H E hr tk => ?_
  exact (ds_one (ds_ret (d_make T.k_Painter c_Painter_init.F (hr.mono (by decide)) (by rfl) T.g_Painter c_Painter_init.b tk (da_cons (d_prop (dv 0) T.c_Painter T.p_Painter_name c_Painter_name.F (hr.mono (by decide)) c_Painter_name.b) (da_cons (d_prop (dv 0) T.c_Painter T.p_Painter_day c_Painter_day.F (hr.mono (by decide)) c_Painter_day.b) (da_cons (d_un un_negD (d_prop (dv 0) T.c_Painter T.p_Painter_post c_Painter_post.F (hr.mono (by decide)) c_Painter_post.b)) (da_cons (d_un un_negD (d_prop (dv 0) T.c_Painter T.p_Painter_stride c_Painter_stride.F (hr.mono (by decide)) c_Painter_stride.b)) da_nil)))))))
theorem kx_Painter_eq (T : Tx K mg) (PO : ErM.PrgOk P mainF) : CalX P w K mg base 1 (He.ma K (He.ga K "Painter") "__eq__") T.fd_Painter_eq P_Painter_eq (Pr K W_Painter_eq) := by
  refine ⟨?_, T.fn_Painter_eq.kp, FunD.bindsN T.fn_Painter_eq fun _ _ _ _ _ _ us hl => match us, hl with | [_, _], _ => rfl⟩
  rw [W_Painter_eq]
  refine def_ok (k := 0) T.fn_Painter_eq sc_Painter_eq fun cdv A outer s H E hr tk => ?_
  exact (ds_one (ds_ret (d_and (d_b (call_isiC (cn := "Painter") T.c_Painter T.is_Painter (fun d hd => nomatch hd)) (by rfl) T.b_isinstance (by decide +kernel) (da_cons (dv 1) (da_cons (d_gC (by rfl) T.g_Painter) da_nil))) (d_one (d_cmp (op_eqDD hr.units) (d_fldC (dv 0) T.c_Painter T.n_Painter_parts) (d_fldC (dv 1) T.c_Painter T.n_Painter_parts))))))
theorem kx_Painter_read (T : Tx K mg) (PO : ErM.PrgOk P mainF) : CalX P w K mg base 5 (cmA K (He.ga K "Painter") "read") T.fd_Painter_read P_Painter_read (Pr K W_Painter_read) := by
  have c_painter_parts := kx_painter_parts (P := P) (w := w) (base := base) T PO
  have c_Painter_init := kx_Painter_init (P := P) (w := w) (base := base) T PO
  refine ⟨?_, T.fn_Painter_read.kp, FunD.bindsN T.fn_Painter_read fun _ _ _ _ _ _ us hl => match us, hl with | [_, _], _ => rfl⟩
  rw [W_Painter_read]
  refine def_ok (k := 4) T.fn_Painter_read sc_Painter_read fun cdv A outer s H E hr tk => ?_
  exact (ds_cons (ds_set (ps_set (i := 2) sc_Painter_read.nd rfl (Or.inl rfl) (d_cut (d_if (dt_bool (d_b call_isiD (by rfl) T.b_isinstance (by decide +kernel) (da_cons (dv 1) (da_cons (d_ty (by rfl) T.b_str PyProof.Rows.boot_str) da_nil)))) (d_call c_painter_parts.F (hr.mono (by decide)) (by rfl) T.g_painter_parts c_painter_parts.kp c_painter_parts.b tk (da_cons (dv 1) da_nil)) d_non))))
    (ds_cons (ds_if (dt_cmp op_isD (dv 2) d_non) (ds_one (ds_raise PO T.er_ParseError T.b_super hr (by rfl) T.g_ParseError rfl tk d_int)) ds_nil)
    (ds_one (ds_tryN (ds_one (ds_ret (d_makeV (pv 0) T.k_Painter.kp (run_ok T.k_Painter c_Painter_init.F (hr.mono (by decide)) c_Painter_init.b takes0) (dv 2))))))))
theorem kx_Fence_init (T : Tx K mg) (PO : ErM.PrgOk P mainF) : CalR P w K mg base 3 (He.ma K (He.ga K "Fence") "__init__") (PrI K "Fence" W_Fence_init) := by
  have c_Painter_name := kx_Painter_name (P := P) (w := w) (base := base) T PO
  refine ⟨?_⟩
  rw [W_Fence_init]
  refine init_okS (ps := ["self"]) (pv := "painters") (k := 2) T.fn_Fence_init sc_Fence_init (bindsS T.fn_Fence_init fun _ _ _ _ _ _ us rest hl => match us, hl, rest with | [_], _, [] => rfl | [_], _, _ :: _ => rfl) (by decide) fun cdv A outer s H E hr tk => ?_
  exact (ds_cons (ds_for (ps_for (passes_of rfl) rfl (di_enT (pi_enumT (by rfl) T.b_enumerate (da_cons (dv 1) da_nil))) (dg_tup (pg_tup rfl (dgs_cons (pgs_cons (dg_name (pg_name (i := 2) sc_Fence_init.nd rfl (Or.inl rfl))) (dgs_cons (pgs_cons (dg_name (pg_name (i := 3) sc_Fence_init.nd rfl (Or.inl rfl))) dgs_nil))))))
    (ds_one (ds_if (dt_not (dt_bool (d_b (call_isiC (cn := "Painter") T.c_Painter T.is_Painter (fun d hd => nomatch hd)) (by rfl) T.b_isinstance (by decide +kernel) (da_cons (dv 3) (da_cons (d_gC (by rfl) T.g_Painter) da_nil))))) (ds_one (ds_raise PO T.er_InvalidFence T.b_super hr (by rfl) T.g_InvalidFence rfl tk (dv 2))) ds_nil))))
    (ds_cons (ds_lc (ps_setLc (i := 4) (own := [("painter", 3)]) rfl sc_Fence_init.nd rfl rfl (sw_true rfl rfl rfl (by decide +kernel)) (di_tup (pi_tup (dv 1))) (blkOk_by (own := [("painter", 3)]) (N := N_Fence_init) (sc := defScope s_Fence_init) (by decide +kernel)) (fun _ _ _ _ _ => (dg_name (pg_name (i := 3) sc_Fence_init.nd rfl (Or.inl rfl)))) (fun _ _ _ _ _ => dts_nil) (fun _ _ _ _ _ => (d_prop (dv 3) T.c_Painter T.p_Painter_name c_Painter_name.F (hr.mono (by decide)) c_Painter_name.b))))
    (ds_cons (ds_for (ps_for (passes_of rfl) rfl (di_en (pi_enum (by rfl) T.b_enumerate (da_cons (dv 4) da_nil))) (dg_tup (pg_tup rfl (dgs_cons (pgs_cons (dg_name (pg_name (i := 2) sc_Fence_init.nd rfl (Or.inl rfl))) (dgs_cons (pgs_cons (dg_name (pg_name (i := 5) sc_Fence_init.nd rfl (Or.inl rfl))) dgs_nil))))))
    (ds_one (ds_if (dt_cmp (op_inD (hu_of hr)) (dv 5) (d_slV (pv 4) do_none (do_some (dv 2)))) (ds_one (ds_raise PO T.er_DuplicateName T.b_super hr (by rfl) T.g_DuplicateName rfl tk (dv 5))) ds_nil))))
    (ds_cons (ds_if (dt_cmp op_gtD (d_lenV (pv 1) (by rfl) T.b_len) (d_gI (by rfl) T.g_MAX_PAINTERS)) (ds_one (ds_raise PO T.er_TooMany T.b_super hr (by rfl) T.g_TooMany rfl tk (d_gI (by rfl) T.g_MAX_PAINTERS))) ds_nil)
    (ds_cons (ds_fldC (cn := "Fence") (ps_fld (pv 0) (dv 1) rfl) T.c_Fence T.n_Fence_listed)
    (ds_one (ds_fldC (cn := "Fence") (ps_fld (pv 0) (d_dc (pe_dc (own := [("index", 2), ("name", 5)]) rfl sc_Fence_init.nd (di_en (pi_enum (by rfl) T.b_enumerate (da_cons (dv 4) da_nil))) (blkOk_by (own := [("index", 2), ("name", 5)]) (N := N_Fence_init) (sc := defScope s_Fence_init) (by decide +kernel)) (fun _ _ _ _ _ => (dg_tup (pg_tup rfl (dgs_cons (pgs_cons (dg_name (pg_name (i := 2) sc_Fence_init.nd rfl (Or.inl rfl))) (dgs_cons (pgs_cons (dg_name (pg_name (i := 5) sc_Fence_init.nd rfl (Or.inl rfl))) dgs_nil))))))) (fun _ _ _ _ _ => dts_nil) (fun _ _ _ _ _ => (dv 5)) (fun _ _ _ _ _ => (dv 2)))) rfl) T.c_Fence T.n_Fence_places)))))))
theorem kx_Fence_contains (T : Tx K mg) (PO : ErM.PrgOk P mainF) : CalX P w K mg base 1 (He.ma K (He.ga K "Fence") "__contains__") T.fd_Fence_contains P_Fence_contains (Pr K W_Fence_contains) := by
  refine ⟨?_, T.fn_Fence_contains.kp, FunD.bindsN T.fn_Fence_contains fun _ _ _ _ _ _ us hl => match us, hl with | [_, _], _ => rfl⟩
  rw [W_Fence_contains]
  refine def_ok (k := 0) T.fn_Fence_contains sc_Fence_contains fun cdv A outer s H E hr tk => ?_
  exact (ds_one (ds_ret (d_and (d_b call_isiD (by rfl) T.b_isinstance (by decide +kernel) (da_cons (dv 1) (da_cons (d_ty (by rfl) T.b_str PyProof.Rows.boot_str) da_nil))) (d_one (d_cmp (op_inD (hu_of hr)) (dv 1) (d_fldC (dv 0) T.c_Fence T.n_Fence_places))))))
theorem kx_Fence_need_name (T : Tx K mg) (PO : ErM.PrgOk P mainF) : CalX P w K mg base 2 (He.ma K (He.ga K "Fence") "need_name") T.fd_Fence_need_name P_Fence_need_name (Pr K W_Fence_need_name) := by
  have c_Fence_contains := kx_Fence_contains (P := P) (w := w) (base := base) T PO
  refine ⟨?_, T.fn_Fence_need_name.kp, FunD.bindsN T.fn_Fence_need_name fun _ _ _ _ _ _ us hl => match us, hl with | [_, _], _ => rfl⟩
  rw [W_Fence_need_name]
  refine def_ok (k := 1) T.fn_Fence_need_name sc_Fence_need_name fun cdv A outer s H E hr tk => ?_
  exact (ds_one (ds_if (dt_inO (.inr ⟨rfl, rfl⟩) (dv 1) (dv 0) T.m_Fence___contains__ c_Fence_contains.F (hr.mono (by decide)) c_Fence_contains.b tk) (ds_one (ds_raise PO T.er_UnknownName T.b_super hr (by rfl) T.g_UnknownName rfl tk (dv 1))) ds_nil))
theorem kx_Fence_getitem (T : Tx K mg) (PO : ErM.PrgOk P mainF) : CalX P w K mg base 3 (He.ma K (He.ga K "Fence") "__getitem__") T.fd_Fence_getitem P_Fence_getitem (Pr K W_Fence_getitem) := by
  have c_Fence_need_name := kx_Fence_need_name (P := P) (w := w) (base := base) T PO
  refine ⟨?_, T.fn_Fence_getitem.kp, FunD.bindsN T.fn_Fence_getitem fun _ _ _ _ _ _ us hl => match us, hl with | [_, _], _ => rfl⟩
  rw [W_Fence_getitem]
  refine def_ok (k := 2) T.fn_Fence_getitem sc_Fence_getitem fun cdv A outer s H E hr tk => ?_
  exact (ds_cons (ds_expr (ps_expr (d_meth (dv 0) T.c_Fence T.m_Fence_need_name c_Fence_need_name.F (hr.mono (by decide)) c_Fence_need_name.b .nil (fun _ => .nil) tk (da_cons (dv 1) da_nil))))
    (ds_one (ds_ret (d_ix (hu_of hr) (d_fldC (dv 0) T.c_Fence T.n_Fence_listed) (d_ix (hu_of hr) (d_fldC (dv 0) T.c_Fence T.n_Fence_places) (dv 1))))))
theorem kx_Fence_eq (T : Tx K mg) (PO : ErM.PrgOk P mainF) : CalX P w K mg base 3 (He.ma K (He.ga K "Fence") "__eq__") T.fd_Fence_eq P_Fence_eq (Pr K W_Fence_eq) := by
  have c_Painter_eq := kx_Painter_eq (P := P) (w := w) (base := base) T PO
  refine ⟨?_, T.fn_Fence_eq.kp, FunD.bindsN T.fn_Fence_eq fun _ _ _ _ _ _ us hl => match us, hl with | [_, _], _ => rfl⟩
  rw [W_Fence_eq]
  refine def_ok (k := 2) T.fn_Fence_eq sc_Fence_eq fun cdv A outer s H E hr tk => ?_
  exact (ds_one (ds_ret (d_and (d_b (call_isiC (cn := "Fence") T.c_Fence T.is_Fence (fun d hd => nomatch hd)) (by rfl) T.b_isinstance (by decide +kernel) (da_cons (dv 1) (da_cons (d_gC (by rfl) T.g_Fence) da_nil))) (d_one (d_tupC false rfl (d_fldC (dv 0) T.c_Fence T.n_Fence_listed) (d_fldC (dv 1) T.c_Fence T.n_Fence_listed) T.m_Painter___eq__ c_Painter_eq.F (hr.mono (by decide)) c_Painter_eq.b tk)))))
theorem kx_line (T : Tx K mg) (PO : ErM.PrgOk P mainF) : CalX P w K mg base 1 (He.ga K "_law_line") T.fd_line P_line (Pr K W_line) := by
  refine ⟨?_, T.fn_line.kp, FunD.bindsN T.fn_line fun _ _ _ _ _ _ us hl => match us, hl with | [_], _ => rfl⟩
  rw [W_line]
  refine def_ok (k := 0) T.fn_line sc_line fun cdv A outer s H E hr tk => ?_
  exact (ds_one (ds_ret (d_joinN d_str (DF.de (df_lc (pe_lc (own := [("_law_part", 1)]) rfl sc_line.nd (di_tup (pi_tup (dv 0))) (blkOk_by (own := [("_law_part", 1)]) (N := N_line) (sc := defScope s_line) (by decide +kernel)) (fun _ _ _ _ _ => (dg_name (pg_name (i := 1) sc_line.nd rfl (Or.inl rfl)))) (fun _ _ _ _ _ => dts_nil) (fun _ _ _ _ _ => (d_bT call_strDD (by rfl) T.b_str (by decide +kernel) (da_cons (dv 1) da_nil)))))))))
theorem kx_parts (T : Tx K mg) (PO : ErM.PrgOk P mainF) : CalX P w K mg base 3 (He.ga K "_law_parts") T.fd_parts P_parts (Pr K W_parts) := by
  have c_Painter_stride := kx_Painter_stride (P := P) (w := w) (base := base) T PO
  have c_Painter_post := kx_Painter_post (P := P) (w := w) (base := base) T PO
  have c_Painter_day := kx_Painter_day (P := P) (w := w) (base := base) T PO
  have c_Painter_name := kx_Painter_name (P := P) (w := w) (base := base) T PO
  refine ⟨?_, T.fn_parts.kp, FunD.bindsN T.fn_parts fun _ _ _ _ _ _ us hl => match us, hl with | [_], _ => rfl⟩
  rw [W_parts]
  refine def_ok (k := 2) T.fn_parts sc_parts fun cdv A outer s H E hr tk => ?_
  exact (ds_one (ds_ret (d_tup (da_cons (d_prop (dv 0) T.c_Painter T.p_Painter_name c_Painter_name.F (hr.mono (by decide)) c_Painter_name.b) (da_cons (d_prop (dv 0) T.c_Painter T.p_Painter_day c_Painter_day.F (hr.mono (by decide)) c_Painter_day.b) (da_cons (d_prop (dv 0) T.c_Painter T.p_Painter_post c_Painter_post.F (hr.mono (by decide)) c_Painter_post.b) (da_cons (d_prop (dv 0) T.c_Painter T.p_Painter_stride c_Painter_stride.F (hr.mono (by decide)) c_Painter_stride.b) da_nil)))))))
theorem kx_added (T : Tx K mg) (PO : ErM.PrgOk P mainF) : CalX P w K mg base 6 (He.ga K "_law_added") T.fd_added P_added (Pr K W_added) := by
  have c_parts := kx_parts (P := P) (w := w) (base := base) T PO
  have c_Painter_add := kx_Painter_add (P := P) (w := w) (base := base) T PO
  refine ⟨?_, T.fn_added.kp, FunD.bindsN T.fn_added fun _ _ _ _ _ _ us hl => match us, hl with | [_, _], _ => rfl⟩
  rw [W_added]
  refine def_ok (k := 5) T.fn_added sc_added fun cdv A outer s H E hr tk => ?_
  exact (ds_one (ds_try (i := 2) (n := "e") (es := ["DuplicateName", "InvalidFence", "InvalidPainter", "ParseError", "TooMany", "UnknownName"]) rfl rfl sc_added.nd rfl rfl T.ex_es (by decide +kernel) tk (fun W pn xe tk _ => (ds_one (ds_ret (d_call c_parts.F (hr.mono (by decide)) (by rfl) T.g_parts c_parts.kp c_parts.b tk (da_cons (d_addI (dv 0) (dv 1) T.m_Painter___add__ T.n_Painter___radd__ T.sf_Painter c_Painter_add.F (hr.mono (by decide)) c_Painter_add.b tk) da_nil)))))
    (.cons ⟨by rfl, by decide, .inl T.g_InvalidPainter⟩ (fun ea oe cls d pn hz hf => (ds_one (ds_ret (d_exf T.xi_InvalidPainter.x T.er_InvalidPainter.noF hz hf (pv 2)))))
    .nil)))
theorem k_law (T : Tx K mg) (PO : ErM.PrgOk P mainF) (hw : ∀ n : Nat, n ≤ 63 → w_law lawN (lawE N_law.length n)) : FnG P w K mg base 18 (He.ga K "law") T.fd_law P_law (spLaw K) := by
  have c_pen := k_pen (P := P) (w := w) (base := base) T
  have c_painters := kx_painters (P := P) (w := w) (base := base) T
  have c_Painter_init := kx_Painter_init (P := P) (w := w) (base := base) T PO
  have c_great := kx_great (P := P) (w := w) (base := base) T
  have c_around := kx_around (P := P) (w := w) (base := base) T
  have c_added := kx_added (P := P) (w := w) (base := base) T PO
  have c_parts := kx_parts (P := P) (w := w) (base := base) T PO
  have c_Painter_neg := kx_Painter_neg (P := P) (w := w) (base := base) T PO
  have c_pick := kx_pick (P := P) (w := w) (base := base) T
  have c_Painter_eq := kx_Painter_eq (P := P) (w := w) (base := base) T PO
  have c_Painter_text := kx_Painter_text (P := P) (w := w) (base := base) T PO
  have c_Painter_read := kx_Painter_read (P := P) (w := w) (base := base) T PO
  have c_line := kx_line (P := P) (w := w) (base := base) T PO
  have c_Fence_eq := kx_Fence_eq (P := P) (w := w) (base := base) T PO
  have c_Fence_init := kx_Fence_init (P := P) (w := w) (base := base) T PO
  have c_Fence_getitem := kx_Fence_getitem (P := P) (w := w) (base := base) T PO
  refine FnG.mkC T.fn_law sc_law (fun vs H Q E h => ?_) (fun cdv A outer s H vs Q E ec gd hr h => ?_)
  · obtain ⟨a, ns, rfl, _⟩ := h
    rfl
  · obtain ⟨a, ns, rfl, hS, hn, tb, k⟩ := h
    have hgd : (A.deeper (envOfC "law" (defScope s_law) s.heap.objs.size (He.ga K "law") cdv)).guards = some [] := gd
    have tk : Takes (cxOf CX0 P w K mg base N_law "law" (defScope s_law) (He.ga K "law") cdv A outer s H E) (fun _ _ _ _ => False) := takes0
    have body : DSs (cxOf CX0 P w K mg base N_law "law" (defScope s_law) (He.ga K "law") cdv A outer s H E) (fun _ _ _ _ => False) ((defBody s_law).drop 1) w_law := (ds_cons (ds_for (ps_for (passes_of rfl) rfl (di_r1 (pi_range1 (by rfl) T.b_range (da_cons d_int da_nil))) (dg_name (pg_name (i := 2) sc_law.nd rfl (Or.inl rfl)))
    (ds_one (ds_for (ps_for (passes_of rfl) rfl (di_list (pi_list (d_op op_addD (d_call c_painters.F (hr.mono (by decide)) (by rfl) T.g_painters c_painters.kp c_painters.b tk (da_pen (pv 1) da_nil)) (d_lst (da_cons (d_tup (da_cons d_str (da_cons d_int (da_cons (d_pow (c := 1000000000000000000000000000000) (by decide) (by decide +kernel)) (da_cons (d_un un_negD d_int) da_nil))))) (da_cons (d_tup (da_cons d_str (da_cons d_int (da_cons (d_un un_negD (d_pow (c := 1000000000000000000000000000000) (by decide) (by decide +kernel))) (da_cons d_int da_nil))))) (da_cons (d_tup (da_cons d_str (da_cons d_int (da_cons d_int (da_cons (d_pow (c := 1000000000000000000) (by decide) (by decide +kernel)) da_nil))))) da_nil))))))) (dg_name (pg_name (i := 3) sc_law.nd rfl (Or.inl rfl)))
    (ds_cons (ds_asg (ps_asg (dv 3) (dg_tup (pg_tup rfl (dgs_cons (pgs_cons (dg_name (pg_name (i := 4) sc_law.nd rfl (Or.inl rfl))) (dgs_cons (pgs_cons (dg_name (pg_name (i := 5) sc_law.nd rfl (Or.inl rfl))) (dgs_cons (pgs_cons (dg_name (pg_name (i := 6) sc_law.nd rfl (Or.inl rfl))) (dgs_cons (pgs_cons (dg_name (pg_name (i := 7) sc_law.nd rfl (Or.inl rfl))) dgs_nil))))))))))))
    (ds_cons (ds_set (ps_set (i := 8) sc_law.nd rfl (Or.inr rfl) (d_make T.k_Painter c_Painter_init.F (hr.mono (by decide)) (by rfl) T.g_Painter c_Painter_init.b tk (da_cons (dv 4) (da_cons (dv 5) (da_cons (dv 6) (da_cons (dv 7) da_nil)))))))
    (ds_cons (ds_for (ps_for (passes_of rfl) rfl (di_list (pi_list (d_lst (da_cons d_int (da_cons (d_call c_around.F (hr.mono (by decide)) (by rfl) T.g_around c_around.kp c_around.b tk (da_pen (pv 1) (da_cons d_int da_nil))) (da_cons (d_call c_great.F (hr.mono (by decide)) (by rfl) T.g_great c_great.kp c_great.b tk (da_pen (pv 1) (da_cons d_int da_nil))) (da_cons (d_op op_subD d_int (d_call c_great.F (hr.mono (by decide)) (by rfl) T.g_great c_great.kp c_great.b tk (da_pen (pv 1) (da_cons d_int da_nil)))) (da_cons (d_op op_subD (d_pow (c := 1000000000000000000000000000000) (by decide) (by decide +kernel)) (dv 6)) da_nil)))))))) (dg_name (pg_name (i := 9) sc_law.nd rfl (Or.inl rfl)))
    (ds_cons (ds_set (ps_set (i := 10) sc_law.nd rfl (Or.inl rfl) (d_cut (d_if (dt_cmp op_leD (d_b call_absD (by rfl) T.b_abs (by decide +kernel) (da_cons (d_op op_addD (dv 6) (dv 9)) da_nil)) (d_pow (c := 1000000000000000000000000000000) (by decide) (by decide +kernel))) (d_tup (da_cons (dv 4) (da_cons (dv 5) (da_cons (d_op op_addD (dv 6) (dv 9)) (da_cons (dv 7) da_nil))))) d_str))))
    (ds_one (ds_if (dt_cmp (op_neDD hr.units) (d_b (call_reprDD hgd hr.units) (by rfl) T.b_repr (by decide +kernel) (da_cons (d_call c_added.F (hr.mono (by decide)) (by rfl) T.g_added c_added.kp c_added.b tk (da_cons (dv 8) (da_cons (dv 9) da_nil))) da_nil)) (d_b (call_reprDD hgd hr.units) (by rfl) T.b_repr (by decide +kernel) (da_cons (dv 10) da_nil))) (ds_one (ds_ret d_bl)) ds_nil)))))
    (ds_cons (ds_cut (ds_if (PW.pt (dw_or (dt_cmp (op_neDD hr.units) (d_b (call_reprDD hgd hr.units) (by rfl) T.b_repr (by decide +kernel) (da_cons (d_call c_parts.F (hr.mono (by decide)) (by rfl) T.g_parts c_parts.kp c_parts.b tk (da_cons (d_negO (dv 8) T.m_Painter___neg__ c_Painter_neg.F (hr.mono (by decide)) c_Painter_neg.b tk) da_nil)) da_nil)) (d_b (call_reprDD hgd hr.units) (by rfl) T.b_repr (by decide +kernel) (da_cons (d_tup (da_cons (dv 4) (da_cons (dv 5) (da_cons (d_op op_subD d_int (dv 6)) (da_cons (d_op op_subD d_int (dv 7)) da_nil))))) da_nil))) (dw_or1 (dt_cmp (op_neDD hr.units) (d_call c_parts.F (hr.mono (by decide)) (by rfl) T.g_parts c_parts.kp c_parts.b tk (da_cons (dv 8) da_nil)) (dv 3))))) (ds_one (ds_ret d_bl)) ds_nil))
    (ds_cons (ds_set (ps_set (i := 11) sc_law.nd rfl (Or.inl rfl) (d_lst (da_cons (dv 3) (da_cons (d_op op_addD (d_tup (da_cons d_str da_nil)) (d_slV (pv 3) (do_some d_int) do_none)) (da_cons (d_tup (da_cons (dv 4) (da_cons (d_op op_divD (dv 5) d_int) (da_cons (dv 6) (da_cons (dv 7) da_nil))))) (da_cons (d_tup (da_cons (dv 4) (da_cons (dv 5) (da_cons (d_op op_divD (dv 6) d_int) (da_cons (dv 7) da_nil))))) da_nil)))))))
    (ds_cons (ds_set (ps_set (i := 12) sc_law.nd rfl (Or.inl rfl) (d_call c_pick.F (hr.mono (by decide)) (by rfl) T.g_pick c_pick.kp c_pick.b tk (da_pen (pv 1) (da_cons (d_op op_addD (dv 11) (d_lst (da_cons (d_tup (da_cons (dv 4) (da_cons (dv 5) (da_cons (dv 6) (da_cons (d_op op_subD d_int (dv 7)) da_nil))))) da_nil))) da_nil)))))
    (ds_cons (ds_set (ps_set (i := 13) sc_law.nd rfl (Or.inl rfl) (d_make T.k_Painter c_Painter_init.F (hr.mono (by decide)) (by rfl) T.g_Painter c_Painter_init.b tk (da_cons (d_ixN (hu_of hr) (pv 12) d_int) (da_cons (d_ixN (hu_of hr) (pv 12) d_int) (da_cons (d_ixN (hu_of hr) (pv 12) d_int) (da_cons (d_ixN (hu_of hr) (pv 12) d_int) da_nil)))))))
    (ds_cons (ds_cut (ds_if (PW.pt (dw_or (dt_cmp (op_neDD hr.units) (d_ownC false rfl (dv 8) (dv 13) T.m_Painter___eq__ (fun h => nomatch h) c_Painter_eq.F (hr.mono (by decide)) c_Painter_eq.b tk) (d_cmp (op_eqDD hr.units) (dv 12) (dv 3))) (dw_or1 (dt_cmp (op_eqDD hr.units) (d_ownC true rfl (dv 8) (dv 13) T.m_Painter___eq__ (fun _ => ⟨T.ne_Painter.1, T.ne_Painter.2⟩) c_Painter_eq.F (hr.mono (by decide)) c_Painter_eq.b tk) (d_cmp (op_eqDD hr.units) (dv 12) (dv 3)))))) (ds_one (ds_ret d_bl)) ds_nil))
    (ds_cons (ds_set (ps_set (i := 14) sc_law.nd rfl (Or.inl rfl) (d_lst (da_cons d_non (da_cons (dv 4) (da_cons (dv 3) (da_cons (d_bT call_listD (by rfl) T.b_list (by decide +kernel) (da_cons (dv 3) da_nil)) (da_cons (d_prop (dv 8) T.c_Painter T.p_Painter_text c_Painter_text.F (hr.mono (by decide)) c_Painter_text.b) da_nil))))))))
    (ds_cons (ds_if (dt_cmp (op_neDD hr.units) (DF.de (df_lc (pe_lc (own := [("_law_thing", 15)]) rfl sc_law.nd (di_list (pi_list (dv 14))) (blkOk_by (own := [("_law_thing", 15)]) (N := N_law) (sc := defScope s_law) (by decide +kernel)) (fun _ _ _ _ _ => (dg_name (pg_name (i := 15) sc_law.nd rfl (Or.inl rfl)))) (fun _ _ _ _ _ => (pts_one (PW.pt (dw_or (dt_ownA false rfl (dv 8) (dv 15) T.m_Painter___eq__ (fun h => nomatch h) c_Painter_eq.F (hr.mono (by decide)) c_Painter_eq.b takes0) (dw_or1 (dt_not (dt_ownA true rfl (dv 8) (dv 15) T.m_Painter___eq__ (fun _ => ⟨T.ne_Painter.1, T.ne_Painter.2⟩) c_Painter_eq.F (hr.mono (by decide)) c_Painter_eq.b takes0))))))) (fun _ _ _ _ _ => (dv 15))))) (d_lst da_nil)) (ds_one (ds_ret d_bl)) ds_nil)
    (ds_cons (ds_cut (ds_if (PW.pt (dw_or (dt_not (dt_ownC false rfl (d_cmeth (d_gC (by rfl) T.g_Painter) T.cm_Painter_read c_Painter_read.F (hr.mono (by decide)) c_Painter_read.b tk (da_cons (d_prop (dv 8) T.c_Painter T.p_Painter_text c_Painter_text.F (hr.mono (by decide)) c_Painter_text.b) da_nil)) (dv 8) T.m_Painter___eq__ (fun h => nomatch h) c_Painter_eq.F (hr.mono (by decide)) c_Painter_eq.b tk)) (dw_or1 (dt_cmp (op_neDD hr.units) (d_call c_parts.F (hr.mono (by decide)) (by rfl) T.g_parts c_parts.kp c_parts.b tk (da_cons (d_cmeth (d_gC (by rfl) T.g_Painter) T.cm_Painter_read c_Painter_read.F (hr.mono (by decide)) c_Painter_read.b tk (da_cons (d_call c_line.F (hr.mono (by decide)) (by rfl) T.g_line c_line.kp c_line.b tk (da_cons (dv 12) da_nil)) da_nil)) da_nil)) (dv 12))))) (ds_one (ds_ret d_bl)) ds_nil))
    (ds_one (ds_if (PW.pt (dw_or (dt_not (dt_ownC false rfl (d_ixO (d_makeRP T.k_Fence c_Fence_init.F (hr.mono (by decide)) (by rfl) T.g_Fence tk (da_cons (dv 8) da_nil)) (dv 4) T.m_Fence___getitem__ (fnin T.fn_Fence_getitem) c_Fence_getitem.F (hr.mono (by decide)) c_Fence_getitem.b tk) (dv 8) T.m_Painter___eq__ (fun h => nomatch h) c_Painter_eq.F (hr.mono (by decide)) c_Painter_eq.b tk)) (dw_or1 (dt_cmp (op_neDD hr.units) (d_ownC false rfl (d_makeRP T.k_Fence c_Fence_init.F (hr.mono (by decide)) (by rfl) T.g_Fence tk (da_cons (dv 8) da_nil)) (d_makeRP T.k_Fence c_Fence_init.F (hr.mono (by decide)) (by rfl) T.g_Fence tk (da_cons (dv 13) da_nil)) T.m_Fence___eq__ (fun h => nomatch h) c_Fence_eq.F (hr.mono (by decide)) c_Fence_eq.b tk) (d_cmp (op_eqDD hr.units) (dv 12) (dv 3)))))) (ds_one (ds_ret d_bl)) ds_nil))))))))))))))))))
    (ds_one (ds_ret d_bl)))
    refine ⟨_, pss_cons (ps_set (i := 1) sc_law.nd rfl (Or.inl rfl) (pe_call c_pen.F (hr.mono (by decide)) (by rfl) T.g_pen c_pen.kp c_pen.b .nil pass0 (pa_cons (pv 0) pa_nil))) body, ?_⟩
    refine ⟨.ref a, rfl, a, ns, rfl, hS, fun p H1 s1 np hP => ?_⟩
    exact law_start tb hS s1 np hP (hw ns.length hn) k
end
end KD

set_option pp.maxSteps 300
/-! Lines of painters: how they are written, how they are cut. -/
namespace KD
open PySem PySem.Spec PyProof.Rows L2 KP TL
/-- the text of an int -/
def nu (i : Int) : Str := ((toString i : String) : Str)
theorem nu_nat (n : Nat) : (nu (n : Int)).cps.toList = numL n := tl_num n
theorem nu_neg {i : Int} (h : i < 0) : (nu i).cps.toList = 45 :: numL (-i).toNat := by
  obtain ⟨n, rfl⟩ : ∃ n : Nat, i = Int.negSucc n := ⟨(-i - 1).toNat, by omega⟩
  have e : (toString (Int.negSucc n) : String) = "-" ++ toString (((n + 1 : Nat) : Int)) := rfl
  show (Str.ofString (toString (Int.negSucc n))).cps.toList = _
  rw [e, Str.ofString_eq_toList, String.toList_append, List.map_append]
  have a := tl_num (n + 1)
  rw [Str.ofString_eq_toList] at a
  have a : (toString (((n + 1 : Nat) : Int))).toList.map Char.toNat = numL (n + 1) := by simpa using a
  rw [a]
  rfl
/-- the figures -/
def figs (i : Int) : List Nat := numL i.natAbs
theorem nu_tl (i : Int) : (nu i).cps.toList = if i < 0 then 45 :: figs i else figs i := by
  by_cases h : i < 0
  · rw [if_pos h, nu_neg h]
    show 45 :: numL (-i).toNat = 45 :: numL i.natAbs
    rw [show (-i).toNat = i.natAbs by omega]
  · rw [if_neg h]
    obtain ⟨n, rfl⟩ : ∃ n : Nat, i = (n : Int) := ⟨i.toNat, by omega⟩
    exact nu_nat n
theorem numL_head {n : Nat} (h : n ≠ 0) : ∀ c, (numL n).head? = some c → c ≠ 48 := by
  induction n using Nat.strongRecOn with
  | _ n ih =>
    by_cases h9 : n < 10
    · rw [numL_lt h9]
      intro c hc
      cases hc
      omega
    · rw [numL_step (by omega)]
      have ne := numL_ne (n / 10)
      intro c hc
      refine ih (n / 10) (by omega) (by omega) c ?_
      cases e : numL (n / 10) with
      | nil => exact absurd e ne
      | cons a l => rw [e] at hc; exact hc
theorem nu_len {i : Int} {k : Nat} (hk : 0 < k) (h : i.natAbs < 10 ^ k) : (nu i).length ≤ k + 1 := by
  have : (nu i).length = (nu i).cps.toList.length := by simp [Str.length]
  rw [this, nu_tl]
  have l := numL_len hk h
  unfold figs
  split
  · rw [List.length_cons]; omega
  · omega
theorem nu_sign {i : Int} : ∀ c ∈ (nu i).cps.toList, c = 45 ∨ (48 ≤ c ∧ c ≤ 57) := by
  rw [nu_tl]
  intro c hc
  split at hc
  · rcases List.mem_cons.mp hc with rfl | hc
    · exact .inl rfl
    · exact .inr (numL_digits _ c hc)
  · exact .inr (numL_digits _ c hc)
theorem nu_int {i : Int} {k : Nat} (hk : 0 < k) (hk2 : k ≤ 600) (h : i.natAbs < 10 ^ k) : PySem.intText? (nu i) = some i := by
  have l := nu_len hk h
  by_cases hn : i < 0
  · have e := nu_tl i
    rw [if_pos hn] at e
    rw [intText_neg e (numL_digits _) (numL_ne _) (by omega), show NumText.digitsVal (figs i) = i.natAbs from numL_val _]
    congr 1
    omega
  · obtain ⟨n, rfl⟩ : ∃ n : Nat, i = (n : Int) := ⟨i.toNat, by omega⟩
    refine int_num ?_
    rw [← nu_nat]
    have : (nu (n : Int)).length = (nu (n : Int)).cps.toList.length := by simp [Str.length]
    omega
/-- the line of a painter -/
def ln (q : Pt) : Str := q.nm ++ " " ++ nu q.dy ++ " " ++ nu q.po ++ " " ++ nu q.sr
def ws4 (q : Pt) : List Str := [q.nm, nu q.dy, nu q.po, nu q.sr]
theorem ln_join (q : Pt) : Txt.join " " (ws4 q) = ln q := by
  rw [join_eq]
  show q.nm ++ " " ++ (nu q.dy ++ " " ++ (nu q.po ++ " " ++ nu q.sr)) = _
  unfold ln
  simp only [Str.append_assoc]
theorem ws_free {q : Pt} (h : NameD q.nm) : ∀ w ∈ ws4 q, ∀ c ∈ w.cps.toList, c ≠ 32 ∧ c ≠ 10 := by
  intro w hw c hc
  have num : ∀ i, w = nu i → c ≠ 32 ∧ c ≠ 10 := fun i e => by
    rw [e] at hc
    rcases nu_sign c hc with rfl | h
    · exact ⟨by decide, by decide⟩
    · omega
  simp only [ws4, List.mem_cons, List.not_mem_nil, or_false] at hw
  rcases hw with e | e | e | e
  · rw [e] at hc
    have := h.2.2 c hc
    omega
  · exact num _ e
  · exact num _ e
  · exact num _ e
theorem ln_split {q : Pt} (h : NameD q.nm) : Txt.split (ln q) " " = ws4 q := by
  rw [← ln_join]
  refine split_join (s := 32) (S := []) rfl (by decide +kernel) (fun z => nomatch z) fun p hp hc => ?_
  exact (ws_free h p hp 32 hc).1 rfl
theorem ln_len {q : Pt} (h : q.Ok) : (ln q).length ≤ 200 := by
  have a := h.nm.2.1
  have b := nu_len (i := q.dy) (k := 31) (by decide) (by have := h.d0; have := h.d1; omega)
  have c := nu_len (i := q.po) (k := 31) (by decide) (by have := h.p0; have := h.p1; omega)
  have d := nu_len (i := q.sr) (k := 31) (by decide) (by have := h.s0; have := h.s1; omega)
  unfold ln
  simp only [Str.length_append]
  have : (" " : Str).length = 1 := by decide +kernel
  omega
end KD

/-! Painters, over data. -/
namespace KD
open PySem PySem.Spec PyProof.Rows L2 KP
theorem q_isi {x : D} {t n : String} {c : Bool} {Q : D → Prop} (e : x.tn = some t) (k : kitB t n = some c) (q : Q (.bl c)) : oIsi [x, .ty n] Q := by
  unfold oIsi
  show (match x.tn with | some t => (match kitB t n with | some b => Q (.bl b) | none => False) | none => False)
  rw [e]
  show (match kitB t n with | some b => Q (.bl b) | none => False)
  rw [k]
  exact q
/-- the package's painter -/
def Pt.o (q : Pt) : D := .obj "Painter" [("parts", q.d)]
section
variable {b : Int} {Q : D → Int → Prop} {E : XC → Int → Prop}
theorem q_is_integer {i : Int} (k : Q (.bl true) b) : W_is_integer [.d (.int i)] b Q E := by
  unfold W_is_integer
  refine ⟨rfl, ?_⟩
  refine q_isi (x := .int i) rfl kb_ii ?_
  refine q_isi (x := .int i) rfl kb_ib ?_
  exact k
theorem q_is_between {v lo hi : Int} (k : Q (.bl (decide (lo ≤ v) && decide (v ≤ hi))) b) : W_is_between [.d (.int v), .d (.int lo), .d (.int hi)] b Q E := by
  unfold W_is_between
  refine ⟨rfl, ?_⟩
  refine q_is_integer ?_
  show (match D.bl (decide (lo ≤ v)) with | .bl true => Q (.bl (decide (v ≤ hi))) b | .bl false => Q (.bl false) b | _ => False)
  cases h : decide (lo ≤ v) with
  | true => rw [h] at k; exact k
  | false => rw [h] at k; exact k
theorem bt_true {v lo hi : Int} (h0 : lo ≤ v) (h1 : v ≤ hi) : (decide (lo ≤ v) && decide (v ≤ hi)) = true := by simp [h0, h1]
/-- a test that is_between passes -/
theorem q_between {v lo hi : Int} (h0 : lo ≤ v) (h1 : v ≤ hi) (k : Q (.bl true) b) : W_is_between [.d (.int v), .d (.int lo), .d (.int hi)] b Q E := q_is_between (by rw [bt_true h0 h1]; exact k)
theorem abc_mem {c : Nat} (h : 97 ≤ c ∧ c ≤ 122) : c ∈ ("abcdefghijklmnopqrstuvwxyz" : Str).cps.toList := by
  have e : ("abcdefghijklmnopqrstuvwxyz" : Str).cps.toList = (List.range 26).map (97 + ·) := by decide +kernel
  rw [e]
  exact List.mem_map.mpr ⟨c - 97, List.mem_range.mpr (by omega), by omega⟩
theorem q_is_name {z : Str} (h : NameD z) (k : Q (.bl true) b) : W_is_name [.d (.str z)] b Q E := by
  unfold W_is_name
  refine ⟨rfl, ?_⟩
  refine ⟨fun en => en = ⟨[some (.d (.str z)), none], b⟩, ?_, fun en e => ?_⟩
  · refine q_isi (x := .str z) rfl kb_ss ?_
    refine iteF ?_
    refine ⟨by have := h.2.1; omega, ?_⟩
    have e1 : decide ((1 : Int) ≤ (z.length : Int)) = true := decide_eq_true (by have := h.1; omega)
    have e2 : decide ((z.length : Int) ≤ 8) = true := decide_eq_true (by have := h.2.1; omega)
    show (match D.bl (decide ((1 : Int) ≤ (z.length : Int))) with | .bl true => _ | .bl false => _ | _ => False)
    rw [e1]
    show (if (!decide ((z.length : Int) ≤ 8)) = true then _ else _)
    rw [e2]
    exact iteF rfl
  · subst e
    refine lcGo_ind (z.cps.toList.map fun c => D.str ⟨#[c]⟩) (fun i acc en => acc = List.replicate i (.bl true) ∧ en = ⟨[some (.d (.str z)), none], b⟩) ⟨rfl, rfl⟩ (fun i x acc en J hx ⟨ha, he⟩ hJ => ?_) fun acc en ⟨ha, he⟩ => ?_
    · subst ha he
      rw [List.getElem?_map] at hx
      cases q : z.cps.toList[i]? with
      | none => rw [q] at hx; cases hx
      | some c =>
        rw [q] at hx; cases hx
        have hc := h.2.2 c (List.mem_of_getElem? q)
        have hi := (List.getElem?_eq_some_iff.mp q).1
        show (List.replicate i (D.bl true)).length < 100000 ∧ J (List.replicate i (D.bl true) ++ [.bl (decide (c ∈ ("abcdefghijklmnopqrstuvwxyz" : Str).cps.toList))]) _
        rw [decide_eq_true (abc_mem hc)]
        refine ⟨?_, hJ _ _ ⟨?_, rfl⟩⟩
        · rw [List.length_replicate]
          have h8 : z.cps.toList.length ≤ 8 := by have := h.2.1; rw [slen_tl] at this; exact this
          omega
        · rw [← List.replicate_succ']
    · subst ha he
      have e : ∀ n, allB (List.replicate n (D.bl true)) = some (List.replicate n true) := fun n => by
        induction n with
        | zero => rfl
        | succ n ih => rw [List.replicate_succ, allB, ih]; rfl
      show (match allB (List.replicate _ (D.bl true)) with | some bs => _ | none => False)
      rw [e]
      show Q (.bl ((List.replicate _ true).all id)) b
      rw [show (List.replicate (z.cps.toList.map fun c => D.str ⟨#[c]⟩).length true).all id = true by simp]
      exact k
theorem q_Painter_name {q : Pt} (k : Q (.str q.nm) b) : W_Painter_name [.d q.o] b Q E := by
  unfold W_Painter_name
  exact ⟨rfl, rfl, k⟩
theorem q_Painter_day {q : Pt} (k : Q (.int q.dy) b) : W_Painter_day [.d q.o] b Q E := by
  unfold W_Painter_day
  exact ⟨rfl, rfl, k⟩
theorem q_Painter_post {q : Pt} (k : Q (.int q.po) b) : W_Painter_post [.d q.o] b Q E := by
  unfold W_Painter_post
  exact ⟨rfl, rfl, k⟩
theorem q_Painter_stride {q : Pt} (k : Q (.int q.sr) b) : W_Painter_stride [.d q.o] b Q E := by
  unfold W_Painter_stride
  exact ⟨rfl, rfl, k⟩
theorem q_Painter_init {q : Pt} {Qn : List (Str × D) → Int → Prop} (h : q.Ok) (k : Qn [("parts", q.d)] b) : W_Painter_init [.d (.str q.nm), .d (.int q.dy), .d (.int q.po), .d (.int q.sr)] b Qn E := by
  unfold W_Painter_init
  refine ⟨rfl, ?_⟩
  refine q_is_name h.nm ?_
  refine iteF ?_
  refine ⟨rfl, rfl, ?_⟩
  refine q_between h.d0 h.d1 ?_
  refine iteF ?_
  refine ⟨rfl, rfl, ⟨rfl, rfl, ?_⟩⟩
  refine q_between h.p0 h.p1 ?_
  refine iteF ?_
  refine ⟨fun en => en = ⟨[some (.slf "Painter" []), some (.d (.str q.nm)), some (.d (.int q.dy)), some (.d (.int q.po)), some (.d (.int q.sr))], b⟩, ?_, fun en e => ?_⟩
  · refine ⟨rfl, rfl, ⟨rfl, rfl, ?_⟩⟩
    refine q_between h.s0 h.s1 ?_
    refine iteF ?_
    show (if decide (q.sr = 0) = true then _ else _)
    rw [decide_eq_false h.sn]
    exact iteF rfl
  · subst e
    exact ⟨(by show (4 : Nat) ≤ 100000; decide), rfl, by decide, rfl, k⟩
end
end KD

/-! Conditions that leave the names as they are. -/
namespace KD
open PySem PySem.Spec PyProof.Rows L2 KP
theorem sF {c : WT} {a d : WS} {N : DN} {en : En} (hw : ∀ Q : Bool → En → Prop, Q false en → c en Q N.ex) (k : d N en) : sIf c a d N en := hw _ (by rw [if_neg (fun z => nomatch z)]; exact k)
theorem eT {c : WT} {a d : WE} {en : En} {Q : D → En → Prop} {E : EK} (hw : ∀ Q : Bool → En → Prop, Q true en → c en Q E) (k : a en Q E) : eIf c a d en Q E := hw _ (by rw [if_pos rfl]; exact k)
theorem eF' {c : WT} {a d : WE} {en : En} {Q : D → En → Prop} {E : EK} (hw : ∀ Q : Bool → En → Prop, Q false en → c en Q E) (k : d en Q E) : eIf c a d en Q E := hw _ (by rw [if_neg (fun z => nomatch z)]; exact k)
theorem tOR {a d : WT} {en : En} {Q : Bool → En → Prop} {E : EK} (hw : ∀ Q : Bool → En → Prop, Q false en → a en Q E) (q : d en Q E) : tOrD a d en Q E := hw _ (by rw [if_neg (fun z => nomatch z)]; exact q)
theorem tAT {a d : WT} {en : En} {Q : Bool → En → Prop} {E : EK} (hw : ∀ Q : Bool → En → Prop, Q true en → a en Q E) (q : d en Q E) : tAndD a d en Q E := hw _ (by rw [if_pos rfl]; exact q)
theorem tAF {a d : WT} {en : En} {Q : Bool → En → Prop} {E : EK} (hw : ∀ Q : Bool → En → Prop, Q false en → a en Q E) (q : Q false en) : tAndD a d en Q E := hw _ (by rw [if_neg (fun z => nomatch z)]; exact q)
theorem eAF {a d : WE} {en : En} {Q : D → En → Prop} {E : EK} (hw : ∀ Q : D → En → Prop, Q (.bl false) en → a en Q E) (q : Q (.bl false) en) : eAnd a d en Q E := hw _ q
end KD

namespace KP
/-! ### common posts of two ways: plain mathematics -/
/-- the post with number k of the one way is a post of the other way -/
def Com (p1 s p2 t k : Int) : Prop := 0 ≤ k ∧ ∃ j, 0 ≤ j ∧ p1 + k * s = p2 + j * t
structure Cross (p1 s p2 t : Int) (emp : Bool) (step ostep start ostart : Int) : Prop where
  stp : step = (t.natAbs : Int) / (Int.gcd s t : Int)
  pos : 0 < step
  st0 : 0 ≤ start
  st1 : start < step
  non : emp = true → ∀ k j, p1 + k * s ≠ p2 + j * t
  on : emp = false → p1 + start * s = p2 + ostart * t
  two : step * s = ostep * t
  all : emp = false → ∀ k j, p1 + k * s = p2 + j * t → ∃ m, k = start + m * step
namespace Cross
variable {p1 s p2 t : Int} {emp : Bool} {step ostep start ostart : Int}
end Cross
/-- the numbers m that fit -/
def Fit (ps : List (Int × Int)) (low : Int) (high : Option Int) : Prop := ∀ m : Int, (0 ≤ m ∧ ∀ x ∈ ps, 0 ≤ x.1 + m * x.2) ↔ (low ≤ m ∧ ∀ h, high = some h → m ≤ h)
theorem fit_pos {b g m : Int} (hg : 0 < g) : 0 ≤ b + m * g ↔ -(b / g) ≤ m := by
  have h1 := Int.emod_add_mul_ediv b g
  have h2 := Int.emod_nonneg b (show g ≠ 0 by omega)
  have h3 := Int.emod_lt_of_pos b hg
  constructor
  · intro h
    apply Classical.byContradiction
    intro hn
    have : (m + b / g) * g ≤ (-1) * g := Int.mul_le_mul_of_nonneg_right (by omega) (by omega)
    grind
  · intro h
    have : 0 ≤ (m + b / g) * g := Int.mul_nonneg (by omega) (by omega)
    grind
/-- what common_posts is to return -/
def CP (p1 s p2 t : Int) : Option (Int × Option Int × Int) → Prop
  | none => ∀ k, ¬ Com p1 s p2 t k
  | some (f, l, d) => (∃ k, Com p1 s p2 t k ∧ (∀ k', Com p1 s p2 t k' → k ≤ k') ∧ f = p1 + k * s) ∧
      (match l with
        | none => 0 < s * t
        | some x => s * t < 0 ∧ ∃ k, Com p1 s p2 t k ∧ (∀ k', Com p1 s p2 t k' → k' ≤ k) ∧ x = p1 + k * s) ∧ d = (s.natAbs : Int) * ((t.natAbs : Int) / (Int.gcd s t : Int))
theorem CP.inj {p1 s p2 t : Int} {x y : Option (Int × Option Int × Int)} (hx : CP p1 s p2 t x) (hy : CP p1 s p2 t y) : x = y := by
  match x, y, hx, hy with
  | none, none, _, _ => rfl
  | none, some (f, l, d), hx, ⟨⟨k, h, _⟩, _⟩ => exact absurd h (hx k)
  | some (f, l, d), none, ⟨⟨k, h, _⟩, _⟩, hy => exact absurd h (hy k)
  | some (f, l, d), some (f2, l2, d2), ⟨⟨k, h, m, e⟩, hl, hd⟩, ⟨⟨k2, h2, m2, e2⟩, hl2, hd2⟩ =>
    have ek : k = k2 := by
      have a1 := m _ h2
      have a2 := m2 _ h
      omega
    have ef : f = f2 := by rw [e, e2, ek]
    have ed : d = d2 := by rw [hd, hd2]
    have el : l = l2 := by
      match l, l2, hl, hl2 with
      | none, none, _, _ => rfl
      | none, some z, h1, h2 => exact absurd h1 (by have := h2.1; omega)
      | some z, none, h1, h2 => exact absurd h2 (by have := h1.1; omega)
      | some z, some z2, ⟨_, k3, c3, m3, e3⟩, ⟨_, k4, c4, m4, e4⟩ =>
        have a1 := m3 _ c4
        have a2 := m4 _ c3
        have : k3 = k4 := by omega
        rw [e3, e4, this]
    rw [ef, ed, el]
end KP

/-! Crossings: plain numbers (for the data layer). -/
namespace KD
open KP
structure FitR (ps : List (Int × Int)) (low : Int) (high : Option Int) : Prop where
  fit : Fit ps low high
  nrm : ∀ h, high = some h → low ≤ h ∨ (low = 1 ∧ h = 0)
  nn : high = none → ∀ x ∈ ps, 0 ≤ x.2
  pp : (∀ x ∈ ps, 0 < x.2) → high = none
  l0 : 0 ≤ low
  l1 : low ≤ 10 ^ 90
  h0 : ∀ h, high = some h → -(10 ^ 90) ≤ h ∧ h ≤ 10 ^ 90
structure FitI (ps : List (Int × Int)) (low : Int) (high : Option Int) : Prop where
  fit : Fit ps low high
  nn : high = none → ∀ x ∈ ps, 0 ≤ x.2
  pp : (∀ x ∈ ps, 0 < x.2) → high = none
  l0 : 0 ≤ low
  l1 : low ≤ 10 ^ 90
  h0 : ∀ h, high = some h → -(10 ^ 90) ≤ h ∧ h ≤ 10 ^ 90
theorem div_small {b g : Int} (hg : 0 < g) (h1 : -(10 ^ 80) ≤ b) (h2 : b ≤ 10 ^ 80) : -(10 ^ 80) ≤ b / g ∧ b / g ≤ 10 ^ 80 := by
  have e := Int.emod_add_mul_ediv b g
  have r0 := Int.emod_nonneg b (show g ≠ 0 by omega)
  have r1 := Int.emod_lt_of_pos b hg
  rcases Int.le_total 0 b with hb | hb
  · have a := Int.ediv_nonneg hb (show 0 ≤ g by omega)
    have c := Int.ediv_le_self g hb
    omega
  · have a : b / g ≤ 0 := by
      have := Int.ediv_le_ediv hg hb
      rw [Int.zero_ediv] at this
      exact this
    refine ⟨?_, by omega⟩
    apply Classical.byContradiction
    intro hn
    have : g * (b / g) ≤ 1 * (b / g) := Int.mul_le_mul_of_nonpos_right (by omega) a
    have q : b / g ≤ -(10 ^ 80) - 1 := by omega
    have q2 : g * (b / g) ≤ g * (-(10 ^ 80) - 1) := Int.mul_le_mul_of_nonneg_left q (by omega)
    have q3 : g * (-(10 ^ 80) - 1) = -(g * (10 ^ 80)) - g := by grind
    have q4 : 1 * (10 ^ 80 : Int) ≤ g * (10 ^ 80) := Int.mul_le_mul_of_nonneg_right (by omega) (by decide)
    omega
theorem FitI.up {ps : List (Int × Int)} {low b g : Int} {high : Option Int} (F : FitI ps low high) (hg : 0 < g) (h1 : -(10 ^ 80) ≤ b) (h2 : b ≤ 10 ^ 80) : FitI (ps ++ [(b, g)]) (if -(b / g) > low then -(b / g) else low) high := by
  have d := div_small hg h1 h2
  refine ⟨fun m => ?_, fun e x hx => ?_, fun h => F.pp fun x hx => h x (List.mem_append_left _ hx), by have := F.l0; split <;> omega, by have := F.l1; split <;> omega, F.h0⟩
  · have z := F.fit m
    have y := fit_pos (b := b) (m := m) hg
    constructor
    · rintro ⟨m0, h⟩
      have a := z.mp ⟨m0, fun x hx => h x (List.mem_append_left _ hx)⟩
      have c := y.mp (h (b, g) (List.mem_append_right _ (List.mem_singleton.mpr rfl)))
      exact ⟨by split <;> omega, a.2⟩
    · rintro ⟨a, c⟩
      have a2 : low ≤ m ∧ -(b / g) ≤ m := by split at a <;> omega
      obtain ⟨m0, h⟩ := z.mpr ⟨a2.1, c⟩
      refine ⟨m0, fun x hx => ?_⟩
      rcases List.mem_append.mp hx with hx | hx
      · exact h x hx
      · rw [List.mem_singleton.mp hx]
        exact y.mpr a2.2
  · rcases List.mem_append.mp hx with hx | hx
    · exact F.nn e x hx
    · rw [List.mem_singleton.mp hx]
      show 0 ≤ g
      omega
theorem FitI.flat {ps : List (Int × Int)} {low b : Int} {high : Option Int} (F : FitI ps low high) (hb : 0 ≤ b) (z : (∀ x ∈ ps ++ [(b, 0)], 0 < x.2) → high = none := fun h => absurd (h (_, 0) (List.mem_append_right _ (List.mem_singleton.mpr rfl))) (show ¬ (0 : Int) < 0 by decide)) : FitI (ps ++ [(b, 0)]) low high := by
  refine ⟨fun m => ?_, fun e x hx => ?_, z, F.l0, F.l1, F.h0⟩
  · have z := F.fit m
    constructor
    · rintro ⟨m0, h⟩
      exact z.mp ⟨m0, fun x hx => h x (List.mem_append_left _ hx)⟩
    · intro h
      obtain ⟨m0, h⟩ := z.mpr h
      refine ⟨m0, fun x hx => ?_⟩
      rcases List.mem_append.mp hx with hx | hx
      · exact h x hx
      · rw [List.mem_singleton.mp hx]
        show 0 ≤ b + m * 0
        omega
  · rcases List.mem_append.mp hx with hx | hx
    · exact F.nn e x hx
    · rw [List.mem_singleton.mp hx]
      exact Int.le_refl 0
structure CrB (p1 s p2 t : Int) (e : Bool) (st os sa oa : Int) : Prop where
  c : Cross p1 s p2 t e st os sa oa
  b1 : st ≤ 10 ^ 18
  b2 : -(10 ^ 18) ≤ os
  b3 : os ≤ 10 ^ 18
  b4 : -(10 ^ 40) ≤ oa
  b5 : oa ≤ 10 ^ 40
def BndR (e : Bool) (ps : List (Int × Int)) (low : Int) (high : Option Int) : Prop := if e = true then low = 1 ∧ high = some 0 else FitR ps low high
end KD

/-! Crossings, over data. -/
namespace KD
open PySem PySem.Spec PyProof.Rows L2 KP
def optN : Option Int → D
  | none => .non
  | some i => .int i
def wayD (q : Pt) : D := .tup [.int q.dy, .int q.po, .int q.sr]
section
variable {b : Int} {Q : D → Int → Prop} {E : XC → Int → Prop}
def crF (q1 q2 : Pt) (e : Bool) (st os sa oa : Int) : List (Str × D) := [("one", wayD q1), ("other", wayD q2), ("is_empty", .bl e), ("step", .int st), ("other_step", .int os), ("start", .int sa), ("other_start", .int oa)]
abbrev crD (q1 q2 : Pt) (e : Bool) (st os sa oa : Int) : D := .obj "Crossing" (crF q1 q2 e st os sa oa)
section
variable {q1 q2 : Pt} {e : Bool} {st os sa oa : Int}
end
end
end KD

/-! Common posts, numbers of posts, over data. -/
namespace KD
open PySem PySem.Spec PyProof.Rows L2 KP
section
variable {b : Int} {Q : D → Int → Prop} {E : XC → Int → Prop}
theorem BndR.bd {e : Bool} {ps : List (Int × Int)} {low : Int} {high : Option Int} (R : BndR e ps low high) : 0 ≤ low ∧ low ≤ 10 ^ 90 ∧ ∀ h, high = some h → -(10 ^ 90) ≤ h ∧ h ≤ 10 ^ 90 := by
  unfold BndR at R
  split at R
  · obtain ⟨rfl, rfl⟩ := R
    exact ⟨by decide, by decide, fun h e => by injection e with e; subst e; decide⟩
  · exact ⟨R.l0, R.l1, R.h0⟩
end
end KD

namespace KP
/-! ### common posts by going, of ways with small numbers -/
structure SmP (p1 s p2 t : Int) : Prop where
  a1 : -9 ≤ p1
  a2 : p1 ≤ 9
  b1 : -9 ≤ p2
  b2 : p2 ≤ 9
  s1 : -9 ≤ s
  s2 : s ≤ 9
  t1 : -9 ≤ t
  t2 : t ≤ 9
  sn : s ≠ 0
  tn : t ≠ 0
end KP

namespace KP
/-! ### the first block: plain mathematics -/
/-- at its post with number k the one finds that the other was there before -/
def Blk (d1 p1 s d2 p2 t : Int) (lim : Option Int) (ear : Bool) (k : Int) : Prop := 0 ≤ k ∧ ∃ j, 0 ≤ j ∧ p1 + k * s = p2 + j * t ∧ (∀ l, lim = some l → j < l) ∧ (0 < d1 + k - d2 - j ∨ (d1 + k - d2 - j = 0 ∧ ear = true))
def FB (d1 p1 s d2 p2 t : Int) (lim : Option Int) (ear : Bool) : Option Int → Prop
  | none => ∀ k, ¬ Blk d1 p1 s d2 p2 t lim ear k
  | some k => Blk d1 p1 s d2 p2 t lim ear k ∧ ∀ k', Blk d1 p1 s d2 p2 t lim ear k' → k ≤ k'
theorem FB.inj {d1 p1 s d2 p2 t : Int} {lim : Option Int} {ear : Bool} {x y : Option Int} (hx : FB d1 p1 s d2 p2 t lim ear x) (hy : FB d1 p1 s d2 p2 t lim ear y) : x = y := by
  match x, y, hx, hy with
  | none, none, _, _ => rfl
  | none, some k, h, ⟨b, _⟩ => exact absurd b (h k)
  | some k, none, ⟨b, _⟩, h => exact absurd b (h k)
  | some k, some k', ⟨b, m⟩, ⟨b', m'⟩ =>
    have h1 := m k' b'
    have h2 := m' k b
    have : k = k' := by omega
    rw [this]
/-! ### by going, of small numbers -/
end KP

namespace KP
/-! ### common posts from both sides, moved, mirrored -/
/-! ### first blocks, compared -/
theorem Blk.lim {d1 p1 s d2 p2 t : Int} {lim lim' : Option Int} {ear ear' : Bool} {k : Int} (h : Blk d1 p1 s d2 p2 t lim ear k) (hl : ∀ l', lim' = some l' → ∃ l, lim = some l ∧ l ≤ l') (he : ear = true → ear' = true) : Blk d1 p1 s d2 p2 t lim' ear' k := by
  obtain ⟨k0, j, j0, e, h1, h2⟩ := h
  refine ⟨k0, j, j0, e, fun l' e' => ?_, ?_⟩
  · obtain ⟨l, el, hle⟩ := hl l' e'
    have := h1 l el
    omega
  · rcases h2 with h2 | ⟨h2, h3⟩
    · exact .inl h2
    · exact .inr ⟨h2, he h3⟩
end KP

/-! First blocks, over data. -/
namespace KD
open PySem PySem.Spec PyProof.Rows L2 KP
section
variable {b : Int} {Q : D → Int → Prop} {E : XC → Int → Prop} {q1 q2 : Pt} {e : Bool} {st os sa oa : Int}
end
end KD

/-! The stops of a fence, one after the other: what both the program and the laws compute. -/
namespace KD
open PySem PySem.Spec PyProof.Rows L2 KP
/-! ### the least of some lists of ints -/
abbrev lt := PySem.W.listLt (α := Int)
theorem lt_cons {x y : Int} {xs ys : List Int} : lt (x :: xs) (y :: ys) = if x = y then lt xs ys else decide (x < y) := rfl
theorem lt_trans : ∀ {xs ys zs : List Int}, lt xs ys = true → lt ys zs = true → lt xs zs = true
  | [], [], _, h, _ => by cases h
  | [], _ :: _, [], _, h => by cases h
  | [], _ :: _, _ :: _, _, _ => rfl
  | _ :: _, [], _, h, _ => by cases h
  | _ :: _, _ :: _, [], _, h => by cases h
  | x :: xs, y :: ys, z :: zs, h1, h2 => by
    rw [lt_cons] at h1 h2 ⊢
    by_cases e : x = y
    · subst e
      rw [if_pos rfl] at h1
      by_cases e2 : x = z
      · rw [if_pos e2] at h2 ⊢; exact lt_trans h1 h2
      · rw [if_neg e2] at h2 ⊢; exact h2
    · rw [if_neg e] at h1
      have a1 := of_decide_eq_true h1
      by_cases e2 : y = z
      · subst e2
        rw [if_neg e]; exact h1
      · rw [if_neg e2] at h2
        have a2 := of_decide_eq_true h2
        rw [if_neg (by omega)]
        exact decide_eq_true (by omega)
def minO : List (List Int) → Option (List Int)
  | [] => none
  | l :: ls => some (minL l ls)
/-! ### first blocks -/
theorem least_int {P : Int → Prop} (h0 : ∀ k, P k → 0 ≤ k) (h : ∃ k, P k) : ∃ k, P k ∧ ∀ k', P k' → k ≤ k' := by
  obtain ⟨k, hk⟩ := h
  have key : ∀ (n : Nat) (k : Int), P k → k.toNat ≤ n → ∃ k, P k ∧ ∀ k', P k' → k ≤ k' := by
    intro n
    induction n with
    | zero =>
      intro k hk hn
      refine ⟨k, hk, fun k' h' => ?_⟩
      have := h0 k hk
      have := h0 k' h'
      omega
    | succ n ih =>
      intro k hk hn
      by_cases q : ∃ k', P k' ∧ k' < k
      · obtain ⟨k', h1, h2⟩ := q
        have := h0 k' h1
        exact ih k' h1 (by omega)
      · exact ⟨k, hk, fun k' h' => Classical.byContradiction fun z => q ⟨k', h', by omega⟩⟩
  exact key k.toNat k hk (Nat.le_refl _)
theorem fb_ex (d1 p1 s d2 p2 t : Int) (lim : Option Int) (ear : Bool) : ∃ r, FB d1 p1 s d2 p2 t lim ear r := by
  by_cases h : ∃ k, Blk d1 p1 s d2 p2 t lim ear k
  · obtain ⟨k, h1, h2⟩ := least_int (P := Blk d1 p1 s d2 p2 t lim ear) (fun k hk => hk.1) h
    exact ⟨some k, h1, h2⟩
  · exact ⟨none, fun k hk => h ⟨k, hk⟩⟩
noncomputable def fbO (q1 q2 : Pt) (lim : Option Int) (ear : Bool) : Option Int := Classical.choose (fb_ex q1.dy q1.po q1.sr q2.dy q2.po q2.sr lim ear)
/-! ### the stops, one after the other -/
abbrev Lims := List (Option Int)
abbrev FF := Nat → Nat → Option Int → Option Int
section
variable (n : Nat) (dy : Nat → Int) (F : FF) (L : Lims)
def cand (a : Nat) : List (List Int) := (List.range n).filterMap fun b => if b = a then none else (F a b (L.getD b none)).map fun k => [k, (b : Int)]
def fst (a : Nat) : Option (List Int) := minO (cand n F L a)
def nxo (a : Nat) : Option (List Int) := if L.getD a none = none then (fst n F L a).map fun x => (dy a + x.getD 0 0) :: (a : Int) :: x else none
def nx : List (List Int) := (List.range n).filterMap (nxo n dy F L)
def nextO : Option (List Int) := minO (nx n dy F L)
def sA (s : List Int) : Nat := (s.getD 1 0).toNat
def sK (s : List Int) : Int := s.getD 2 0
def sB (s : List Int) : Nat := (s.getD 3 0).toNat
def setL (s : List Int) : Lims := L.set (sA s) (some (sK s))
inductive Gre : Lims → List (List Int) → Prop
  | done {L : Lims} : nextO n dy F L = none → Gre L []
  | step {L : Lims} {s : List Int} {S : List (List Int)} : nextO n dy F L = some s → Gre (setL L s) S → Gre L (s :: S)
end
section
variable {n : Nat} {dy : Nat → Int} {F : FF} {L : Lims}
end
/-- of painters -/
noncomputable def fF (qs : List Pt) : FF := fun a b l => match qs[a]?, qs[b]? with
  | some q1, some q2 => fbO q1 q2 l (decide (b < a))
  | _, _ => none
def dyF (qs : List Pt) (a : Nat) : Int := match qs[a]? with
  | some q => q.dy
  | none => 0
end KD

/-! Blocks, over data. -/
namespace KD
open PySem PySem.Spec PyProof.Rows L2 KP
/-! ### words of objects that change -/
section
variable {cn f : Str} {i : Nat} {en : En} {me : Option Bool} {ms : Ms} {E : EK} {N : DN} {w wk wy wb : WE} {r : WA}
end
theorem ixN_nat {n b : Nat} (h : b < n) : ixN n (b : Int) = some b := by
  unfold ixN
  rw [if_pos (by omega), if_pos (by omega)]
  simp
theorem atI_nat {α : Type} {xs : List α} {b : Nat} (h : b < xs.length) : L2.atI xs (b : Int) = xs[b]? := by
  unfold L2.atI
  rw [ixN_nat h]; rfl
theorem oIx_natT {xs : List D} {b : Nat} {z : D} (h : xs[b]? = some z) (Q : D → Prop) (q : Q z) : oIx (.tup xs) (.int (b : Int)) Q := by
  show (match L2.atI xs (b : Int) with | some z => Q z | none => False)
  rw [atI_nat (List.getElem?_eq_some_iff.mp h).1, h]
  exact q
/-! ### dicts from places to counts -/
theorem valD_put {κ : Type} [DecidableEq κ] {kvs : List (κ × D)} {k k' : κ} {v : D} : valD (putD kvs k v) k' = if k' = k then some v else valD kvs k' := by
  unfold putD valD
  split
  · rename_i h
    induction kvs with
    | nil => simp at h
    | cons p r ih =>
      obtain ⟨k0, v0⟩ := p
      rw [List.map_cons]
      by_cases e : k0 = k
      · subst e
        simp only [if_true, List.find?_cons]
        by_cases e2 : k0 = k'
        · subst e2; simp
        · simp only [decide_eq_false e2]
          rw [if_neg (Ne.symm e2)]
          by_cases hr : (r.any fun kv => decide (kv.1 = k0)) = true
          · have := ih hr
            rw [if_neg (Ne.symm e2)] at this
            exact this
          · have er : r.map (fun kv => if kv.1 = k0 then (kv.1, v) else kv) = r := by
              have : ∀ kv ∈ r, kv.1 ≠ k0 := fun kv hkv z => hr (List.any_eq_true.mpr ⟨kv, hkv, decide_eq_true z⟩)
              have h2 : r.map (fun kv => if kv.1 = k0 then (kv.1, v) else kv) = r.map id := List.map_congr_left fun kv hkv => by rw [if_neg (this kv hkv)]; rfl
              rw [h2, List.map_id]
            rw [er]
      · simp only [if_neg e, List.find?_cons]
        by_cases e2 : k0 = k'
        · subst e2
          simp [e]
        · simp only [decide_eq_false e2]
          have hr : (r.any fun kv => decide (kv.1 = k)) = true := by simpa [e] using h
          exact ih hr
  · rename_i h
    rw [List.find?_append]
    by_cases e : k' = k
    · subst e
      have : kvs.find? (fun kv => decide (kv.1 = k')) = none := by
        rw [List.find?_eq_none]
        intro p hp q
        exact h (List.any_eq_true.mpr ⟨p, hp, q⟩)
      rw [this, if_pos rfl]
      simp
    · rw [if_neg e]
      have : ([(k, v)] : List (κ × D)).find? (fun kv => decide (kv.1 = k')) = none := by simp [Ne.symm e]
      rw [this]
      simp
theorem valD_drop {κ : Type} [DecidableEq κ] {kvs : List (κ × D)} {k k' : κ} : valD (dropD kvs k) k' = if k' = k then none else valD kvs k' := by
  unfold dropD valD
  induction kvs with
  | nil => simp
  | cons p r ih =>
    obtain ⟨k0, v0⟩ := p
    by_cases e : k0 = k
    · subst e
      rw [List.filter_cons, if_neg (by simp), ih]
      by_cases e2 : k' = k0
      · rw [if_pos e2, if_pos e2]
      · rw [if_neg e2, if_neg e2, List.find?_cons, decide_eq_false (fun z => e2 z.symm)]
    · rw [List.filter_cons, if_pos (by simp [e]), List.find?_cons, List.find?_cons]
      by_cases e2 : k0 = k'
      · subst e2
        simp [e]
      · simp only [decide_eq_false e2]
        exact ih
theorem mem_put {κ : Type} [DecidableEq κ] {kvs : List (κ × D)} {k : κ} {v : D} {p : κ × D} (h : p ∈ putD kvs k v) : p = (k, v) ∨ (p ∈ kvs ∧ p.1 ≠ k) := by
  unfold putD at h
  split at h
  · obtain ⟨q, hq, e⟩ := List.mem_map.mp h
    by_cases z : q.1 = k
    · rw [if_pos z] at e; exact .inl (by rw [← e, z])
    · rw [if_neg z] at e; subst e; exact .inr ⟨hq, z⟩
  · rename_i hn
    rcases List.mem_append.mp h with h | h
    · exact .inr ⟨h, fun z => hn (List.any_eq_true.mpr ⟨p, h, decide_eq_true z⟩)⟩
    · exact .inl (List.mem_singleton.mp h)
theorem put_keys {κ : Type} [DecidableEq κ] {kvs : List (κ × D)} {k : κ} {v : D} (h : (kvs.map (·.1)).Nodup) : ((putD kvs k v).map (·.1)).Nodup := by
  unfold putD
  split
  · have e : (kvs.map fun kv => if kv.1 = k then (kv.1, v) else kv).map (·.1) = kvs.map (·.1) := by
      rw [List.map_map]
      apply List.map_congr_left
      intro p _
      show (if p.1 = k then (p.1, v) else p).1 = p.1
      split <;> rfl
    rw [e]; exact h
  · rename_i hn
    rw [List.map_append, List.nodup_append]
    refine ⟨h, by simp, fun a ha b hb z => ?_⟩
    obtain ⟨p, hp, e⟩ := List.mem_map.mp ha
    have hb : b = k := by simpa using hb
    exact hn (List.any_eq_true.mpr ⟨p, hp, decide_eq_true (by rw [e, z, hb])⟩)
theorem drop_keys {κ : Type} [DecidableEq κ] {kvs : List (κ × D)} {k : κ} (h : (kvs.map (·.1)).Nodup) : ((dropD kvs k).map (·.1)).Nodup := by
  unfold dropD
  exact List.Nodup.sublist (List.Sublist.map _ (List.filter_sublist)) h
theorem nd_len : ∀ (n : Nat) (l : List Nat), l.Nodup → (∀ x ∈ l, x < n) → l.length ≤ n
  | 0, l, _, h => by
    cases l with
    | nil => exact Nat.le_refl _
    | cons x r => exact absurd (h x (List.mem_cons_self ..)) (Nat.not_lt_zero _)
  | n + 1, l, nd, h => by
    by_cases q : n ∈ l
    · have := nd_len n (l.erase n) (nd.erase n) fun x hx => by
        have h1 := h x (List.mem_of_mem_erase hx)
        have h2 : x ≠ n := fun z => by
          rw [z] at hx
          exact (List.Nodup.mem_erase_iff nd).mp hx |>.1 rfl
        omega
      rw [List.length_erase_of_mem q] at this
      omega
    · have := nd_len n l nd fun x hx => by
        have h1 := h x hx
        have h2 : x ≠ n := fun z => q (by rw [← z]; exact hx)
        omega
      omega
structure DOk (n : Nat) (kvs : List (Key × D)) (g : Nat → Option Int) : Prop where
  v : ∀ b : Nat, valD kvs (.inl (b : Int)) = (g b).map D.int
  m : ∀ p ∈ kvs, ∃ (b : Nat) (k : Int), b < n ∧ p = (.inl (b : Int), .int k) ∧ g b = some k
  nd : (kvs.map (·.1)).Nodup
theorem DOk.len {n : Nat} {kvs : List (Key × D)} {g : Nat → Option Int} (h : DOk n kvs g) : kvs.length ≤ n := by
  have e : (kvs.map fun p => (match p.1 with | .inl i => i.toNat | .inr _ => 0)).length = kvs.length := by simp
  rw [← e]
  apply nd_len
  · have : ∀ l : List (Key × D), (∀ p ∈ l, ∃ (b : Nat) (k : Int), b < n ∧ p = (.inl (b : Int), .int k) ∧ g b = some k) → (l.map (·.1)).Nodup → (l.map fun p => (match p.1 with | .inl i => i.toNat | .inr _ => 0)).Nodup := by
      intro l
      induction l with
      | nil => intro _ _; exact List.nodup_nil
      | cons p r ih =>
        intro hm nd
        rw [List.map_cons, List.nodup_cons] at nd ⊢
        refine ⟨fun z => ?_, ih (fun q hq => hm q (List.mem_cons_of_mem _ hq)) nd.2⟩
        obtain ⟨q, hq, e⟩ := List.mem_map.mp z
        obtain ⟨b1, k1, _, e1, _⟩ := hm p (List.mem_cons_self ..)
        obtain ⟨b2, k2, _, e2, _⟩ := hm q (List.mem_cons_of_mem _ hq)
        subst e1; subst e2
        have e : ((b2 : Int)).toNat = ((b1 : Int)).toNat := e
        have : b2 = b1 := by simpa using e
        exact nd.1 (List.mem_map.mpr ⟨_, hq, by rw [this]⟩)
    exact this kvs h.m h.nd
  · intro x hx
    obtain ⟨p, hp, e⟩ := List.mem_map.mp hx
    obtain ⟨b, k, hb, rfl, _⟩ := h.m p hp
    have e : ((b : Int)).toNat = x := e
    simp at e
    omega
def lookD (kvs : List (Key × D)) (b : Nat) : Option Int → List (Key × D)
  | none => dropD kvs (.inl (b : Int))
  | some k => putD kvs (.inl (b : Int)) (.int k)
theorem DOk.look {n : Nat} {kvs : List (Key × D)} {g : Nat → Option Int} (h : DOk n kvs g) {b : Nat} (hb : b < n) (r : Option Int) : DOk n (lookD kvs b r) (fun c => if c = b then r else g c) := by
  have inj : ∀ c : Nat, (Sum.inl (c : Int) : Key) = .inl (b : Int) ↔ c = b := fun c => by
    constructor
    · intro e; have := Sum.inl.inj e; omega
    · intro e; rw [e]
  cases r with
  | none =>
    refine ⟨fun c => ?_, fun p hp => ?_, drop_keys h.nd⟩
    · show valD (dropD _ _) _ = _
      rw [valD_drop]
      by_cases e : c = b
      · rw [if_pos ((inj c).mpr e), if_pos e]; rfl
      · rw [if_neg (fun z => e ((inj c).mp z)), if_neg e]; exact h.v c
    · have hp : p ∈ kvs.filter fun kv => decide (kv.1 ≠ .inl (b : Int)) := hp
      obtain ⟨h1, h2⟩ := List.mem_filter.mp hp
      obtain ⟨c, k, hc, rfl, e⟩ := h.m p h1
      refine ⟨c, k, hc, rfl, ?_⟩
      rw [if_neg (fun z => (of_decide_eq_true h2) ((inj c).mpr z))]; exact e
  | some k =>
    refine ⟨fun c => ?_, fun p hp => ?_, put_keys h.nd⟩
    · show valD (putD _ _ _) _ = _
      rw [valD_put]
      by_cases e : c = b
      · rw [if_pos ((inj c).mpr e), if_pos e]; rfl
      · rw [if_neg (fun z => e ((inj c).mp z)), if_neg e]; exact h.v c
    · rcases mem_put hp with rfl | ⟨h1, h2⟩
      · exact ⟨b, k, hb, rfl, by rw [if_pos rfl]⟩
      · obtain ⟨c, k', hc, rfl, e⟩ := h.m p h1
        exact ⟨c, k', hc, rfl, by rw [if_neg (fun z => h2 ((inj c).mpr z))]; exact e⟩
theorem DOk.nil {n : Nat} : DOk n [] (fun _ => none) := ⟨(fun _ => rfl), (fun _ h => nomatch h), List.nodup_nil⟩
end KD

/-! Parts of a name's tuple. -/
namespace KD
open PySem PySem.Spec PyProof.Rows L2 KP
theorem eIxN_at {i k : Nat} {en : En} {Q : D → En → Prop} {E : EK} {xs : List D} {z : D} (h : en.sl[i]? = some (some (.d (.tup xs)))) (hz : xs[k]? = some z) (q : Q z en) : eIxN i (eK (.int (k : Int))) en Q E := by
  refine ⟨by rw [h]; rfl, ?_⟩
  unfold eIxV eK
  dsimp only
  rw [h]
  exact oIx_natT hz _ q
end KD

/-! Comprehensions with a test, over a list that is a map. -/
namespace KD
open PySem PySem.Spec PyProof.Rows L2 KP
theorem lc_fltA {α : Type} {tt : WT} {te : WE} {v : Nat} {Q : List D → En → Prop} (f g : α → D) (p : α → Bool) {en : En} (hw : (en.set v none) = en) : ∀ (l : List α) (acc : List D), acc.length + l.length ≤ 100000 →
    (∀ a ∈ l, ∀ Q' : Bool → En → Prop, Q' (p a) (en.set v (some (.d (f a)))) → tt (en.set v (some (.d (f a)))) Q' noE) →
    (∀ a ∈ l, p a = true → ∀ Q' : D → En → Prop, Q' (g a) (en.set v (some (.d (f a)))) → te (en.set v (some (.d (f a)))) Q' noE) →
    Q (acc ++ (l.filter p).map g) en → lcGo (gN v) tt te [v] Q (l.map f) acc en
  | [], acc, _, _, _, k => by
    show Q acc en
    rw [List.filter_nil, List.map_nil, List.append_nil] at k
    exact k
  | a :: l, acc, hl, ht, he, k => by
    rw [List.length_cons] at hl
    have wp : wipeE (en.set v (some (.d (f a)))) [v] = en := by
      have : (en.set v (some (.d (f a)))).set v none = en.set v none := by unfold En.set; simp
      show (en.set v (some (.d (f a)))).set v none = en
      rw [this, hw]
    refine ht a (List.mem_cons_self ..) _ ?_
    by_cases h : p a = true
    · rw [if_pos h]
      refine he a (List.mem_cons_self ..) h _ ⟨by omega, ?_⟩
      rw [wp]
      refine lc_fltA f g p hw l _ (by rw [List.length_append]; show _ + 1 + _ ≤ _; omega) (fun b hb => ht b (List.mem_cons_of_mem _ hb)) (fun b hb => he b (List.mem_cons_of_mem _ hb)) ?_
      rw [List.filter_cons_of_pos h, List.map_cons] at k
      rw [List.append_assoc]; exact k
    · rw [if_neg h, wp]
      refine lc_fltA f g p hw l _ (by omega) (fun b hb => ht b (List.mem_cons_of_mem _ hb)) (fun b hb => he b (List.mem_cons_of_mem _ hb)) ?_
      rw [List.filter_cons_of_neg h] at k
      exact k
/-- [g for v in f-list if p] -/
theorem lc_flt {α : Type} {tt : WT} {te : WE} {v : Nat} {Q : List D → En → Prop} (f g : α → D) (p : α → Bool) {en : En} (l : List α) (hw : (en.set v none) = en) (hl : l.length ≤ 100000)
    (ht : ∀ a ∈ l, ∀ Q' : Bool → En → Prop, Q' (p a) (en.set v (some (.d (f a)))) → tt (en.set v (some (.d (f a)))) Q' noE)
    (he : ∀ a ∈ l, p a = true → ∀ Q' : D → En → Prop, Q' (g a) (en.set v (some (.d (f a)))) → te (en.set v (some (.d (f a)))) Q' noE)
    (k : Q ((l.filter p).map g) en) : lcGo (gN v) tt te [v] Q (l.map f) [] en := lc_fltA f g p hw l [] (by show 0 + _ ≤ _; omega) ht he (by rw [List.nil_append]; exact k)
theorem fLc_flt {α : Type} {wi : WI} {tt : WT} {te : WE} {v : Nat} {Q : List D → En → Prop} {E : EK} {en : En} (l : List α) (f g : α → D) (p : α → Bool) (hi : ∀ R : List D → En → Prop, R (l.map f) en → wi en R E) (hl : l.length ≤ 100000)
    (ht : ∀ a ∈ l, ∀ Q' : Bool → En → Prop, Q' (p a) (en.set v (some (.d (f a)))) → tt (en.set v (some (.d (f a)))) Q' noE)
    (he : ∀ a ∈ l, p a = true → ∀ Q' : D → En → Prop, Q' (g a) (en.set v (some (.d (f a)))) → te (en.set v (some (.d (f a)))) Q' noE)
    (k : Q ((l.filter p).map g) (en.set v none)) : fLc wi (gN v) tt te [v] en Q E := by
  refine hi _ ?_
  have e : ∀ x : Option B, (en.set v none).set v x = en.set v x := fun x => by unfold En.set; simp
  exact lc_flt (en := en.set v none) f g p l (e none) hl (fun a ha => by rw [e]; exact ht a ha) (fun a ha hp => by rw [e]; exact he a ha hp) k
theorem fLc_map {α : Type} {wi : WI} {te : WE} {v : Nat} {Q : List D → En → Prop} {E : EK} {en : En} (l : List α) (f g : α → D) (hi : ∀ R : List D → En → Prop, R (l.map f) en → wi en R E) (hl : l.length ≤ 100000)
    (he : ∀ a ∈ l, ∀ Q' : D → En → Prop, Q' (g a) (en.set v (some (.d (f a)))) → te (en.set v (some (.d (f a)))) Q' noE)
    (k : Q (l.map g) (en.set v none)) : fLc wi (gN v) tYesD te [v] en Q E :=
  fLc_flt l f g (fun _ => true) hi hl (fun a _ Q' h => h) (fun a ha _ => he a ha) (by rw [List.filter_eq_self.mpr fun _ _ => rfl]; exact k)
theorem eLenV_at {i : Nat} {en : En} {xs : List D} {Q : D → En → Prop} {E : EK} (h : en.sl[i]? = some (some (.d (.lst xs)))) (q : Q (.int (xs.length : Int)) en) : eLenV i en Q E := by
  unfold eLenV
  rw [h]
  exact q
end KD

set_option pp.maxSteps 400
/-! The laws' own common posts, over data. -/
namespace KD
open PySem PySem.Spec PyProof.Rows L2 KP
section
variable {b : Int} {Q : D → Int → Prop} {E : XC → Int → Prop}
def cmD (e : Bool) (st os sa oa : Int) : D := if e = true then .non else .tup [.int sa, .int st, .int oa, .int os]
end
end KD

/-! The laws' own first blocks, over data. -/
namespace KD
open PySem PySem.Spec PyProof.Rows L2 KP
section
variable {b : Int} {Q : D → Int → Prop} {E : XC → Int → Prop}
end
end KD

/-! Blocks, over data: its methods. -/
namespace KD
open PySem PySem.Spec PyProof.Rows L2 KP
def CrOk (qs : List Pt) (cr : List (List Key × D)) (a b : Nat) : Prop := ∃ q1 q2 e st os sa oa, qs[a]? = some q1 ∧ qs[b]? = some q2 ∧ valD cr [.inl (a : Int), .inl (b : Int)] = some (crD q1 q2 e st os sa oa) ∧ CrB q1.po q1.sr q2.po q2.sr e st os sa oa
def LOk (L : Lims) : Prop := ∀ l ∈ L, ∀ x, l = some x → 0 ≤ x ∧ x ≤ 10 ^ 60
theorem LOk.at {L : Lims} (h : LOk L) (b : Nat) : ∀ l, L.getD b none = some l → 0 ≤ l ∧ l ≤ 10 ^ 60 := fun l e => by
  by_cases hb : b < L.length
  · rw [List.getD_eq_getElem?_getD, List.getElem?_eq_getElem hb] at e
    have e : L[b] = some l := e
    exact h _ (List.getElem_mem hb) l e
  · rw [List.getD_eq_getElem?_getD, List.getElem?_eq_none (by omega)] at e
    cases e
section
variable {b : Int} {Q : D → Ms → Int → Prop} {E : XC → Ms → Int → Prop} {qs : List Pt} {L : Lims} {ds : List (List (Key × D))} {cr : List (List Key × D)}
end
/-! ### the first of a dict -/
section
variable {b : Int} {Q : D → Ms → Int → Prop} {E : XC → Ms → Int → Prop} {qs : List Pt} {L : Lims} {ds : List (List (Key × D))} {cr : List (List Key × D)}
end
end KD

/-! Blocks, over data: the next stop, a stop settled, all stops. -/
namespace KD
open PySem PySem.Spec PyProof.Rows L2 KP
noncomputable def gF (qs : List Pt) (L : Lims) (a : Nat) : Nat → Option Int := fun b => if b = a then none else fF qs a b (L.getD b none)
structure DRow (qs : List Pt) (L : Lims) (a : Nat) (kvs : List (Key × D)) : Prop where
  ok : DOk qs.length kvs (gF qs L a)
  bd : ∀ b x, gF qs L a b = some x → 0 ≤ x ∧ x ≤ 10 ^ 60
structure BOk (qs : List Pt) (L : Lims) (ds : List (List (Key × D))) (cr : List (List Key × D)) : Prop where
  q : ∀ q ∈ qs, q.Ok
  l : L.length = qs.length
  d : ds.length = qs.length
  n : qs.length ≤ 1000
  lo : LOk L
  c : ∀ a b, a < qs.length → b < qs.length → a ≠ b → CrOk qs cr a b
  g : ∀ a, a < qs.length → ∃ kvs, ds[a]? = some kvs ∧ (L.getD a none = none → DRow qs L a kvs)
theorem fF_lt {qs : List Pt} {a b : Nat} {l : Option Int} {k : Int} (h : fF qs a b l = some k) : a < qs.length ∧ b < qs.length := by
  unfold fF at h
  split at h
  · rename_i q1 q2 e1 e2
    exact ⟨(List.getElem?_eq_some_iff.mp e1).1, (List.getElem?_eq_some_iff.mp e2).1⟩
  · cases h
section
variable {b : Int} {Q : D → Ms → Int → Prop} {E : XC → Ms → Int → Prop} {qs : List Pt} {L : Lims} {ds : List (List (Key × D))} {cr : List (List Key × D)}
end
end KD

/-! Blocks, over data: a stop settled, all stops, how it is made. -/
namespace KD
open PySem PySem.Spec PyProof.Rows L2 KP
section
variable {b : Int} {Q : D → Ms → Int → Prop} {E : XC → Ms → Int → Prop} {qs : List Pt} {L : Lims} {ds : List (List (Key × D))} {cr : List (List Key × D)}
/-! ### all stops -/
end
end KD

/-! Blocks made; fences, over data. -/
namespace KD
open PySem PySem.Spec PyProof.Rows L2 KP
theorem put_new {κ : Type} [DecidableEq κ] {kvs : List (κ × D)} {k : κ} {v : D} (h : ∀ p ∈ kvs, p.1 ≠ k) : putD kvs k v = kvs ++ [(k, v)] := by
  unfold putD
  rw [if_neg]
  intro z
  obtain ⟨p, hp, e⟩ := List.any_eq_true.mp z
  exact h p hp (of_decide_eq_true e)
abbrev L0 (n : Nat) : Lims := List.replicate n none
section
variable {b : Int} {Q : D → Ms → Int → Prop} {E : XC → Ms → Int → Prop} {qs : List Pt}
noncomputable def gP (qs : List Pt) (a j : Nat) : Nat → Option Int := fun c => if c < j then gF qs (L0 qs.length) a c else none
structure DPart (qs : List Pt) (a j : Nat) (kvs : List (Key × D)) : Prop where
  ok : DOk qs.length kvs (gP qs a j)
  bd : ∀ c x, gP qs a j c = some x → 0 ≤ x ∧ x ≤ 10 ^ 60
theorem DPart.row {a : Nat} {kvs : List (Key × D)} (h : DPart qs a qs.length kvs) : DRow qs (L0 qs.length) a kvs := by
  have e : gP qs a qs.length = gF qs (L0 qs.length) a := by
    funext c
    unfold gP
    by_cases q : c < qs.length
    · rw [if_pos q]
    · rw [if_neg q]
      unfold gF
      split
      · rfl
      · cases z : fF qs a c ((L0 qs.length).getD c none) with
        | none => rfl
        | some x => exact absurd (fF_lt z).2 q
  exact ⟨by rw [← e]; exact h.ok, fun c x hx => h.bd c x (by rw [e]; exact hx)⟩
theorem DPart.nil {a : Nat} : DPart qs a 0 [] := by
  have e : gP qs a 0 = fun _ => none := by
    funext c
    unfold gP
    rw [if_neg (Nat.not_lt_zero _)]
  exact ⟨by rw [e]; exact DOk.nil, fun c x hx => by rw [e] at hx; cases hx⟩
theorem CrOk.put {cr : List (List Key × D)} {a c a' c' : Nat} {v : D} (h : CrOk qs cr a c) (n : ¬ (a = a' ∧ c = c')) : CrOk qs (putD cr [.inl (a' : Int), .inl (c' : Int)] v) a c := by
  obtain ⟨q1, q2, e, st, os, sa, oa, h1, h2, h3, h4⟩ := h
  refine ⟨q1, q2, e, st, os, sa, oa, h1, h2, ?_, h4⟩
  rw [valD_put, if_neg]
  · exact h3
  · intro z
    injection z with z1 z2
    injection z2 with z2 _
    injection z1 with z1
    injection z2 with z2
    exact n ⟨by omega, by omega⟩
/-- what is there when the rows below i are done, and the row i up to j -/
structure IOk (qs : List Pt) (i j : Nat) (ds : List (List (Key × D))) (cr : List (List Key × D)) : Prop where
  d : ds.length = qs.length
  lo : ∀ a, a < i → a < qs.length → ∃ kvs, ds[a]? = some kvs ∧ DPart qs a qs.length kvs
  me : i < qs.length → ∃ kvs, ds[i]? = some kvs ∧ DPart qs i j kvs
  hi : ∀ a, i < a → a < qs.length → ds[a]? = some []
  c : ∀ a c, c < qs.length → a ≠ c → (a < i ∨ (a = i ∧ c < j)) → CrOk qs cr a c
  l : cr.length ≤ i * qs.length + j
theorem IOk.next {i : Nat} {ds : List (List (Key × D))} {cr : List (List Key × D)} (h : IOk qs i qs.length ds cr) : IOk qs (i + 1) 0 ds cr := by
  refine ⟨h.d, fun a ha hn => ?_, fun hi => ⟨[], h.hi _ (by omega) hi, .nil⟩, fun a ha hn => h.hi a (by omega) hn, fun a c hc hac hh => ?_, ?_⟩
  · by_cases e : a = i
    · subst e; exact h.me hn
    · exact h.lo a (by omega) hn
  · exact h.c a c hc hac (by omega)
  · have := h.l
    rw [Nat.add_mul]
    omega
end
end KD

/-! Fences, histories, over data. -/
namespace KD
open PySem PySem.Spec PyProof.Rows L2 KP
theorem dcGo_ind {g : WG} {tt : WT} {tk tv : WE} {vs : List Nat} {Q : List (Key × D) → En → Prop} (xs : List D) (I : Nat → List (Key × D) → En → Prop) {acc : List (Key × D)} {en : En} (h0 : I 0 acc en)
    (hs : ∀ (i : Nat) (x : D) (acc : List (Key × D)) (en : En) (J : List (Key × D) → En → Prop), xs[i]? = some x → I i acc en → (∀ acc' en', I (i + 1) acc' en' → J acc' en') →
      g x en fun en1 => tt en1 (fun c en2 => if c = true then tk en2 (fun y en3 => tv en3 (fun z en4 => match keyD y with
        | some k => acc.length < 100000 ∧ J (putD acc k z) (wipeE en4 vs)
        | none => False) noE) noE else J acc (wipeE en2 vs)) noE)
    (hd : ∀ acc en, I xs.length acc en → Q acc en) : dcGo g tt tk tv vs Q xs acc en := by
  suffices h : ∀ (ys : List D) (i : Nat) (acc : List (Key × D)) (en : En), xs.drop i = ys → i ≤ xs.length → I i acc en → dcGo g tt tk tv vs Q ys acc en from h xs 0 acc en rfl (Nat.zero_le _) h0
  intro ys
  induction ys with
  | nil =>
    intro i acc en e hi hI
    have : i = xs.length := by
      have := congrArg List.length e
      rw [List.length_drop] at this
      simp at this
      omega
    subst this
    exact hd acc en hI
  | cons y ys ih =>
    intro i acc en e hi hI
    have hx : xs[i]? = some y := by
      have := congrArg List.head? e
      rw [List.head?_drop] at this
      simpa using this
    have hlt : i < xs.length := (List.getElem?_eq_some_iff.mp hx).1
    have e2 : xs.drop (i + 1) = ys := by
      rw [← List.drop_drop, e]
      rfl
    exact hs i y acc en (dcGo g tt tk tv vs Q ys) hx hI fun acc2 en2 q => ih (i + 1) acc2 en2 e2 hlt q
theorem allD_map : ∀ xs : List D, allD (xs.map B.d) = some xs
  | [] => rfl
  | x :: xs => by
    show (allD (xs.map B.d)).map (x :: ·) = some (x :: xs)
    rw [allD_map xs]; rfl
/-! ### names -/
def nmF (qs : List Pt) (i : Nat) : Str := match qs[i]? with
  | some q => q.nm
  | none => ""
def poF (qs : List Pt) (i : Nat) (k : Int) : Int := match qs[i]? with
  | some q => q.po + k * q.sr
  | none => 0
def ND (qs : List Pt) : Prop := (qs.map Pt.nm).Nodup
theorem nm_at {qs : List Pt} {i : Nat} {q : Pt} (h : qs[i]? = some q) : nmF qs i = q.nm := by unfold nmF; rw [h]
theorem nm_inj {qs : List Pt} (nd : ND qs) {i j : Nat} (hi : i < qs.length) (hj : j < qs.length) (h : nmF qs i = nmF qs j) : i = j := by
  have p := List.pairwise_iff_getElem.mp nd
  rw [nm_at (List.getElem?_eq_getElem hi), nm_at (List.getElem?_eq_getElem hj)] at h
  have key : ∀ i j (hi : i < qs.length) (hj : j < qs.length), i < j → qs[i].nm = qs[j].nm → False := fun i j hi hj l e => by
    have := p i j (by rw [List.length_map]; exact hi) (by rw [List.length_map]; exact hj) l
    rw [List.getElem_map, List.getElem_map] at this
    exact this e
  rcases Nat.lt_trichotomy i j with l | l | l
  · exact (key i j hi hj l h).elim
  · exact l
  · exact (key j i hj hi l h.symm).elim
/-! ### fences -/
def plD (qs : List Pt) (n : Nat) : List (Key × D) := (List.range n).map fun i => (.inr (nmF qs i), .int (i : Int))
def fnF (qs : List Pt) : List (Str × D) := [("listed", .tup (qs.map Pt.o)), ("places", .dic (plD qs qs.length))]
abbrev fnD (qs : List Pt) : D := .obj "Fence" (fnF qs)
theorem isi_P {q : Pt} {others : List Str} {Q : D → Prop} (k : Q (.bl true)) : oIsiC "Painter" others [q.o, .cls "Painter"] Q := by
  unfold oIsiC
  exact ⟨rfl, .inl ⟨rfl, k⟩⟩
theorem in_take {qs : List Pt} (nd : ND qs) {i : Nat} (h : i < qs.length) : inD (.str (nmF qs i)) (((qs.map fun q => D.str q.nm)).take i) = false := by
  unfold inD
  rw [List.any_eq_false]
  intro y hy z
  obtain ⟨j, hj, e⟩ := List.mem_iff_getElem.mp hy
  rw [List.length_take, List.length_map] at hj
  rw [List.getElem_take, List.getElem_map] at e
  subst e
  have z : (qs[j].nm == nmF qs i) = true := z
  have z := eq_of_beq z
  rw [← nm_at (List.getElem?_eq_getElem (show j < qs.length by omega))] at z
  have := nm_inj nd (by omega) h z
  omega
theorem oSl_lst {xs : List D} {lo hi : Option Int} {Q : D → Prop} (k : Q (.lst (cutD xs lo hi))) : oSl (.lst xs) lo hi Q := k
theorem in_lst {x : D} {xs : List D} {c : Bool} {Q : D → Prop} (h1 : x.flat = true) (h2 : xs.all D.flat = true) (e : inD x xs = c) (k : Q (.bl c)) : oIn false x (.lst xs) Q := by
  subst e
  cases x <;> exact ⟨h1, h2, k⟩
theorem cut_to {xs : List D} {i : Nat} (h : i ≤ xs.length) : cutD xs none (some (i : Int)) = xs.take i := by
  unfold cutD
  rw [HT.sIx_none, HT.sIx_nat]
  show ((xs.drop 0).take (min i xs.length - 0)) = _
  rw [List.drop_zero, Nat.sub_zero, Nat.min_eq_left h]
section
variable {b : Int} {Q : D → Int → Prop} {E : XC → Int → Prop} {qs : List Pt}
theorem q_Fence_init {Qn : List (Str × D) → Int → Prop} (nd : ND qs) (hn : qs.length ≤ 40) (k : Qn (fnF qs) b) : W_Fence_init (qs.map fun q => .d q.o) b Qn E := by
  unfold W_Fence_init
  refine ⟨Nat.zero_le _, ?_⟩
  have ea : allD (qs.map fun q => B.d q.o) = some (qs.map Pt.o) := by
    rw [← allD_map, List.map_map]; rfl
  show (match allD (qs.map fun q => B.d q.o) with | some xs => _ | none => False)
  rw [ea]
  refine ⟨by rw [List.length_map]; omega, rfl, ?_⟩
  unfold w_Fence_init sSeq
  dsimp only [sFor, KD.iEnT, aD, aCons, aNil, eVar]
  refine forGo_ind (pairs (qs.map Pt.o)) (fun i en => ∃ x2 x3, en = ⟨[some (.slf "Fence" []), some (.d (.tup (qs.map Pt.o))), x2, x3, none, none], b⟩) ⟨none, none, rfl⟩ (fun i x en J hx ⟨x2, x3, he⟩ hJ => ?_) fun en ⟨x2, x3, he⟩ => ?_
  · subst he
    obtain ⟨y, hy, rfl⟩ := pairs_get hx
    obtain ⟨q, hq, rfl⟩ := List.mem_map.mp (List.mem_of_getElem? hy)
    refine ⟨rfl, ?_⟩
    refine isi_P ?_
    exact hJ _ ⟨_, _, rfl⟩
  subst he
  dsimp only [sSet, eF, fLc, iTupD, eVar]
  refine lcGo_ind (qs.map Pt.o) (fun i acc en => en = ⟨[some (.slf "Fence" []), some (.d (.tup (qs.map Pt.o))), x2, none, none, none], b⟩ ∧ acc = (qs.map fun q => D.str q.nm).take i) ⟨rfl, rfl⟩ (fun i x acc en J hx ⟨he, ha⟩ hJ => ?_) fun acc en ⟨he, ha⟩ => ?_
  · subst he; subst ha
    rw [List.getElem?_map] at hx
    cases qe : qs[i]? with
    | none => rw [qe] at hx; cases hx
    | some q =>
    rw [qe] at hx; cases hx
    have hi : i < qs.length := (List.getElem?_eq_some_iff.mp qe).1
    dsimp only [gN, tYesD]
    refine iteT ?_
    refine ⟨rfl, q_Painter_name ?_⟩
    refine ⟨by rw [List.length_take]; omega, hJ _ _ ⟨rfl, ?_⟩⟩
    rw [List.take_add_one, List.getElem?_map, qe]; rfl
  subst he; subst ha
  rw [List.length_map, List.take_of_length_le (by rw [List.length_map]; omega)]
  dsimp only [sFor, KD.iEn, aD, aCons, aNil, eVar]
  refine forGo_ind (pairs (qs.map fun q => D.str q.nm)) (fun i en => ∃ x2 x5, en = ⟨[some (.slf "Fence" []), some (.d (.tup (qs.map Pt.o))), x2, none, some (.d (.lst (qs.map fun q => D.str q.nm))), x5], b⟩) ⟨x2, none, rfl⟩ (fun i x en J hx ⟨x2, x5, he⟩ hJ => ?_) fun en ⟨x2, x5, he⟩ => ?_
  rotate_left
  · subst he
    obtain ⟨y, hy, rfl⟩ := pairs_get hx
    rw [List.getElem?_map] at hy
    cases qe : qs[i]? with
    | none => rw [qe] at hy; cases hy
    | some q =>
    rw [qe] at hy; cases hy
    have hi : i < qs.length := (List.getElem?_eq_some_iff.mp qe).1
    refine ⟨rfl, rfl, ?_⟩
    dsimp only [oNo, oSo, oSl]
    show oSl (.lst (qs.map fun q => D.str q.nm)) none (some (i : Int)) (fun y => oIn false (.str q.nm) y _)
    refine oSl_lst ?_
    rw [cut_to (by rw [List.length_map]; omega)]
    refine in_lst (c := false) rfl ?_ (by rw [← nm_at qe]; exact in_take nd hi) ?_
    · rw [List.all_eq_true]
      intro x hx
      obtain ⟨q', _, rfl⟩ := List.mem_map.mp (List.mem_of_mem_take hx)
      rfl
    · exact hJ _ ⟨_, _, rfl⟩
  subst he
  dsimp only [sIf, tOf, eOp, eLenV, oLen, eK, oGt, oCmp]
  show (if decide ((40 : Int) < ((qs.map Pt.o).length : Int)) = true then _ else _)
  rw [List.length_map, decide_eq_false (by omega)]
  refine iteF ?_
  refine ⟨rfl, (show (0 : Nat) < 1000 by decide), ?_⟩
  dsimp only [sFldC, eFK, fDc, KD.iEn, aD, aCons, aNil, eVar]
  refine dcGo_ind (pairs (qs.map fun q => D.str q.nm)) (fun i acc en => en = ⟨[some (.slf "Fence" [("listed", .tup (qs.map Pt.o))]), some (.d (.tup (qs.map Pt.o))), none, none, some (.d (.lst (qs.map fun q => D.str q.nm))), none], b⟩ ∧ acc = plD qs i) ⟨rfl, rfl⟩ (fun i x acc en J hx ⟨he, ha⟩ hJ => ?_) fun acc en ⟨he, ha⟩ => ?_
  · subst he; subst ha
    obtain ⟨y, hy, rfl⟩ := pairs_get hx
    rw [List.getElem?_map] at hy
    cases qe : qs[i]? with
    | none => rw [qe] at hy; cases hy
    | some q =>
    rw [qe] at hy; cases hy
    have hi : i < qs.length := (List.getElem?_eq_some_iff.mp qe).1
    refine ⟨rfl, ?_⟩
    dsimp only [gN, gsCons, gsNil, tYesD]
    refine iteT ?_
    refine ⟨by unfold plD; rw [List.length_map, List.length_range]; omega, hJ _ _ ⟨rfl, ?_⟩⟩
    rw [put_new]
    · unfold plD
      rw [List.range_succ, List.map_append]
      show _ ++ [(Sum.inr q.nm, D.int (i : Int))] = _ ++ [(Sum.inr (nmF qs i), D.int (i : Int))]
      rw [nm_at qe]
    · intro p hp z
      unfold plD at hp
      obtain ⟨j, hj, rfl⟩ := List.mem_map.mp hp
      have hj := List.mem_range.mp hj
      have z : (Sum.inr (nmF qs j) : Key) = Sum.inr q.nm := z
      injection z with z
      rw [← nm_at qe] at z
      have := nm_inj nd (by omega) hi z
      omega
  subst he; subst ha
  rw [pairs_length, List.length_map]
  exact ⟨rfl, (show (1 : Nat) < 1000 by decide), rfl, k⟩
end
end KD

/-! Histories, over data. -/
namespace KD
open PySem PySem.Spec PyProof.Rows L2 KP
/-! ### the stops -/
abbrev lastL (n : Nat) (S : List (List Int)) : Lims := S.foldl setL (L0 n)
def stD (qs : List Pt) (s : List Int) : D := .tup [.int (s.getD 0 0), .int (poF qs (sA s) (sK s)), .str (nmF qs (sB s))]
def ohD (qs : List Pt) : Option (List Int) → D
  | none => .non
  | some s => stD qs s
def stopO (S : List (List Int)) (i : Nat) : Option (List Int) := S.find? fun s => decide (sA s = i)
def rowD (qs : List Pt) (S : List (List Int)) (i : Nat) : D := .tup [.str (nmF qs i), optN ((lastL qs.length S).getD i none), ohD qs (stopO S i)]
section
variable {qs : List Pt} {L : Lims} {S : List (List Int)}
end
section
variable {b : Int} {Q : D → Int → Prop} {E : XC → Int → Prop} {qs : List Pt}
end
end KD

/-! The laws' own next stops, over data. -/
namespace KD
open PySem PySem.Spec PyProof.Rows L2 KP
theorem ints_get {n i : Nat} {x : D} (h : (intsD 0 n)[i]? = some x) : i < n ∧ x = .int (i : Int) := by
  obtain ⟨h1, h2⟩ := intsD_get h
  rw [Int.zero_add] at h2
  exact ⟨h1, h2⟩
section
variable {b : Int} {Q : D → Int → Prop} {E : XC → Int → Prop} {qs : List Pt}
def PrOk (qs : List Pt) (kvs : List (List Key × D)) (a c : Nat) : Prop := ∃ q1 q2 e st os sa oa, qs[a]? = some q1 ∧ qs[c]? = some q2 ∧ valD kvs [.inl (a : Int), .inl (c : Int)] = some (cmD e st os sa oa) ∧ CrB q1.po q1.sr q2.po q2.sr e st os sa oa
theorem PrOk.put {cr : List (List Key × D)} {a c a' c' : Nat} {v : D} (h : PrOk qs cr a c) (n : ¬ (a = a' ∧ c = c')) : PrOk qs (putD cr [.inl (a' : Int), .inl (c' : Int)] v) a c := by
  obtain ⟨q1, q2, e, st, os, sa, oa, h1, h2, h3, h4⟩ := h
  refine ⟨q1, q2, e, st, os, sa, oa, h1, h2, ?_, h4⟩
  rw [valD_put, if_neg]
  · exact h3
  · intro z
    injection z with z1 z2
    injection z2 with z2 _
    injection z1 with z1
    injection z2 with z2
    exact n ⟨by omega, by omega⟩
end
end KD

/-! The laws' own histories, over data. -/
namespace KD
open PySem PySem.Spec PyProof.Rows L2 KP
section
variable {b : Int} {Q : D → Int → Prop} {E : XC → Int → Prop} {qs : List Pt}
end
end KD

/-! Fences of the laws, rows as texts, over data. -/
namespace KD
open PySem PySem.Spec PyProof.Rows L2 KP
theorem ND.take {qs : List Pt} (h : ND qs) (i : Nat) : ND (qs.take i) := by
  unfold ND
  rw [List.map_take]
  exact List.Nodup.sublist (List.take_sublist _ _) h
section
variable {b : Int} {Q : D → Int → Prop} {E : XC → Int → Prop} {qs : List Pt}
end
/-! ### bounds of rows -/
theorem eVar_at {i : Nat} {en : En} {x : D} {Q : D → En → Prop} {E : EK} (h : en.sl[i]? = some (some (.d x))) (k : Q x en) : eVar i en Q E := by
  unfold eVar
  rw [h]
  exact k
end KD

/-! Names of fences; who blocked whom, over data. -/
namespace KD
open PySem PySem.Spec PyProof.Rows L2 KP
theorem pl_at {qs : List Pt} (nd : ND qs) {i : Nat} (hi : i < qs.length) : valD (plD qs qs.length) (.inr (nmF qs i)) = some (.int (i : Int)) := by
  unfold valD
  cases h : (plD qs qs.length).find? fun kv => decide (kv.1 = .inr (nmF qs i)) with
  | none =>
    rw [List.find?_eq_none] at h
    exact absurd (decide_eq_true rfl) (h (.inr (nmF qs i), .int (i : Int)) (List.mem_map.mpr ⟨i, List.mem_range.mpr hi, rfl⟩))
  | some p =>
    have h1 := List.mem_of_find?_eq_some h
    have h2 := List.find?_some h
    have h2 : p.1 = .inr (nmF qs i) := of_decide_eq_true h2
    obtain ⟨j, hj, rfl⟩ := List.mem_map.mp h1
    have : j = i := nm_inj nd (List.mem_range.mp hj) hi (Sum.inr.inj h2)
    subst this; rfl
/-! ### chains of blockers -/
inductive Chn (S : List (List Int)) : List Nat → Nat → List Nat → Prop
  | done {l : List Nat} {a : Nat} : (∀ s, stopO S a = some s → sB s ∈ l) → Chn S l a l
  | step {l r : List Nat} {a : Nat} {s : List Int} : stopO S a = some s → sB s ∉ l → Chn S (l ++ [sB s]) (sB s) r → Chn S l a r
section
variable {b : Int} {Q : D → Int → Prop} {E : XC → Int → Prop} {qs : List Pt}
theorem q_contains {z : Str} (k : Q (.bl (valD (plD qs qs.length) (.inr z)).isSome) b) : W_Fence_contains [.d (fnD qs), .d (.str z)] b Q E := by
  unfold W_Fence_contains
  refine ⟨rfl, ?_⟩
  refine q_isi (t := "str") rfl kb_ss ?_
  exact ⟨rfl, k⟩
theorem q_need_name (nd : ND qs) {i : Nat} (hi : i < qs.length) (k : Q .non b) : W_Fence_need_name [.d (fnD qs), .d (.str (nmF qs i))] b Q E := by
  unfold W_Fence_need_name
  refine ⟨rfl, rfl, ?_⟩
  refine q_contains ?_
  rw [pl_at nd hi]
  exact k
end
end KD

/-! Painters that were spared, over data. -/
namespace KD
open PySem PySem.Spec PyProof.Rows L2 KP
def ltO (k : Int) : Option Int → Bool
  | none => true
  | some c => decide (k < c)
def spR (j : Nat) (lim : Option Int) : Option Int → Option (Nat × Int)
  | none => none
  | some k => if ltO k lim = true then some (j, k) else none
noncomputable def spO (qs : List Pt) (S : List (List Int)) (i j : Nat) : Option (Nat × Int) :=
  if j = i ∨ ((lastL qs.length S).getD j none).isNone = true then none else spR j ((lastL qs.length S).getD i none) (fF qs i j none)
def spD (qs : List Pt) (i : Nat) (p : Nat × Int) : D := .tup [.str (nmF qs p.1), .int (poF qs i p.2), .int (dyF qs i + p.2)]
noncomputable def spL (qs : List Pt) (S : List (List Int)) (i n : Nat) : List (Nat × Int) := (List.range n).filterMap (spO qs S i)
theorem spL_succ {qs : List Pt} {S : List (List Int)} {i n : Nat} : spL qs S i (n + 1) = spL qs S i n ++ (spO qs S i n).toList := by
  unfold spL
  rw [List.range_succ, List.filterMap_append]
  cases h : spO qs S i n <;> simp [h]
theorem oIx_pl {qs : List Pt} (nd : ND qs) {i : Nat} (hi : i < qs.length) (Q : D → Prop) (k : Q (.int (i : Int))) : oIx (.dic (plD qs qs.length)) (.str (nmF qs i)) Q := by
  show (match valD (plD qs qs.length) (.inr (nmF qs i)) with | some z => Q z | none => False)
  rw [pl_at nd hi]; exact k
section
variable {b : Int} {Q : D → Int → Prop} {E : XC → Int → Prop} {qs : List Pt}
theorem q_getitem (nd : ND qs) {i : Nat} {q : Pt} (hq : qs[i]? = some q) (k : Q q.o b) : W_Fence_getitem [.d (fnD qs), .d (.str (nmF qs i))] b Q E := by
  unfold W_Fence_getitem
  have hi : i < qs.length := (List.getElem?_eq_some_iff.mp hq).1
  refine ⟨rfl, ?_⟩
  unfold w_Fence_getitem sSeq
  refine ⟨rfl, rfl, q_need_name nd hi ?_⟩
  refine ⟨rfl, rfl, oIx_pl nd hi _ ?_⟩
  exact oIx_natT (z := q.o) (by rw [List.getElem?_map, hq]; rfl) _ k
def SpB (qs : List Pt) (S : List (List Int)) (i n : Nat) : Prop := ∀ p ∈ spL qs S i n, 0 ≤ p.2 ∧ p.2 ≤ 10 ^ 60
theorem SpB.next {S : List (List Int)} {i n : Nat} (h : SpB qs S i n) (g : ∀ p, spO qs S i n = some p → 0 ≤ p.2 ∧ p.2 ≤ 10 ^ 60) : SpB qs S i (n + 1) := fun p hp => by
  rw [spL_succ] at hp
  rcases List.mem_append.mp hp with hp | hp
  · exact h p hp
  · exact g p (by cases e : spO qs S i n with
      | none => rw [e] at hp; cases hp
      | some x => rw [e] at hp; rw [List.mem_singleton.mp hp])
end
end KD

/-! The stops of a fence: what holds in the end. -/
namespace KD
open PySem PySem.Spec PyProof.Rows L2 KP
/-- whoever stops later does not matter: what F tells up to a day -/
structure FOk (dy : Nat → Int) (F : FF) : Prop where
  mono : ∀ a b l k, F a b (some l) = some k → ∃ k0, F a b none = some k0 ∧ k0 ≤ k
  keep : ∀ a b l k, F a b none = some k → (dy a + k < dy b + l ∨ (dy a + k = dy b + l ∧ a < b)) → F a b (some l) = some k
section
variable {n : Nat} {dy : Nat → Int} {F : FF}
end
end KD

/-! Counts that are first blocks by themselves are the history's. -/
namespace KD
open PySem PySem.Spec PyProof.Rows L2 KP
section
variable {n : Nat} {dy : Nat → Int} {F : FF}
/-- each count is the first block by the counts -/
structure Fix (n : Nat) (F : FF) (L : Lims) : Prop where
  len : L.length = n
  no : ∀ a, a < n → L.getD a none = none → fst n F L a = none
  yes : ∀ a k, a < n → L.getD a none = some k → ∃ b : Nat, fst n F L a = some [k, (b : Int)]
end
end KD

/-! Histories of few painters. -/
namespace KD
open PySem PySem.Spec PyProof.Rows L2 KP
section
variable {d1 p1 s d2 p2 t : Int} {lim : Option Int} {ear : Bool}
end
end KD

/-! What counts tell: where painters are stopped, and where they are not. -/
namespace KD
open PySem PySem.Spec PyProof.Rows L2 KP
/-- is blocked at its number c by the other one, with a count -/
abbrev BlkQ (q q' : Pt) (lim : Option Int) (ear : Bool) (c : Int) : Prop := Blk q.dy q.po q.sr q'.dy q'.po q'.sr lim ear c
structure Told (qs : List Pt) (L : Lims) : Prop where
  len : L.length = qs.length
  blk : ∀ i k q, qs[i]? = some q → L.getD i none = some k → ∃ j q', j ≠ i ∧ qs[j]? = some q' ∧ BlkQ q q' (L.getD j none) (decide (j < i)) k
  free : ∀ i c q, qs[i]? = some q → (∀ k, L.getD i none = some k → c < k) → ∀ j q', j ≠ i → qs[j]? = some q' → ¬ BlkQ q q' (L.getD j none) (decide (j < i)) c
section
variable {qs : List Pt} {L : Lims}
end
end KD

/-! Rows by counts that tell. -/
namespace KD
open PySem PySem.Spec PyProof.Rows L2 KP
section
variable {qs : List Pt} {S : List (List Int)} {L : Lims}
end
/-- stops at its number k because of b -/
structure Stp (qs : List Pt) (L : Lims) (i : Nat) (k : Int) (b : Nat) : Prop where
  l : L.getD i none = some k
  n : b ≠ i
  bk : ∃ q q', qs[i]? = some q ∧ qs[b]? = some q' ∧ BlkQ q q' (L.getD b none) (decide (b < i)) k
  m : ∀ j q q', j < b → j ≠ i → qs[i]? = some q → qs[j]? = some q' → ¬ BlkQ q q' (L.getD j none) (decide (j < i)) k
/-! ### few painters -/
section
variable {b : Int} {Q : D → Int → Prop} {E : XC → Int → Prop} {qs : List Pt}
end
end KD

/-! What is plain. -/
namespace KD
open PySem PySem.Spec PyProof.Rows L2 KP
theorem str_pln {z : Str} (h : ∀ c ∈ z.cps.toList, c < 0x110000) : (D.str z).pln = true := by
  show PyData.strOk z = true
  unfold PyData.strOk
  rw [← Array.all_toList, List.all_eq_true]
  exact fun c hc => decide_eq_true (h c hc)
theorem name_pln {z : Str} (h : NameD z) : (D.str z).pln = true := str_pln fun c hc => by have := h.2.2 c hc; omega
theorem plns_all : ∀ {xs : List D}, (∀ x ∈ xs, x.pln = true) → plns xs = true
  | [], _ => rfl
  | x :: xs, h => by
    show (x.pln && plns xs) = true
    rw [h x (List.mem_cons_self ..), plns_all fun y hy => h y (List.mem_cons_of_mem _ hy)]; rfl
theorem deps_all {n : Nat} : ∀ {xs : List D}, (∀ x ∈ xs, x.dep ≤ n) → deps xs ≤ n
  | [], _ => Nat.zero_le _
  | x :: xs, h => by
    show max x.dep (deps xs) ≤ n
    have := h x (List.mem_cons_self ..)
    have := deps_all fun y hy => h y (List.mem_cons_of_mem _ hy)
    omega
theorem pt_pln {q : Pt} (h : NameD q.nm) : q.d.pln = true ∧ q.d.dep ≤ 1 := by
  constructor
  · show ((D.str q.nm).pln && true) = true
    rw [name_pln h]; rfl
  · exact Nat.le_refl _
/-- a list of data that is drawn in another order -/
structure PlL (xs : List D) : Prop where
  p : ∀ x ∈ xs, x.pln = true
  d : ∀ x ∈ xs, x.dep ≤ 60
theorem PlL.pln {xs : List D} (h : PlL xs) : (D.lst xs).pln = true := plns_all h.p
theorem PlL.dep {xs : List D} (h : PlL xs) : (D.lst xs).dep ≤ 64 := by
  show deps xs + 1 ≤ 64
  have := deps_all h.d
  omega
theorem PlL.of {xs ys : List D} (h : PlL xs) (s : ∀ y ∈ ys, y ∈ xs) : PlL ys := ⟨fun y hy => h.p y (s y hy), fun y hy => h.d y (s y hy)⟩
end KD

/-! What is drawn in another order; ties. -/
namespace KD
open PySem PySem.Spec PyProof.Rows L2 KP
section
variable {b : Int} {Q : D → Int → Prop} {E : XC → Int → Prop}
end
end KD

/-! Painters of one of several kinds. -/
namespace KD
open PySem PySem.Spec PyProof.Rows L2 KP
section
variable {b : Int} {Q : D → Int → Prop} {E : XC → Int → Prop}
end
end KD

/-! Fences without some painters. -/
namespace KD
open PySem PySem.Spec PyProof.Rows L2 KP
noncomputable def eqD (x y : D) : Bool := @decide (x = y) (Classical.propDecidable _)
theorem eqD_t {x y : D} (h : x = y) : eqD x y = true := by unfold eqD; exact @decide_eq_true _ (Classical.propDecidable _) h
theorem eqD_f {x y : D} (h : x ≠ y) : eqD x y = false := by unfold eqD; exact @decide_eq_false _ (Classical.propDecidable _) h
/-- a painter's row, by its name -/
def rwN (qs : List Pt) (S : List (List Int)) (z : Str) : D := match (List.range qs.length).find? (fun i => decide (nmF qs i = z)) with
  | some i => rowD qs S i
  | none => .non
/-- the names whose rows are others -/
noncomputable def chg (qs : List Pt) (S : List (List Int)) (rs : List Pt) (T : List (List Int)) : List Str := (rs.filter fun q => !eqD (rwN qs S q.nm) (rwN rs T q.nm)).map Pt.nm
section
variable {b : Int} {Q : D → Int → Prop} {E : XC → Int → Prop} {qs : List Pt}
end
end KD

/-! The texts that repr gives are texts. -/
namespace KD
open PySem PySem.Spec PyProof.Rows L2 KP
/-- what repr and isinstance take -/
structure Any (x : D) : Prop where
  tn : ∃ t, x.tn = some t
  sh : ShA x
  ok : PyData.strOk (shA x) = true
end KD

/-! Lines are written, and read again. -/
namespace KD
open PySem PySem.Spec PyProof.Rows L2 KP TL
theorem sx {a c : Str} (h : a.cps.toList = c.cps.toList) : a = c := by
  cases a; cases c
  congr 1
  exact Array.ext' h
theorem len_tlS (z : Str) : z.length = z.cps.toList.length := by simp [Str.length]
theorem cut_1 {z : Str} {c : Nat} {r : List Nat} (h : z.cps.toList = c :: r) : cutS z none (some 1) = ⟨#[c]⟩ := by
  refine sx ?_
  have l : z.length = r.length + 1 := by rw [len_tlS, h]; rfl
  unfold cutS
  rw [HT.sIx_none, show (some (1 : Int)) = some ((1 : Nat) : Int) from rfl, HT.sIx_nat, h, l, List.drop_zero, Nat.min_eq_left (by omega)]
  rfl
theorem cut_r {z : Str} {c : Nat} {r : List Nat} (h : z.cps.toList = c :: r) : (cutS z (some 1) none).cps.toList = r := by
  have l : z.length = r.length + 1 := by rw [len_tlS, h]; rfl
  unfold cutS
  rw [HT.sIx_none, show (some (1 : Int)) = some ((1 : Nat) : Int) from rfl, HT.sIx_nat, h, l, Nat.min_eq_left (by omega)]
  show ((r.take (r.length + 1 - 1)).toArray).toList = r
  rw [Nat.add_sub_cancel, List.take_length]
theorem sl_str {z : Str} {lo hi : Option Int} {Q : D → Prop} (h : z.length ≤ 100000) (k : Q (.str (cutS z lo hi))) : oSl (.str z) lo hi Q := ⟨h, k⟩
theorem d10_mem {c : Nat} (h : 48 ≤ c ∧ c ≤ 57) : c ∈ ("0123456789" : Str).cps.toList := by
  have key : ∀ d, d < 10 → (48 + d) ∈ ("0123456789" : Str).cps.toList := by decide +kernel
  have := key (c - 48) (by omega)
  rwa [show 48 + (c - 48) = c by omega] at this
section
variable {b : Int} {Q : D → Int → Prop} {E : XC → Int → Prop} {qs : List Pt}
/-- the figures of a number are figures -/
theorem all_figs {f : Str} {n : Nat} (hf : f.cps.toList = numL n) (hl : f.length ≤ 1000) {x0 x1 : Option KD.B} {Q : D → En → Prop} {E : EK} {b : Int} (k : Q (.bl true) ⟨[x0, x1, some (.d (.str f)), none], b⟩) :
    (eB oAll (aCons (eF (fLc (iStrD (eVar 2)) (gN 3) tYesD (eOp (oIn false) (eVar 3) (eK (.str "0123456789"))) [3])) aNil)) ⟨[x0, x1, some (.d (.str f)), none], b⟩ Q E := by
  have all1 : ∀ m : Nat, allB (List.replicate m (.bl true)) = some (List.replicate m true) := fun m => by
    induction m with
    | zero => rfl
    | succ m ih => rw [List.replicate_succ, allB, ih]; rfl
  dsimp only [eB, aD, aCons, aNil, eF]
  refine fLc_map (f.cps.toList) (fun c => .str ⟨#[c]⟩) (fun _ => .bl true) (fun R h => h) (by rw [← len_tlS]; omega) (fun c hc Q' h => ?_) ?_
  · rw [hf] at hc
    have hd := numL_digits n c hc
    dsimp only [eOp, eK]
    refine eVar_at (x := .str ⟨#[c]⟩) (by rfl) ?_
    show Q' (.bl (decide (c ∈ ("0123456789" : Str).cps.toList))) _
    rw [decide_eq_true (d10_mem hd)]
    exact h
  · have e : (f.cps.toList.map fun _ => D.bl true) = List.replicate f.cps.toList.length (.bl true) := by rw [List.map_const']
    rw [e]
    show (match allB _ with | some bs => Q (.bl (bs.all id)) _ | none => False)
    rw [all1]
    have t : (List.replicate f.cps.toList.length true).all id = true := by rw [List.all_eq_true]; intro x hx; rw [(List.mem_replicate.mp hx).2]; rfl
    dsimp only
    rw [t]
    exact k
theorem q_integer_in {i : Int} (h : i.natAbs < 10 ^ 80) (k : Q (.int i) b) : W_integer_in [.d (.str (nu i)), .d (.int 80)] b Q E := by
  unfold W_integer_in
  refine ⟨rfl, ?_⟩
  unfold w_integer_in sSeq
  have l80 := numL_len (n := i.natAbs) (k := 80) (by decide) h
  have lz := nu_len (i := i) (k := 80) (by decide) h
  have ne := numL_ne i.natAbs
  have tl := nu_tl i
  -- the word without its sign
  have num : ∀ f : Str, f.cps.toList = figs i → (i < 0 → ∀ c, (figs i).head? = some c → c ≠ 48) → (sSeq (sCut (sIf (tOrD (tNotD (tOf (eChain oLe oLe (eK (.int 1)) (eLenV 2) (eVar 1)))) (tNotD (tOf (eB oAll (aCons (eF (fLc (iStrD (eVar 2)) (gN 3) tYesD (eOp (oIn false) (eVar 3) (eK (.str "0123456789"))) [3])) aNil))))) (sRet (eK .non)) sNil))
    (sSeq (sCut (sIf (tAndD (tOf (eOp oEq (eIxN 2 (eK (.int 0))) (eK (.str "0")))) (tOf (eOp oNe (eVar 0) (eK (.str "0"))))) (sRet (eK .non)) sNil))
    (sRet (eB oIntS (aCons (eVar 0) aNil))))) ⟨fun en => Q .non en.b, fun x en => Q x en.b, fun _ => False, fun _ => False, fun x en => E x en.b, fun _ _ => False⟩ ⟨[some (.d (.str (nu i))), some (.d (.int 80)), some (.d (.str f)), none], b⟩ := fun f hf hz => by
    have lf : f.length = (figs i).length := by rw [len_tlS, hf]
    have lf1 : 1 ≤ f.length := by
      rw [lf]; unfold figs
      cases e : numL i.natAbs with
      | nil => exact absurd e ne
      | cons _ _ => exact Nat.succ_le_succ (Nat.zero_le _)
    have lf8 : f.length ≤ 80 := by rw [lf]; exact l80
    unfold sSeq
    refine ⟨fun en => en = ⟨[some (.d (.str (nu i))), some (.d (.int 80)), some (.d (.str f)), none], b⟩, ?_, ?_⟩
    · refine sF (fun Q' h => tOR (fun Q2 h2 => ?_) ?_) (show _ = _ from rfl)
      · dsimp only [tNotD, tOf, eChain, eK]
        have lenf : ∀ (Q' : D → En → Prop) (E' : EK), Q' (.int (f.length : Int)) ⟨[some (.d (.str (nu i))), some (.d (.int 80)), some (.d (.str f)), none], b⟩ → eLenV 2 ⟨[some (.d (.str (nu i))), some (.d (.int 80)), some (.d (.str f)), none], b⟩ Q' E' := fun Q' E' h => ⟨by omega, h⟩
        refine lenf _ _ ?_
        show (match D.bl (decide ((1 : Int) ≤ (f.length : Int))) with | .bl true => _ | .bl false => _ | _ => False)
        rw [decide_eq_true (by omega)]
        refine eVar_at (x := .int 80) (by rfl) ?_
        show Q2 (!decide ((f.length : Int) ≤ 80)) _
        rw [decide_eq_true (by omega)]
        exact h2
      · dsimp only [tNotD, tOf]
        exact all_figs hf (by omega) h
    rintro en rfl
    refine ⟨fun en => en = ⟨[some (.d (.str (nu i))), some (.d (.int 80)), some (.d (.str f)), none], b⟩, ?_, ?_⟩
    · obtain ⟨c, r, ecr⟩ : ∃ c r, figs i = c :: r := by
        cases e : figs i with
        | nil => exact absurd e ne
        | cons c r => exact ⟨c, r, rfl⟩
      have t0 : ∀ (Q' : Bool → En → Prop) (E' : EK), Q' (decide (c = 48)) ⟨[some (.d (.str (nu i))), some (.d (.int 80)), some (.d (.str f)), none], b⟩ → tOf (eOp oEq (eIxN 2 (eK (.int 0))) (eK (.str "0"))) ⟨[some (.d (.str (nu i))), some (.d (.int 80)), some (.d (.str f)), none], b⟩ Q' E' := fun Q' E' h => by
        dsimp only [tOf, eOp, eK]
        refine ⟨rfl, ?_⟩
        dsimp only [eIxV, List.getElem?_cons_succ, List.getElem?_cons_zero]
        have a0 : L2.atI f.cps.toList 0 = some c := by
          rw [hf, ecr]
          exact L2.atI_nat (j := 0) rfl
        show f.length ≤ 100000 ∧ (match L2.atI f.cps.toList 0 with | some c => _ | none => False)
        rw [a0]
        refine ⟨by omega, ?_⟩
        show Q' (decide ((⟨#[c]⟩ : Str) = "0")) _
        have e : decide ((⟨#[c]⟩ : Str) = "0") = decide (c = 48) := by
          refine decide_eq_decide.mpr ⟨fun z => ?_, fun z => by rw [z]; rfl⟩
          have := congrArg (fun s : Str => s.cps.toList) z
          have : [c] = [48] := this
          injection this
        rw [e]; exact h
      by_cases hc : c = 48
      · have i0 : i.natAbs = 0 := by
          by_cases z : i.natAbs = 0
          · exact z
          · exact absurd hc (numL_head z c (by show (figs i).head? = _; rw [ecr]; rfl))
        have ei : i = 0 := by omega
        refine sF (fun Q' h => tAT (fun Q2 h2 => t0 _ _ (by rw [decide_eq_true hc]; exact h2)) ?_) (show _ = _ from rfl)
        dsimp only [tOf, eOp, eK]
        refine eVar_at (x := .str (nu i)) (by rfl) ?_
        show Q' (!decide (nu i = "0")) _
        rw [ei, decide_eq_true (show nu 0 = "0" by decide +kernel)]
        rw [ei] at h
        exact h
      · exact sF (fun Q' h => tAF (fun Q2 h2 => t0 _ _ (by rw [decide_eq_false hc]; exact h2)) h) (show _ = _ from rfl)
    rintro en rfl
    dsimp only [sRet, eB, aD, aCons, aNil]
    refine eVar_at (x := .str (nu i)) (by rfl) ?_
    show (match PySem.intText? (nu i) with | some n => (nu i).length ≤ 640 ∧ Q (.int n) b | none => False)
    rw [nu_int (k := 80) (by decide) (by decide) h]
    exact ⟨by omega, k⟩
  dsimp only [sSet]
  obtain ⟨c, r, ecr⟩ : ∃ c r, (nu i).cps.toList = c :: r := by
    cases e : (nu i).cps.toList with
    | nil =>
      rw [tl] at e
      split at e
      · cases e
      · exact absurd e ne
    | cons c r => exact ⟨c, r, rfl⟩
  refine ⟨fun x en => ∃ f : Str, x = .str f ∧ f.cps.toList = figs i ∧ (i < 0 → ∀ c, (figs i).head? = some c → c ≠ 48) ∧ en = ⟨[some (.d (.str (nu i))), some (.d (.int 80)), none, none], b⟩, ?_, ?_⟩
  · have t0 : ∀ (Q' : Bool → En → Prop) (E' : EK), Q' (decide (i < 0)) ⟨[some (.d (.str (nu i))), some (.d (.int 80)), none, none], b⟩ → tOf (eOp oEq (eSlV 0 oNo (oSo (eK (.int 1)))) (eK (.str "-"))) ⟨[some (.d (.str (nu i))), some (.d (.int 80)), none, none], b⟩ Q' E' := fun Q' E' h => by
      dsimp only [tOf, eOp, eK]
      refine ⟨rfl, ?_⟩
      dsimp only [oNo, oSo, eK, List.getElem?_cons_succ, List.getElem?_cons_zero]
      refine sl_str (z := nu i) (by omega) ?_
      rw [cut_1 ecr]
      show Q' (decide ((⟨#[c]⟩ : Str) = "-")) _
      have e : decide ((⟨#[c]⟩ : Str) = "-") = decide (i < 0) := by
        refine decide_eq_decide.mpr ⟨fun z => ?_, fun z => ?_⟩
        · have := congrArg (fun s : Str => s.cps.toList) z
          have : [c] = [45] := this
          injection this with e1
          by_cases hn : i < 0
          · exact hn
          · rw [if_neg hn, ecr] at tl
            have := numL_digits i.natAbs c (by show c ∈ figs i; rw [← tl]; exact List.mem_cons_self ..)
            omega
        · rw [if_pos z, ecr] at tl
          injection tl with e1
          rw [e1]; rfl
      rw [e]; exact h
    by_cases hn : i < 0
    · refine eT (fun Q' h => t0 _ _ (by rw [decide_eq_true hn]; exact h)) ?_
      refine ⟨rfl, ?_⟩
      dsimp only [oNo, oSo, eK, List.getElem?_cons_succ, List.getElem?_cons_zero]
      refine sl_str (z := nu i) (by omega) ?_
      refine ⟨_, rfl, ?_, fun _ => numL_head (by omega), rfl⟩
      rw [cut_r ecr]
      rw [if_pos hn, ecr] at tl
      injection tl
    · refine eF' (fun Q' h => t0 _ _ (by rw [decide_eq_false hn]; exact h)) ?_
      refine eVar_at (x := .str (nu i)) (by rfl) ?_
      refine ⟨_, rfl, ?_, fun z => absurd z hn, rfl⟩
      rw [tl, if_neg hn]
  rintro x en ⟨f, rfl, hf, hz, rfl⟩
  dsimp only [En.set, List.set]
  exact num f hf hz
end
end KD

/-! Painters and fences, written and read. -/
namespace KD
open PySem PySem.Spec PyProof.Rows L2 KP TL
theorem sF2 {c : WT} {a d : WS} {N : DN} {en en1 : En} (hw : ∀ Q : Bool → En → Prop, Q false en1 → c en Q N.ex) (k : d N en1) : sIf c a d N en := hw _ (by rw [if_neg (fun z => nomatch z)]; exact k)
theorem log_ok {i : Int} (h : i.natAbs < 10 ^ 100) : i.natAbs.log2 < 1920 := by
  by_cases z : i.natAbs = 0
  · rw [z]; decide
  · rw [Nat.log2_lt z]
    have : (10 : Nat) ^ 100 ≤ 2 ^ 1920 := by decide +kernel
    omega
section
variable {b : Int} {Q : D → Int → Prop} {E : XC → Int → Prop} {qs : List Pt}
theorem q_painter_line {q : Pt} (h : q.Ok) (k : Q (.str (ln q)) b) : W_painter_line [.d (.str q.nm), .d (.int q.dy), .d (.int q.po), .d (.int q.sr)] b Q E := by
  unfold W_painter_line
  refine ⟨rfl, ?_⟩
  unfold w_painter_line
  have l := ln_len h
  have a1 := h.d0
  have a2 := h.d1
  have a3 := h.p0
  have a4 := h.p1
  have a5 := h.s0
  have a6 := h.s1
  have ln1 : (" " : Str).length = 1 := by decide +kernel
  have n8 := h.nm.2.1
  have n1 := nu_len (i := q.dy) (k := 31) (by decide) (by omega)
  have n2 := nu_len (i := q.po) (k := 31) (by decide) (by omega)
  have n3 := nu_len (i := q.sr) (k := 31) (by decide) (by omega)
  dsimp only [sRet, eJs, jsGo, eFmt, eK]
  refine eVar_at (x := .str q.nm) (by rfl) ?_
  refine ⟨by omega, ?_⟩
  dsimp only
  rw [Str.empty_append]
  refine ⟨by omega, ?_⟩
  refine ⟨by rw [Str.length_append]; omega, ?_⟩
  refine eVar_at (x := .int q.dy) (by rfl) ?_
  refine ⟨log_ok (by omega), ?_⟩
  dsimp only
  refine ⟨by rw [Str.length_append, Str.length_append]; show _ + (nu q.dy).length ≤ _; omega, ?_⟩
  refine ⟨by rw [Str.length_append, Str.length_append, Str.length_append]; show _ + (nu q.dy).length + _ ≤ _; omega, ?_⟩
  refine eVar_at (x := .int q.po) (by rfl) ?_
  refine ⟨log_ok (by omega), ?_⟩
  dsimp only
  refine ⟨by rw [Str.length_append, Str.length_append, Str.length_append, Str.length_append]; show _ + (nu q.dy).length + _ + (nu q.po).length ≤ _; omega, ?_⟩
  refine ⟨by rw [Str.length_append, Str.length_append, Str.length_append, Str.length_append, Str.length_append]; show _ + (nu q.dy).length + _ + (nu q.po).length + _ ≤ _; omega, ?_⟩
  refine eVar_at (x := .int q.sr) (by rfl) ?_
  refine ⟨log_ok (by omega), ?_⟩
  dsimp only
  refine ⟨by rw [Str.length_append, Str.length_append, Str.length_append, Str.length_append, Str.length_append, Str.length_append]; show _ + (nu q.dy).length + _ + (nu q.po).length + _ + (nu q.sr).length ≤ _; omega, ?_⟩
  exact k
theorem q_Painter_text {q : Pt} (h : q.Ok) (k : Q (.str (ln q)) b) : W_Painter_text [.d q.o] b Q E := by
  unfold W_Painter_text
  refine ⟨rfl, ?_⟩
  unfold w_Painter_text
  dsimp only [sRet, eCall, aStar, aNil]
  refine ⟨rfl, ?_⟩
  show W_painter_line ([D.str q.nm, .int q.dy, .int q.po, .int q.sr].map B.d ++ []) b _ _
  exact q_painter_line h k
theorem q_painter_parts {q : Pt} (h : q.Ok) (k : Q q.d b) : W_painter_parts [.d (.str (ln q))] b Q E := by
  unfold W_painter_parts
  refine ⟨rfl, ?_⟩
  unfold w_painter_parts sSeq
  have l := ln_len h
  dsimp only [sAsg, eSplit, eK]
  refine eVar_at (x := .str (ln q)) (by rfl) ?_
  refine ⟨trivial, ?_⟩
  refine ⟨by decide +kernel, by omega, ?_⟩
  rw [ln_split h.nm]
  dsimp only [ws4, List.map_cons, List.map_nil, gS, gsCons, gsNil, gN, En.set, List.set]
  refine ⟨(show (1 : Nat) ≤ 4 by decide), ?_⟩
  show (sSeq (sSet 3 (eF (fLc (iLst (eVar 2)) (gN 4) tYesD (eCallD W_integer_in [.int 80] (aCons (eVar 4) aNil)) [4]))) _) _ ⟨[some (.d (.str (ln q))), some (.d (.str q.nm)), some (.d (.lst [.str (nu q.dy), .str (nu q.po), .str (nu q.sr)])), none, none], b⟩
  unfold sSeq
  dsimp only [sSet, eF]
  have bd : q.dy.natAbs < 10 ^ 80 ∧ q.po.natAbs < 10 ^ 80 ∧ q.sr.natAbs < 10 ^ 80 := by
    have a1 := h.d0
    have a2 := h.d1
    have a3 := h.p0
    have a4 := h.p1
    have a5 := h.s0
    have a6 := h.s1
    omega
  refine fLc_map [q.dy, q.po, q.sr] (fun i => .str (nu i)) (fun i => .int i) (fun R h => h) (show (3 : Nat) ≤ 100000 by decide) (fun i hi Q' h' => ?_) ?_
  · dsimp only [eCallD, aCons, aNil]
    refine eVar_at (x := .str (nu i)) (by rfl) ?_
    refine q_integer_in ?_ h'
    simp only [List.mem_cons, List.not_mem_nil, or_false] at hi
    rcases hi with rfl | rfl | rfl
    · exact bd.1
    · exact bd.2.1
    · exact bd.2.2
  dsimp only [En.set, List.set, List.map_cons, List.map_nil]
  refine ⟨fun en => en = ⟨[some (.d (.str (ln q))), some (.d (.str q.nm)), some (.d (.lst [.str (nu q.dy), .str (nu q.po), .str (nu q.sr)])), some (.d (.lst [.int q.dy, .int q.po, .int q.sr])), none], b⟩, ?_, ?_⟩
  · refine sF (fun Q' h' => tOR (fun Q2 h2 => ?_) (tOR (fun Q2 h2 => ?_) ?_)) (show _ = _ from rfl)
    · dsimp only [tNotD, tOf, eCall, aCons, aNil]
      refine eVar_at (x := .str q.nm) (by rfl) ?_
      exact q_is_name h.nm h2
    · dsimp only [tOf, eOp, eK]
      refine eLenV_at (xs := [.int q.dy, .int q.po, .int q.sr]) (by rfl) ?_
      exact h2
    · dsimp only [tOf, eOp, eK]
      refine eVar_at (x := .lst [.int q.dy, .int q.po, .int q.sr]) (by rfl) ?_
      exact ⟨rfl, rfl, h'⟩
  rintro en rfl
  dsimp only [sRet, eTup, aD, aCons, aStar, aNil]
  refine eVar_at (x := .str q.nm) (by rfl) ?_
  refine eVar_at (x := .lst [.int q.dy, .int q.po, .int q.sr]) (by rfl) ?_
  exact ⟨(show (4 : Nat) ≤ 100000 by decide), k⟩
theorem q_Painter_read {q : Pt} (h : q.Ok) (k : Q q.o b) : W_Painter_read [.d (.cls "Painter"), .d (.str (ln q))] b Q E := by
  unfold W_Painter_read
  refine ⟨rfl, ?_⟩
  unfold w_Painter_read sSeq
  dsimp only [sSet]
  refine ⟨fun x en => x = q.d ∧ en = ⟨[some (.d (.cls "Painter")), some (.d (.str (ln q))), none], b⟩, ?_, ?_⟩
  · refine eT (fun Q' h' => ?_) ?_
    · dsimp only [tOf, eB, aD, aCons, aNil, eK]
      refine eVar_at (x := .str (ln q)) (by rfl) ?_
      exact q_isi (t := "str") rfl kb_ss h'
    · dsimp only [eCall, aCons, aNil]
      refine eVar_at (x := .str (ln q)) (by rfl) ?_
      exact q_painter_parts h ⟨rfl, rfl⟩
  rintro x en ⟨rfl, rfl⟩
  dsimp only [En.set, List.set]
  refine sF (fun Q' h' => ?_) ?_
  · dsimp only [tOf, eOp, eK]
    refine eVar_at (x := q.d) (by rfl) ?_
    exact h'
  dsimp only [sNil, sTryN, sRet, eMakeV]
  refine eVar_at (x := .cls "Painter") (by rfl) ?_
  refine ⟨rfl, ?_⟩
  dsimp only [eMake, aStar, aNil]
  refine eVar_at (x := q.d) (by rfl) ?_
  show W_Painter_init ([D.str q.nm, .int q.dy, .int q.po, .int q.sr].map B.d ++ []) b _ _
  exact q_Painter_init h k
end
end KD

/-! Lines as a law writes them; equality of painters and fences. -/
namespace KD
open PySem PySem.Spec PyProof.Rows L2 KP TL
section
variable {b : Int} {Q : D → Int → Prop} {E : XC → Int → Prop} {qs rs : List Pt}
theorem q_line {q : Pt} (h : q.Ok) (k : Q (.str (ln q)) b) : W_line [.d q.d] b Q E := by
  unfold W_line
  refine ⟨rfl, ?_⟩
  unfold w_line
  have a1 := h.d0
  have a2 := h.d1
  have a3 := h.p0
  have a4 := h.p1
  have a5 := h.s0
  have a6 := h.s1
  have n8 := h.nm.2.1
  have n1 := nu_len (i := q.dy) (k := 31) (by decide) (by omega)
  have n2 := nu_len (i := q.po) (k := 31) (by decide) (by omega)
  have n3 := nu_len (i := q.sr) (k := 31) (by decide) (by omega)
  dsimp only [sRet, eJoin, eK, eF]
  refine ⟨trivial, ?_⟩
  refine fLc_map [(D.str q.nm, q.nm), (.int q.dy, nu q.dy), (.int q.po, nu q.po), (.int q.sr, nu q.sr)] (fun p => p.1) (fun p => .str p.2) (fun R h => h) (show (4 : Nat) ≤ 100000 by decide) (fun p hp Q' h => ?_) ?_
  · dsimp only [eB, aD, aCons, aNil]
    simp only [List.mem_cons, List.not_mem_nil, or_false] at hp
    rcases hp with rfl | rfl | rfl | rfl
    · exact h
    · exact ⟨log_ok (by omega), h⟩
    · exact ⟨log_ok (by omega), h⟩
    · exact ⟨log_ok (by omega), h⟩
  · have l1 : (" " : Str).length = 1 := by decide +kernel
    show (match allS [D.str q.nm, .str (nu q.dy), .str (nu q.po), .str (nu q.sr)] with | some ys => (ys.map (·.length)).sum + ys.length * (" " : Str).length ≤ 16777216 ∧ Q (.str (Txt.join " " ys)) b | none => False)
    show (ws4 q |>.map (·.length)).sum + (ws4 q).length * (" " : Str).length ≤ 16777216 ∧ Q (.str (Txt.join " " (ws4 q))) b
    rw [ln_join, l1]
    refine ⟨?_, k⟩
    simp only [ws4, List.map_cons, List.map_nil, List.sum_cons, List.sum_nil, List.length_cons, List.length_nil]
    omega
theorem sh_pt {q : Pt} (ok : q.Ok) : ShD 5000 1 q.d := by
  have h1 := ok.d0
  have h2 := ok.d1
  have h3 := ok.p0
  have h4 := ok.p1
  have h5 := ok.s0
  have h6 := ok.s1
  refine (sh_tup (n := 1000) (d := 0) (m := 4) (xs := [.str q.nm, .int q.dy, .int q.po, .int q.sr]) (fun x hx => ?_) (Nat.le_refl 4)).up (by decide) (by decide)
  simp only [List.mem_cons, List.not_mem_nil, or_false] at hx
  rcases hx with rfl | rfl | rfl | rfl
  · exact (sh_name ok.nm).up (by decide) (by decide)
  · exact sh_int (by unfold Big; omega) (by unfold Big; omega)
  · exact sh_int (by unfold Big; omega) (by unfold Big; omega)
  · exact sh_int (by unfold Big; omega) (by unfold Big; omega)
end
theorem isi_F {qs : List Pt} {Q : D → Prop} (k : Q (.bl true)) : oIsiC "Fence" [] [fnD qs, .cls "Fence"] Q := by
  unfold oIsiC
  exact ⟨rfl, .inl ⟨rfl, k⟩⟩
theorem isi_P0 {q : Pt} {Q : D → Prop} (k : Q (.bl true)) : oIsiC "Painter" [] [q.o, .cls "Painter"] Q := by
  unfold oIsiC
  exact ⟨rfl, .inl ⟨rfl, k⟩⟩
theorem fl_pt (q : Pt) : FlatO "Painter" q.o := ⟨_, _, rfl, fun z hz => by
  simp only [List.mem_cons, List.not_mem_nil, or_false] at hz
  rcases hz with rfl | rfl | rfl | rfl <;> exact trivial⟩
theorem eq_pt (q r : Pt) : q.d = r.d → q = r := fun h => by
  obtain ⟨a, b, c, d⟩ := q
  obtain ⟨e, f, g, i⟩ := r
  have h : D.tup [.str a, .int b, .int c, .int d] = .tup [.str e, .int f, .int g, .int i] := h
  injection h with h
  injection h with h1 h
  injection h with h2 h
  injection h with h3 h
  injection h with h4 h
  injection h1 with h1; injection h2 with h2; injection h3 with h3; injection h4 with h4
  rw [h1, h2, h3, h4]
theorem eq_po (q r : Pt) : q.o = r.o → q = r := fun h => by
  have h : D.obj "Painter" [("parts", q.d)] = .obj "Painter" [("parts", r.d)] := h
  injection h with _ h
  injection h with h _
  injection h with _ h
  exact eq_pt q r h
theorem q_peqG {q r : Pt} (hq : NameD q.nm) (hr : NameD r.nm) : EqD W_Painter_eq q.o r.o := fun b Q E kt kf => by
  unfold W_Painter_eq
  refine ⟨rfl, ?_⟩
  unfold w_Painter_eq
  refine isi_P0 ?_
  refine ⟨rfl, ⟨rfl, ?_⟩⟩
  exact eq_pln (pt_pln hq).1 (pt_pln hr).1 (by have := (pt_pln hq).2; omega) (by have := (pt_pln hr).2; omega) (fun z => kt (by rw [eq_pt q r z])) fun z => kf fun e => z (by rw [eq_po q r e])
theorem seqI {a c : WS} {N : DN} {en : En} (h : a { N with nx := fun en1 => c N en1 } en) : sSeq a c N en := h
theorem setI {i : Nat} {w : WE} {N : DN} {en : En} (h : w en (fun x en1 => N.nx (en1.set i (some (.d x)))) N.ex) : sSet i w N en := h
theorem map_injD {f : Pt → D} (hf : ∀ q r, f q = f r → q = r) : ∀ {qs rs : List Pt}, qs.map f = rs.map f → qs = rs
  | [], [], _ => rfl
  | [], _ :: _, h => by cases h
  | _ :: _, [], h => by cases h
  | q :: qs, r :: rs, h => by
    rw [List.map_cons, List.map_cons] at h
    injection h with h1 h2
    rw [hf q r h1, map_injD hf h2]
theorem fn_injD {qs rs : List Pt} (h : fnD qs = fnD rs) : qs = rs := by
  have h : D.obj "Fence" (fnF qs) = .obj "Fence" (fnF rs) := h
  injection h with _ h
  unfold fnF at h
  injection h with h _
  injection h with _ h
  injection h with h
  exact map_injD eq_po h
theorem q_feqX {qs rs : List Pt} (nms : ∀ q ∈ qs, NameD q.nm) (nms' : ∀ q ∈ rs, NameD q.nm) : EqD W_Fence_eq (fnD qs) (fnD rs) := fun b Q E kt kf => by
  unfold W_Fence_eq
  refine ⟨rfl, ?_⟩
  unfold w_Fence_eq
  refine isi_F ?_
  refine ⟨rfl, ⟨rfl, ?_⟩⟩
  refine ⟨fun i x y hx hy => ?_, fun e => kt (by rw [map_injD eq_po e]), fun e => kf fun z => e (by rw [fn_injD z])⟩
  rw [List.getElem?_map] at hx hy
  cases qm : qs[i]? with
  | none => rw [qm] at hx; cases hx
  | some q =>
  cases rm : rs[i]? with
  | none => rw [rm] at hy; cases hy
  | some r =>
    rw [qm] at hx; rw [rm] at hy; cases hx; cases hy
    exact ⟨fl_pt q, fl_pt r, q_peqG (nms q (List.mem_of_getElem? qm)) (nms' r (List.mem_of_getElem? rm))⟩
end KD

namespace KD
open PySem PySem.Spec PyProof.Rows L2 KP TL
def mvP (q : Pt) (j : Int) : Pt := ⟨q.nm, q.dy, q.po + j, q.sr⟩
def ngP4 (q : Pt) : Pt := ⟨q.nm, q.dy, -q.po, -q.sr⟩
theorem ng_ok {q : Pt} (h : q.Ok) : (ngP4 q).Ok := ⟨h.nm, h.d0, h.d1, by have := h.p1; show _ ≤ -q.po; omega, by have := h.p0; show -q.po ≤ _; omega, by have := h.s1; show _ ≤ -q.sr; omega, by have := h.s0; show -q.sr ≤ _; omega, by have := h.sn; show -q.sr ≠ 0; omega⟩
section
variable {b : Int} {Q : D → Int → Prop} {E : XC → Int → Prop} {q r : Pt}
theorem init_post {Qn : List (Str × D) → Int → Prop} (hn : NameD q.nm) (d0 : 0 ≤ q.dy) (d1 : q.dy ≤ 10 ^ 30) (h : ¬ (-(10 ^ 30) ≤ q.po ∧ q.po ≤ 10 ^ 30)) (ke : E ⟨"InvalidPainter", [("reason", .str "post")]⟩ b) : W_Painter_init [.d (.str q.nm), .d (.int q.dy), .d (.int q.po), .d (.int q.sr)] b Qn E := by
  unfold W_Painter_init
  refine ⟨rfl, ?_⟩
  refine q_is_name hn ?_
  refine iteF ?_
  refine ⟨rfl, rfl, ?_⟩
  refine q_between d0 d1 ?_
  refine iteF ?_
  refine ⟨rfl, rfl, ⟨rfl, rfl, ?_⟩⟩
  refine q_is_between ?_
  have e : (decide (-(1000000000000000000000000000000 : Int) ≤ q.po) && decide (q.po ≤ 1000000000000000000000000000000)) = false := by
    by_cases h1 : (-1000000000000000000000000000000 : Int) ≤ q.po
    · rw [decide_eq_false (show ¬ q.po ≤ 1000000000000000000000000000000 from fun z => h ⟨by omega, by omega⟩), Bool.and_false]
    · rw [decide_eq_false h1]; rfl
  rw [e]
  exact iteT ke
theorem q_Padd2 {j : Int} (ok : q.Ok) (k : -(10 ^ 30) ≤ q.po + j ∧ q.po + j ≤ 10 ^ 30 → Q (mvP q j).o b) (ke : ¬ (-(10 ^ 30) ≤ q.po + j ∧ q.po + j ≤ 10 ^ 30) → E ⟨"InvalidPainter", [("reason", .str "post")]⟩ b) : W_Painter_add [.d q.o, .d (.int j)] b Q E := by
  unfold W_Painter_add
  refine ⟨rfl, ?_⟩
  unfold w_Painter_add
  dsimp only [sRet, eMake, aCons, aNil, eProp, eOp]
  refine eVar_at (x := q.o) (by rfl) ?_
  refine ⟨rfl, q_Painter_name ?_⟩
  refine eVar_at (x := q.o) (by rfl) ?_
  refine ⟨rfl, q_Painter_day ?_⟩
  refine eVar_at (x := q.o) (by rfl) ?_
  refine ⟨rfl, q_Painter_post ?_⟩
  refine eVar_at (x := .int j) (by rfl) ?_
  dsimp only [oAdd]
  refine eVar_at (x := q.o) (by rfl) ?_
  refine ⟨rfl, q_Painter_stride ?_⟩
  by_cases h : -(10 ^ 30) ≤ q.po + j ∧ q.po + j ≤ 10 ^ 30
  · exact q_Painter_init (q := mvP q j) ⟨ok.nm, ok.d0, ok.d1, h.1, h.2, ok.s0, ok.s1, ok.sn⟩ (k h)
  · exact init_post (q := mvP q j) ok.nm ok.d0 ok.d1 h (ke h)
theorem q_Pneg (ok : q.Ok) (k : Q (ngP4 q).o b) : W_Painter_neg [.d q.o] b Q E := by
  unfold W_Painter_neg
  refine ⟨rfl, ?_⟩
  unfold w_Painter_neg
  dsimp only [sRet, eMake, aCons, aNil, eProp, eUn]
  refine eVar_at (x := q.o) (by rfl) ?_
  refine ⟨rfl, q_Painter_name ?_⟩
  refine eVar_at (x := q.o) (by rfl) ?_
  refine ⟨rfl, q_Painter_day ?_⟩
  refine eVar_at (x := q.o) (by rfl) ?_
  refine ⟨rfl, q_Painter_post ?_⟩
  dsimp only [oNeg]
  refine eVar_at (x := q.o) (by rfl) ?_
  refine ⟨rfl, q_Painter_stride ?_⟩
  exact q_Painter_init (q := ngP4 q) (ng_ok ok) k
theorem q_parts (k : Q q.d b) : W_parts [.d q.o] b Q E := by
  unfold W_parts
  refine ⟨rfl, ?_⟩
  unfold w_parts
  dsimp only [sRet, eTup, aD, aCons, aNil, eProp]
  refine eVar_at (x := q.o) (by rfl) ?_
  refine ⟨rfl, q_Painter_name ?_⟩
  refine eVar_at (x := q.o) (by rfl) ?_
  refine ⟨rfl, q_Painter_day ?_⟩
  refine eVar_at (x := q.o) (by rfl) ?_
  refine ⟨rfl, q_Painter_post ?_⟩
  refine eVar_at (x := q.o) (by rfl) ?_
  refine ⟨rfl, q_Painter_stride ?_⟩
  exact ⟨(show (4 : Nat) ≤ 100000 by decide), k⟩
def adD (q : Pt) (j : Int) : D := if -(10 ^ 30) ≤ q.po + j ∧ q.po + j ≤ 10 ^ 30 then (mvP q j).d else .str "post"
theorem q_added {j : Int} (ok : q.Ok) (k : Q (adD q j) b) : W_added [.d q.o, .d (.int j)] b Q E := by
  unfold W_added
  refine ⟨rfl, ?_⟩
  unfold w_added
  dsimp only [sTry, sRet, eCall, aCons, aNil, eOwn2]
  refine eVar_at (x := q.o) (by rfl) ?_
  refine eVar_at (x := .int j) (by rfl) ?_
  refine ⟨rfl, rfl, ?_⟩
  unfold adD at k
  refine q_Padd2 ok (fun h => ?_) fun h => ?_
  · rw [if_pos h] at k
    exact q_parts k
  · rw [if_neg h] at k
    refine ⟨by show ("InvalidPainter" : Str) ∈ _; decide, ?_⟩
    show (if ("InvalidPainter" : Str) = "InvalidPainter" then _ else _)
    rw [if_pos rfl]
    intro ea cls d
    refine ⟨⟨rfl, rfl, rfl, rfl⟩, ?_⟩
    exact k
theorem sh_adD {j : Int} (ok : q.Ok) : ShD 5000 1 (adD q j) := by
  unfold adD
  split
  · rename_i h
    exact sh_pt (q := mvP q j) ⟨ok.nm, ok.d0, ok.d1, h.1, h.2, ok.s0, ok.s1, ok.sn⟩
  · exact (sh_str (z := "post") (by decide +kernel)).up (by decide +kernel) (by decide)
end
theorem posts_w {n : Nat} {N : DN} {q : Pt} {x2 x9 x10 x11 x12 x13 x14 x15 : Option KD.B} {b : Int} (ok : q.Ok) (hb : b < 10 ^ 8) (k : ∀ x9 x10 b', b' ≤ b + 300 → N.nx ⟨[some (.scr n), some .pen, x2, some (.d q.d), some (.d (.str q.nm)), some (.d (.int q.dy)), some (.d (.int q.po)), some (.d (.int q.sr)), some (.d q.o), x9, x10, x11, x12, x13, x14, x15], b'⟩) :
    (sFor (iLst (eLst (aCons (eK (.int 0)) (aCons (eCall W_around (aPen 1 (aCons (eK (.int 9)) aNil))) (aCons (eCall W_great (aPen 1 (aCons (eK (.int 30)) aNil))) (aCons (eOp oSub (eK (.int 0)) (eCall W_great (aPen 1 (aCons (eK (.int 31)) aNil)))) (aCons (eOp oSub (eK (.int 1000000000000000000000000000000)) (eVar 6)) aNil))))))) (gN 9) (sSeq (sSet 10 (eCut (eIf (tOf (eOp oLe (eB oAbs (aCons (eOp oAdd (eVar 6) (eVar 9)) aNil)) (eK (.int 1000000000000000000000000000000)))) (eTup (aCons (eVar 4) (aCons (eVar 5) (aCons (eOp oAdd (eVar 6) (eVar 9)) (aCons (eVar 7) aNil))))) (eK (.str "post"))))) (sIf (tOf (eOp oNe (eB oRepr (aCons (eCall W_added (aCons (eVar 8) (aCons (eVar 9) aNil))) aNil)) (eB oRepr (aCons (eVar 10) aNil)))) (sRet (eK (.bl false))) sNil))) N ⟨[some (.scr n), some .pen, x2, some (.d q.d), some (.d (.str q.nm)), some (.d (.int q.dy)), some (.d (.int q.po)), some (.d (.int q.sr)), some (.d q.o), x9, x10, x11, x12, x13, x14, x15], b⟩ := by
  have p0 := ok.p0
  have p1 := ok.p1
  dsimp only [sFor, iLst, eLst, aD, aCons, aNil, eK, eCall, aPen, eOp, List.getElem?_cons_succ, List.getElem?_cons_zero]
  refine q_around (by decide) (by decide) (by show b < _; omega) fun r1 b1 hb1 l1 u1 => ?_
  have hb1 : b1 ≤ b + 13 := hb1
  refine q_great (by decide) (by decide) (by show b1 < _; omega) fun r2 b2 hb2 l2 u2 => ?_
  have hb2 : b2 ≤ b1 + 100 := hb2
  refine q_great (by decide) (by decide) (by show b2 < _; omega) fun r3 b3 hb3 l3 u3 => ?_
  have hb3 : b3 ≤ b2 + 100 := hb3
  dsimp only [oSub]
  refine eVar_at (x := .int q.po) (by rfl) ?_
  refine ⟨(show (5 : Nat) ≤ 100000 by decide), ?_⟩
  refine forGo_ind [D.int 0, .int r1, .int r2, .int (0 - r3), .int (10 ^ 30 - q.po)] (fun i en => ∃ x9 x10, en = ⟨[some (.scr n), some .pen, x2, some (.d q.d), some (.d (.str q.nm)), some (.d (.int q.dy)), some (.d (.int q.po)), some (.d (.int q.sr)), some (.d q.o), x9, x10, x11, x12, x13, x14, x15], b3⟩) ⟨x9, x10, rfl⟩ ?hs ?hd
  case hs =>
    rintro i y en J hx ⟨x9, x10, he⟩ hJ
    subst he
    obtain ⟨j, rfl⟩ : ∃ j : Int, y = .int j := by
      have := List.mem_of_getElem? hx
      simp only [List.mem_cons, List.not_mem_nil, or_false] at this
      rcases this with rfl | rfl | rfl | rfl | rfl <;> exact ⟨_, rfl⟩
    dsimp only [gN, En.set, List.set]
    refine seqI (setI ?_)
    refine ⟨fun x en => x = adD q j ∧ en = ⟨[some (.scr n), some .pen, x2, some (.d q.d), some (.d (.str q.nm)), some (.d (.int q.dy)), some (.d (.int q.po)), some (.d (.int q.sr)), some (.d q.o), some (.d (.int j)), x10, x11, x12, x13, x14, x15], b3⟩, ?_, ?_⟩
    · have ab : (if q.po + j < 0 then -(q.po + j) else q.po + j) ≤ 10 ^ 30 ↔ -(10 ^ 30) ≤ q.po + j ∧ q.po + j ≤ 10 ^ 30 := by
        split <;> omega
      have tst : ∀ (v : Bool), decide ((if q.po + j < 0 then -(q.po + j) else q.po + j) ≤ 1000000000000000000000000000000) = v → ∀ (Q' : Bool → En → Prop) (E' : EK), Q' v ⟨[some (.scr n), some .pen, x2, some (.d q.d), some (.d (.str q.nm)), some (.d (.int q.dy)), some (.d (.int q.po)), some (.d (.int q.sr)), some (.d q.o), some (.d (.int j)), x10, x11, x12, x13, x14, x15], b3⟩ → tOf (eOp oLe (eB oAbs (aCons (eOp oAdd (eVar 6) (eVar 9)) aNil)) (eK (.int 1000000000000000000000000000000))) ⟨[some (.scr n), some .pen, x2, some (.d q.d), some (.d (.str q.nm)), some (.d (.int q.dy)), some (.d (.int q.po)), some (.d (.int q.sr)), some (.d q.o), some (.d (.int j)), x10, x11, x12, x13, x14, x15], b3⟩ Q' E' := fun v hv Q' E' h => by
        dsimp only [tOf, eOp, eB, aD, aCons, aNil, eK]
        refine eVar_at (x := .int q.po) (by rfl) ?_
        refine eVar_at (x := .int j) (by rfl) ?_
        dsimp only [oAdd, oAbs]
        show Q' (decide ((if q.po + j < 0 then -(q.po + j) else q.po + j) ≤ 1000000000000000000000000000000)) _
        rw [hv]; exact h
      by_cases h : -(10 ^ 30) ≤ q.po + j ∧ q.po + j ≤ 10 ^ 30
      · refine eT (fun Q' h' => tst true (decide_eq_true (ab.mpr h)) Q' _ h') ?_
        dsimp only [eTup, aD, aCons, aNil, eOp]
        refine eVar_at (x := .str q.nm) (by rfl) ?_
        refine eVar_at (x := .int q.dy) (by rfl) ?_
        refine eVar_at (x := .int q.po) (by rfl) ?_
        refine eVar_at (x := .int j) (by rfl) ?_
        dsimp only [oAdd]
        refine eVar_at (x := .int q.sr) (by rfl) ?_
        refine ⟨(show (4 : Nat) ≤ 100000 by decide), ?_, rfl⟩
        unfold adD
        rw [if_pos h]
        rfl
      · refine eF' (fun Q' h' => tst false (decide_eq_false (fun z => h (ab.mp z))) Q' _ h') ?_
        refine ⟨?_, rfl⟩
        unfold adD
        rw [if_neg h]
    rintro x en ⟨rfl, rfl⟩
    dsimp only [En.set, List.set]
    refine sF (fun Q' h => ?_) (hJ _ ⟨_, _, rfl⟩)
    dsimp only [tOf, eOp, eB, aD, aCons, aNil, eCall]
    refine eVar_at (x := q.o) (by rfl) ?_
    refine eVar_at (x := .int j) (by rfl) ?_
    refine q_added ok ?_
    refine q_rep (sh_adD ok) (by decide) (by decide) ?_
    refine eVar_at (x := adD q j) (by rfl) ?_
    refine q_rep (sh_adD ok) (by decide) (by decide) ?_
    exact ne_strS h
  case hd =>
    rintro en ⟨x9, x10, he⟩
    subst he
    exact k _ _ b3 (by omega)
def othL (q : Pt) : List Pt := [q, ⟨"zz", q.dy, q.po, q.sr⟩, ⟨q.nm, q.dy.fdiv 2, q.po, q.sr⟩, ⟨q.nm, q.dy, q.po.fdiv 2, q.sr⟩, ⟨q.nm, q.dy, q.po, 0 - q.sr⟩]
theorem oth_ok {q : Pt} (h : q.Ok) : ∀ r ∈ othL q, r.Ok := fun r hr => by
  have zz : NameD "zz" := by unfold NameD; decide +kernel
  have a1 := h.d0
  have a2 := h.d1
  have a3 := h.p0
  have a4 := h.p1
  have f1 : q.dy.fdiv 2 = q.dy / 2 := Int.fdiv_eq_ediv_of_nonneg _ (by decide)
  have f2 : q.po.fdiv 2 = q.po / 2 := Int.fdiv_eq_ediv_of_nonneg _ (by decide)
  simp only [othL, List.mem_cons, List.not_mem_nil, or_false] at hr
  rcases hr with rfl | rfl | rfl | rfl | rfl
  · exact h
  · exact ⟨zz, h.d0, h.d1, h.p0, h.p1, h.s0, h.s1, h.sn⟩
  · exact ⟨h.nm, by show 0 ≤ q.dy.fdiv 2; omega, by show q.dy.fdiv 2 ≤ _; omega, h.p0, h.p1, h.s0, h.s1, h.sn⟩
  · exact ⟨h.nm, h.d0, h.d1, by show _ ≤ q.po.fdiv 2; omega, by show q.po.fdiv 2 ≤ _; omega, h.s0, h.s1, h.sn⟩
  · exact ⟨h.nm, h.d0, h.d1, h.p0, h.p1, by have := h.s1; show _ ≤ 0 - q.sr; omega, by have := h.s0; show 0 - q.sr ≤ _; omega, by have := h.sn; show 0 - q.sr ≠ 0; omega⟩
theorem neg_w {n : Nat} {N : DN} {q : Pt} {x2 x9 x10 x11 x12 x13 x14 x15 : Option KD.B} {b : Int} (ok : q.Ok) (k : N.nx ⟨[some (.scr n), some .pen, x2, some (.d q.d), some (.d (.str q.nm)), some (.d (.int q.dy)), some (.d (.int q.po)), some (.d (.int q.sr)), some (.d q.o), x9, x10, x11, x12, x13, x14, x15], b⟩) :
    (sCut (sIf (tOrD (tOf (eOp oNe (eB oRepr (aCons (eCall W_parts (aCons (eOwn1 "Painter" W_Painter_neg (eVar 8)) aNil)) aNil)) (eB oRepr (aCons (eTup (aCons (eVar 4) (aCons (eVar 5) (aCons (eOp oSub (eK (.int 0)) (eVar 6)) (aCons (eOp oSub (eK (.int 0)) (eVar 7)) aNil))))) aNil)))) (tOf (eOp oNe (eCall W_parts (aCons (eVar 8) aNil)) (eVar 3)))) (sRet (eK (.bl false))) sNil)) N ⟨[some (.scr n), some .pen, x2, some (.d q.d), some (.d (.str q.nm)), some (.d (.int q.dy)), some (.d (.int q.po)), some (.d (.int q.sr)), some (.d q.o), x9, x10, x11, x12, x13, x14, x15], b⟩ := by
  refine ⟨fun en => en = ⟨[some (.scr n), some .pen, x2, some (.d q.d), some (.d (.str q.nm)), some (.d (.int q.dy)), some (.d (.int q.po)), some (.d (.int q.sr)), some (.d q.o), x9, x10, x11, x12, x13, x14, x15], b⟩, ?_, fun en e => by rw [e]; exact k⟩
  have ng := ng_ok ok
  refine sF (fun Q' h => tOR (fun Q2 h2 => ?_) ?_) (show _ = _ from rfl)
  · dsimp only [tOf, eOp, eB, aD, aCons, aNil, eCall, eOwn1]
    refine eVar_at (x := q.o) (by rfl) ?_
    refine ⟨rfl, q_Pneg ok (q_parts ?_)⟩
    refine q_rep (sh_pt ng) (by decide) (by decide) ?_
    dsimp only [eTup, aD, aCons, aNil, eK, eOp]
    refine eVar_at (x := .str q.nm) (by rfl) ?_
    refine eVar_at (x := .int q.dy) (by rfl) ?_
    refine eVar_at (x := .int q.po) (by rfl) ?_
    dsimp only [oSub]
    refine eVar_at (x := .int q.sr) (by rfl) ?_
    refine ⟨(show (4 : Nat) ≤ 100000 by decide), ?_⟩
    have e : D.tup [.str q.nm, .int q.dy, .int (0 - q.po), .int (0 - q.sr)] = (ngP4 q).d := by
      rw [Int.zero_sub, Int.zero_sub]; rfl
    rw [e]
    refine q_rep (sh_pt ng) (by decide) (by decide) ?_
    exact ne_strS h2
  · dsimp only [tOf, eOp, eCall, aCons, aNil]
    refine eVar_at (x := q.o) (by rfl) ?_
    refine q_parts ?_
    refine eVar_at (x := q.d) (by rfl) ?_
    have pp := pt_pln ok.nm
    exact ne_pln pp.1 pp.1 (by have := pp.2; omega) (by have := pp.2; omega) (fun _ => h) fun z => absurd rfl z
theorem some_w {n : Nat} {N : DN} {q : Pt} {x2 x9 x10 x11 x12 x13 x14 x15 : Option KD.B} {b : Int} (hb : b < 10 ^ 8) (ok : q.Ok) (k : ∀ (r : Pt) x11 b', b' ≤ b + 13 → r.Ok → N.nx ⟨[some (.scr n), some .pen, x2, some (.d q.d), some (.d (.str q.nm)), some (.d (.int q.dy)), some (.d (.int q.po)), some (.d (.int q.sr)), some (.d q.o), x9, x10, x11, some (.d r.d), some (.d r.o), x14, x15], b'⟩) :
    sSeq (sSet 11 (eLst (aCons (eVar 3) (aCons (eOp oAdd (eTup (aCons (eK (.str "zz")) aNil)) (eSlV 3 (oSo (eK (.int 1))) oNo)) (aCons (eTup (aCons (eVar 4) (aCons (eOp oDiv (eVar 5) (eK (.int 2))) (aCons (eVar 6) (aCons (eVar 7) aNil))))) (aCons (eTup (aCons (eVar 4) (aCons (eVar 5) (aCons (eOp oDiv (eVar 6) (eK (.int 2))) (aCons (eVar 7) aNil))))) aNil)))))) (sSeq (sSet 12 (eCall W_pick (aPen 1 (aCons (eOp oAdd (eVar 11) (eLst (aCons (eTup (aCons (eVar 4) (aCons (eVar 5) (aCons (eVar 6) (aCons (eOp oSub (eK (.int 0)) (eVar 7)) aNil))))) aNil))) aNil)))) (sSet 13 (eMake "Painter" W_Painter_init (aCons (eIxN 12 (eK (.int 0))) (aCons (eIxN 12 (eK (.int 1))) (aCons (eIxN 12 (eK (.int 2))) (aCons (eIxN 12 (eK (.int 3))) aNil))))))) N ⟨[some (.scr n), some .pen, x2, some (.d q.d), some (.d (.str q.nm)), some (.d (.int q.dy)), some (.d (.int q.po)), some (.d (.int q.sr)), some (.d q.o), x9, x10, x11, x12, x13, x14, x15], b⟩ := by
  have cb : ∀ i : Int, CBs i 2 := fun i => ⟨by decide, by unfold Big; decide, by unfold Big; decide⟩
  refine seqI (setI ?_)
  dsimp only [eLst, aD, aCons, aNil, eOp, eK]
  refine eVar_at (x := q.d) (by rfl) ?_
  dsimp only [eTup, aD, aCons, aNil, eK]
  refine ⟨(show (1 : Nat) ≤ 100000 by decide), ?_⟩
  refine ⟨rfl, ?_⟩
  dsimp only [oNo, oSo, eK, List.getElem?_cons_succ, List.getElem?_cons_zero]
  refine (show oSl (.tup [.str q.nm, .int q.dy, .int q.po, .int q.sr]) (some 1) none _ from ?_)
  refine (show (2 : Nat) ≤ 100000 → _ from fun _ => ?_) (by decide)
  refine ⟨(show (4 : Nat) ≤ 100000 by decide), ?_⟩
  refine eVar_at (x := .str q.nm) (by rfl) ?_
  refine eVar_at (x := .int q.dy) (by rfl) ?_
  refine ⟨cb _, ?_⟩
  refine eVar_at (x := .int q.po) (by rfl) ?_
  refine eVar_at (x := .int q.sr) (by rfl) ?_
  refine ⟨(show (4 : Nat) ≤ 100000 by decide), ?_⟩
  refine eVar_at (x := .str q.nm) (by rfl) ?_
  refine eVar_at (x := .int q.dy) (by rfl) ?_
  refine eVar_at (x := .int q.po) (by rfl) ?_
  refine ⟨cb _, ?_⟩
  refine eVar_at (x := .int q.sr) (by rfl) ?_
  refine ⟨(show (4 : Nat) ≤ 100000 by decide), ?_⟩
  refine ⟨(show (4 : Nat) ≤ 100000 by decide), ?_⟩
  dsimp only [En.set, List.set]
  refine seqI (setI ?_)
  unfold eCall aPen
  dsimp only [List.getElem?_cons_succ, List.getElem?_cons_zero, aCons, aNil, eOp, eLst, aD]
  refine eVar_at (x := .lst [q.d, .tup [.str "zz", .int q.dy, .int q.po, .int q.sr], .tup [.str q.nm, .int (q.dy.fdiv 2), .int q.po, .int q.sr], .tup [.str q.nm, .int q.dy, .int (q.po.fdiv 2), .int q.sr]]) (by rfl) ?_
  dsimp only [eTup, aD, aCons, aNil, eK, eOp]
  refine eVar_at (x := .str q.nm) (by rfl) ?_
  refine eVar_at (x := .int q.dy) (by rfl) ?_
  refine eVar_at (x := .int q.po) (by rfl) ?_
  refine eVar_at (x := .int q.sr) (by rfl) ?_
  refine ⟨(show (4 : Nat) ≤ 100000 by decide), ?_⟩
  refine ⟨(show (1 : Nat) ≤ 100000 by decide), ?_⟩
  refine ⟨(show (5 : Nat) ≤ 100000 by decide), ?_⟩
  refine q_pick (xs := (othL q).map Pt.d) rfl (fun z => nomatch z) (show (5 : Nat) ≤ 1000 by decide) (by show b < _; omega) fun y hy b1 hb1 => ?_
  have hb1 : b1 ≤ b + 13 := hb1
  obtain ⟨r, hr, rfl⟩ := List.mem_map.mp hy
  have okr := oth_ok ok r hr
  dsimp only [En.set, List.set]
  refine setI ?_
  dsimp only [eMake, aCons, aNil]
  refine eIxN_at (k := 0) (xs := [.str r.nm, .int r.dy, .int r.po, .int r.sr]) (z := .str r.nm) (by rfl) rfl ?_
  refine eIxN_at (k := 1) (xs := [.str r.nm, .int r.dy, .int r.po, .int r.sr]) (z := .int r.dy) (by rfl) rfl ?_
  refine eIxN_at (k := 2) (xs := [.str r.nm, .int r.dy, .int r.po, .int r.sr]) (z := .int r.po) (by rfl) rfl ?_
  refine eIxN_at (k := 3) (xs := [.str r.nm, .int r.dy, .int r.po, .int r.sr]) (z := .int r.sr) (by rfl) rfl ?_
  refine q_Painter_init (q := r) okr ?_
  exact k r _ b1 hb1 okr
theorem seq3 {a c d e : WS} {N : DN} {en : En} (h : sSeq a (sSeq c d) { N with nx := fun en1 => e N en1 } en) : sSeq a (sSeq c (sSeq d e)) N en := h
theorem seq2 {a c d : WS} {N : DN} {en : En} (h : sSeq a c { N with nx := fun en1 => d N en1 } en) : sSeq a (sSeq c d) N en := h
theorem eq_pts {q r : Pt} (hq : NameD q.nm) (hr : NameD r.nm) {Q : D → Prop} (k : Q (.bl (eqD r.d q.d))) : oEq r.d q.d Q := by
  have p1 := pt_pln hq
  have p2 := pt_pln hr
  refine eq_pln p2.1 p1.1 (by have := p2.2; omega) (by have := p1.2; omega) (fun e => ?_) fun e => ?_
  · rw [eqD_t e] at k; exact k
  · rw [eqD_f e] at k; exact k
theorem ne_bb {p q : Bool} {Q : D → Prop} (e : p = q) (k : Q (.bl false)) : oNe (.bl p) (.bl q) Q := by
  subst e
  show Q (.bl (!decide (p = p)))
  rw [decide_eq_true rfl]
  exact k
theorem eq_nb {p q : Bool} {Q : D → Prop} (e : p = !q) (k : Q (.bl false)) : oEq (.bl p) (.bl q) Q := by
  subst e
  show Q (.bl (decide ((!q) = q)))
  cases q <;> exact k
theorem cmp_w {n : Nat} {N : DN} {q r : Pt} {x2 x9 x10 x11 x14 x15 : Option KD.B} {b : Int} (ok : q.Ok) (okr : r.Ok) (k : N.nx ⟨[some (.scr n), some .pen, x2, some (.d q.d), some (.d (.str q.nm)), some (.d (.int q.dy)), some (.d (.int q.po)), some (.d (.int q.sr)), some (.d q.o), x9, x10, x11, some (.d r.d), some (.d r.o), x14, x15], b⟩) :
    (sCut (sIf (tOrD (tOf (eOp oNe (eOwnC false "Painter" W_Painter_eq (eVar 8) (eVar 13)) (eOp oEq (eVar 12) (eVar 3)))) (tOf (eOp oEq (eOwnC true "Painter" W_Painter_eq (eVar 8) (eVar 13)) (eOp oEq (eVar 12) (eVar 3))))) (sRet (eK (.bl false))) sNil)) N ⟨[some (.scr n), some .pen, x2, some (.d q.d), some (.d (.str q.nm)), some (.d (.int q.dy)), some (.d (.int q.po)), some (.d (.int q.sr)), some (.d q.o), x9, x10, x11, some (.d r.d), some (.d r.o), x14, x15], b⟩ := by
  refine ⟨fun en => en = ⟨[some (.scr n), some .pen, x2, some (.d q.d), some (.d (.str q.nm)), some (.d (.int q.dy)), some (.d (.int q.po)), some (.d (.int q.sr)), some (.d q.o), x9, x10, x11, some (.d r.d), some (.d r.o), x14, x15], b⟩, ?_, fun en e => by rw [e]; exact k⟩
  refine sF (fun Q' h => tOR (fun Q2 h2 => ?_) ?_) (show _ = _ from rfl)
  · dsimp only [tOf, eOp, eOwnC]
    refine eVar_at (x := q.o) (by rfl) ?_
    refine eVar_at (x := r.o) (by rfl) ?_
    refine ⟨⟨rfl, rfl⟩, q_peqG ok.nm okr.nm, fun e => ?_, fun e => ?_⟩
    · refine eVar_at (x := r.d) (by rfl) ?_
      refine eVar_at (x := q.d) (by rfl) ?_
      refine eq_pts ok.nm okr.nm ?_
      rw [eqD_t (show r.d = q.d by rw [eq_po q r e])]
      exact ne_bb rfl h2
    · refine eVar_at (x := r.d) (by rfl) ?_
      refine eVar_at (x := q.d) (by rfl) ?_
      refine eq_pts ok.nm okr.nm ?_
      rw [eqD_f (show r.d ≠ q.d from fun z => e (by rw [eq_pt r q z]))]
      exact ne_bb rfl h2
  · dsimp only [tOf, eOp, eOwnC]
    refine eVar_at (x := q.o) (by rfl) ?_
    refine eVar_at (x := r.o) (by rfl) ?_
    refine ⟨⟨rfl, rfl⟩, q_peqG ok.nm okr.nm, fun e => ?_, fun e => ?_⟩
    · refine eVar_at (x := r.d) (by rfl) ?_
      refine eVar_at (x := q.d) (by rfl) ?_
      refine eq_pts ok.nm okr.nm ?_
      rw [eqD_t (show r.d = q.d by rw [eq_po q r e])]
      exact eq_nb rfl h
    · refine eVar_at (x := r.d) (by rfl) ?_
      refine eVar_at (x := q.d) (by rfl) ?_
      refine eq_pts ok.nm okr.nm ?_
      rw [eqD_f (show r.d ≠ q.d from fun z => e (by rw [eq_pt r q z]))]
      exact eq_nb rfl h
theorem q_peqF {q : Pt} {y : D} {b : Int} {Q : D → Int → Prop} {E : XC → Int → Prop} (hy : y.tn.isSome = true) (k : Q (.bl false) b) : W_Painter_eq [.d q.o, .d y] b Q E := by
  unfold W_Painter_eq
  refine ⟨rfl, ?_⟩
  unfold w_Painter_eq
  refine eAF (fun Q' h => ?_) k
  show oIsiC "Painter" [] [y, .cls "Painter"] _
  unfold oIsiC
  cases y <;> first | exact ⟨rfl, hy, h⟩ | cases hy
theorem things_w {n : Nat} {N : DN} {q r : Pt} {x2 x9 x10 x11 x14 x15 : Option KD.B} {b : Int} (ok : q.Ok) (k : ∀ x14 x15, N.nx ⟨[some (.scr n), some .pen, x2, some (.d q.d), some (.d (.str q.nm)), some (.d (.int q.dy)), some (.d (.int q.po)), some (.d (.int q.sr)), some (.d q.o), x9, x10, x11, some (.d r.d), some (.d r.o), x14, x15], b⟩) :
    sSeq (sSet 14 (eLst (aCons (eK .non) (aCons (eVar 4) (aCons (eVar 3) (aCons (eB oList (aCons (eVar 3) aNil)) (aCons (eProp "Painter" W_Painter_text (eVar 8)) aNil))))))) (sIf (tOf (eOp oNe (eF (fLc (iLst (eVar 14)) (gN 15) (tOrD (tOf (eOwnA false "Painter" W_Painter_eq (eVar 8) (eVar 15))) (tNotD (tOf (eOwnA true "Painter" W_Painter_eq (eVar 8) (eVar 15))))) (eVar 15) [15])) (eLst aNil))) (sRet (eK (.bl false))) sNil) N ⟨[some (.scr n), some .pen, x2, some (.d q.d), some (.d (.str q.nm)), some (.d (.int q.dy)), some (.d (.int q.po)), some (.d (.int q.sr)), some (.d q.o), x9, x10, x11, some (.d r.d), some (.d r.o), x14, x15], b⟩ := by
  refine seqI (setI ?_)
  dsimp only [eLst, aD, aCons, aNil, eK, eB, eProp]
  refine eVar_at (x := .str q.nm) (by rfl) ?_
  refine eVar_at (x := q.d) (by rfl) ?_
  refine eVar_at (x := q.d) (by rfl) ?_
  show oList [D.tup [.str q.nm, .int q.dy, .int q.po, .int q.sr]] _
  dsimp only [oList]
  refine eVar_at (x := q.o) (by rfl) ?_
  refine ⟨rfl, q_Painter_text ok ?_⟩
  refine ⟨(show (5 : Nat) ≤ 100000 by decide), ?_⟩
  dsimp only [En.set, List.set]
  obtain ⟨ys, hys⟩ : ∃ ys : List D, ys = [D.non, .str q.nm, q.d, .lst [.str q.nm, .int q.dy, .int q.po, .int q.sr], .str (ln q)] := ⟨_, rfl⟩
  have hyt : ∀ y ∈ ys, y.tn.isSome = true := fun y h => by
    subst hys
    simp only [List.mem_cons, List.not_mem_nil, or_false] at h
    rcases h with rfl | rfl | rfl | rfl | rfl <;> rfl
  have hyl : ys.length ≤ 100000 := by rw [hys]; show (5 : Nat) ≤ 100000; decide
  rw [← hys]
  refine sF2 (en1 := ⟨[some (.scr n), some .pen, x2, some (.d q.d), some (.d (.str q.nm)), some (.d (.int q.dy)), some (.d (.int q.po)), some (.d (.int q.sr)), some (.d q.o), x9, x10, x11, some (.d r.d), some (.d r.o), some (.d (.lst ys)), none], b⟩) (fun Q' h => ?_) (k _ _)
  dsimp only [tOf, eOp, eF]
  refine fLc_flt ys (fun y => y) (fun y => y) (fun _ => false) (fun R h => ?_) hyl (fun y hy Q2 h2 => ?_) (fun k hk hp => nomatch hp) ?_
  · rw [List.map_id'] at h
    exact eVar_at (x := .lst ys) (by rfl) h
  · have ty := hyt y hy
    dsimp only [En.set, List.set] at h2 ⊢
    refine tOR (fun Q3 h3 => ?_) ?_
    · dsimp only [tOf, eOwnA]
      refine eVar_at (x := q.o) (by rfl) ?_
      refine eVar_at (x := y) (by rfl) ?_
      exact ⟨rfl, ty, q_peqF ty h3⟩
    · dsimp only [tOf, eOwnA, tNotD]
      refine eVar_at (x := q.o) (by rfl) ?_
      refine eVar_at (x := y) (by rfl) ?_
      exact ⟨rfl, ty, q_peqF ty h2⟩
  · have e0 : ys.filter (fun _ => false) = [] := List.filter_eq_nil_iff.mpr fun _ _ => by decide
    rw [e0]
    refine ⟨(show (0 : Nat) ≤ 100000 by decide), ?_⟩
    exact ne_pln (x := .lst []) (y := .lst []) rfl rfl (by decide) (by decide) (fun _ => h) fun z => absurd rfl z
theorem read_w {n : Nat} {N : DN} {q r : Pt} {x2 x9 x10 x11 x14 x15 : Option KD.B} {b : Int} (ok : q.Ok) (okr : r.Ok) (k : N.nx ⟨[some (.scr n), some .pen, x2, some (.d q.d), some (.d (.str q.nm)), some (.d (.int q.dy)), some (.d (.int q.po)), some (.d (.int q.sr)), some (.d q.o), x9, x10, x11, some (.d r.d), some (.d r.o), x14, x15], b⟩) :
    (sCut (sIf (tOrD (tNotD (tOf (eOwnC false "Painter" W_Painter_eq (eCMeth "Painter" W_Painter_read (aCons (eProp "Painter" W_Painter_text (eVar 8)) aNil)) (eVar 8)))) (tOf (eOp oNe (eCall W_parts (aCons (eCMeth "Painter" W_Painter_read (aCons (eCall W_line (aCons (eVar 12) aNil)) aNil)) aNil)) (eVar 12)))) (sRet (eK (.bl false))) sNil)) N ⟨[some (.scr n), some .pen, x2, some (.d q.d), some (.d (.str q.nm)), some (.d (.int q.dy)), some (.d (.int q.po)), some (.d (.int q.sr)), some (.d q.o), x9, x10, x11, some (.d r.d), some (.d r.o), x14, x15], b⟩ := by
  refine ⟨fun en => en = ⟨[some (.scr n), some .pen, x2, some (.d q.d), some (.d (.str q.nm)), some (.d (.int q.dy)), some (.d (.int q.po)), some (.d (.int q.sr)), some (.d q.o), x9, x10, x11, some (.d r.d), some (.d r.o), x14, x15], b⟩, ?_, fun en e => by rw [e]; exact k⟩
  refine sF (fun Q' h => tOR (fun Q2 h2 => ?_) ?_) (show _ = _ from rfl)
  · dsimp only [tNotD, tOf, eOwnC, eCMeth, aCons, aNil, eProp]
    refine eVar_at (x := q.o) (by rfl) ?_
    refine ⟨rfl, q_Painter_text ok ?_⟩
    refine q_Painter_read ok ?_
    refine eVar_at (x := q.o) (by rfl) ?_
    exact ⟨⟨rfl, rfl⟩, q_peqG ok.nm ok.nm, fun _ => h2, fun z => absurd rfl z⟩
  · dsimp only [tOf, eOp, eCall, eCMeth, aCons, aNil]
    refine eVar_at (x := r.d) (by rfl) ?_
    refine q_line okr ?_
    refine q_Painter_read okr ?_
    refine q_parts ?_
    refine eVar_at (x := r.d) (by rfl) ?_
    have pp := pt_pln okr.nm
    exact ne_pln pp.1 pp.1 (by have := pp.2; omega) (by have := pp.2; omega) (fun _ => h) fun z => absurd rfl z
theorem fence_w {n : Nat} {N : DN} {q r : Pt} {x2 x9 x10 x11 x14 x15 : Option KD.B} {b : Int} (ok : q.Ok) (okr : r.Ok) (k : N.nx ⟨[some (.scr n), some .pen, x2, some (.d q.d), some (.d (.str q.nm)), some (.d (.int q.dy)), some (.d (.int q.po)), some (.d (.int q.sr)), some (.d q.o), x9, x10, x11, some (.d r.d), some (.d r.o), x14, x15], b⟩) :
    (sIf (tOrD (tNotD (tOf (eOwnC false "Painter" W_Painter_eq (eOwn2 "Fence" (fun _ => true) W_Fence_getitem (eMake "Fence" W_Fence_init (aCons (eVar 8) aNil)) (eVar 4)) (eVar 8)))) (tOf (eOp oNe (eOwnC false "Fence" W_Fence_eq (eMake "Fence" W_Fence_init (aCons (eVar 8) aNil)) (eMake "Fence" W_Fence_init (aCons (eVar 13) aNil))) (eOp oEq (eVar 12) (eVar 3))))) (sRet (eK (.bl false))) sNil) N ⟨[some (.scr n), some .pen, x2, some (.d q.d), some (.d (.str q.nm)), some (.d (.int q.dy)), some (.d (.int q.po)), some (.d (.int q.sr)), some (.d q.o), x9, x10, x11, some (.d r.d), some (.d r.o), x14, x15], b⟩ := by
  have nd1 : ∀ q : Pt, ([q].map Pt.nm).Nodup := fun q => by simp
  refine sF (fun Q' h => tOR (fun Q2 h2 => ?_) ?_) k
  · dsimp only [tNotD, tOf, eOwnC, eOwn2, eMake, aCons, aNil]
    refine eVar_at (x := q.o) (by rfl) ?_
    refine q_Fence_init (qs := [q]) (nd1 q) (show (1 : Nat) ≤ 40 by decide) ?_
    refine eVar_at (x := .str q.nm) (by rfl) ?_
    refine ⟨rfl, rfl, ?_⟩
    have e : nmF [q] 0 = q.nm := nm_at rfl
    rw [← e]
    refine q_getitem (qs := [q]) (nd1 q) (i := 0) rfl ?_
    refine eVar_at (x := q.o) (by rfl) ?_
    exact ⟨⟨rfl, rfl⟩, q_peqG ok.nm ok.nm, fun _ => h2, fun z => absurd rfl z⟩
  · dsimp only [tOf, eOp, eOwnC, eMake, aCons, aNil]
    refine eVar_at (x := q.o) (by rfl) ?_
    refine q_Fence_init (qs := [q]) (nd1 q) (show (1 : Nat) ≤ 40 by decide) ?_
    refine eVar_at (x := r.o) (by rfl) ?_
    refine q_Fence_init (qs := [r]) (nd1 r) (show (1 : Nat) ≤ 40 by decide) ?_
    have n1 : ∀ q' ∈ [q], NameD q'.nm := fun q' hq => by rw [List.mem_singleton.mp hq]; exact ok.nm
    have n2 : ∀ q' ∈ [r], NameD q'.nm := fun q' hq => by rw [List.mem_singleton.mp hq]; exact okr.nm
    refine ⟨⟨rfl, rfl⟩, q_feqX n1 n2, fun e => ?_, fun e => ?_⟩
    · have : r.d = q.d := by
        have e := fn_injD (qs := [q]) (rs := [r]) e
        injection e with e _
        rw [e]
      refine eVar_at (x := r.d) (by rfl) ?_
      refine eVar_at (x := q.d) (by rfl) ?_
      refine eq_pts ok.nm okr.nm ?_
      rw [eqD_t this]
      exact ne_bb rfl h
    · have : r.d ≠ q.d := fun z => e (by rw [eq_pt r q z])
      refine eVar_at (x := r.d) (by rfl) ?_
      refine eVar_at (x := q.d) (by rfl) ?_
      refine eq_pts ok.nm okr.nm ?_
      rw [eqD_f this]
      exact ne_bb rfl h
def ends3 : List Pt := [⟨"a", 0, 10 ^ 30, -1⟩, ⟨"b", 3, -(10 ^ 30), 5⟩, ⟨"c", 0, 0, 10 ^ 18⟩]
theorem ends_nm (z : Str) (h : z = "a" ∨ z = "b" ∨ z = "c") : NameD z := by
  rcases h with rfl | rfl | rfl <;> (unfold NameD; decide +kernel)
theorem ends_ok : ∀ q ∈ ends3, q.Ok := fun q hq => by
  simp only [ends3, List.mem_cons, List.not_mem_nil, or_false] at hq
  rcases hq with rfl | rfl | rfl
  · exact ⟨ends_nm _ (.inl rfl), by decide, by decide, by decide, by decide, by decide, by decide, by decide⟩
  · exact ⟨ends_nm _ (.inr (.inl rfl)), by decide, by decide, by decide, by decide, by decide, by decide, by decide⟩
  · exact ⟨ends_nm _ (.inr (.inr rfl)), by decide, by decide, by decide, by decide, by decide, by decide, by decide⟩
theorem part_w {n : Nat} {N : DN} {q : Pt} {x2 x4 x5 x6 x7 x8 x9 x10 x11 x12 x13 x14 x15 : Option KD.B} {b : Int} (hb : b < 10 ^ 7) (ok : q.Ok) (k : ∀ x4 x5 x6 x7 x8 x9 x10 x11 x12 x13 x14 x15 b', b' ≤ b + 1000 → N.nx ⟨[some (.scr n), some .pen, x2, some (.d q.d), x4, x5, x6, x7, x8, x9, x10, x11, x12, x13, x14, x15], b'⟩) :
    (sSeq (sAsg (eVar 3) (gT 4 (gsCons (gN 4) (gsCons (gN 5) (gsCons (gN 6) (gsCons (gN 7) gsNil)))))) (sSeq (sSet 8 (eMake "Painter" W_Painter_init (aCons (eVar 4) (aCons (eVar 5) (aCons (eVar 6) (aCons (eVar 7) aNil)))))) (sSeq (sFor (iLst (eLst (aCons (eK (.int 0)) (aCons (eCall W_around (aPen 1 (aCons (eK (.int 9)) aNil))) (aCons (eCall W_great (aPen 1 (aCons (eK (.int 30)) aNil))) (aCons (eOp oSub (eK (.int 0)) (eCall W_great (aPen 1 (aCons (eK (.int 31)) aNil)))) (aCons (eOp oSub (eK (.int 1000000000000000000000000000000)) (eVar 6)) aNil))))))) (gN 9) (sSeq (sSet 10 (eCut (eIf (tOf (eOp oLe (eB oAbs (aCons (eOp oAdd (eVar 6) (eVar 9)) aNil)) (eK (.int 1000000000000000000000000000000)))) (eTup (aCons (eVar 4) (aCons (eVar 5) (aCons (eOp oAdd (eVar 6) (eVar 9)) (aCons (eVar 7) aNil))))) (eK (.str "post"))))) (sIf (tOf (eOp oNe (eB oRepr (aCons (eCall W_added (aCons (eVar 8) (aCons (eVar 9) aNil))) aNil)) (eB oRepr (aCons (eVar 10) aNil)))) (sRet (eK (.bl false))) sNil))) (sSeq (sCut (sIf (tOrD (tOf (eOp oNe (eB oRepr (aCons (eCall W_parts (aCons (eOwn1 "Painter" W_Painter_neg (eVar 8)) aNil)) aNil)) (eB oRepr (aCons (eTup (aCons (eVar 4) (aCons (eVar 5) (aCons (eOp oSub (eK (.int 0)) (eVar 6)) (aCons (eOp oSub (eK (.int 0)) (eVar 7)) aNil))))) aNil)))) (tOf (eOp oNe (eCall W_parts (aCons (eVar 8) aNil)) (eVar 3)))) (sRet (eK (.bl false))) sNil)) (sSeq (sSet 11 (eLst (aCons (eVar 3) (aCons (eOp oAdd (eTup (aCons (eK (.str "zz")) aNil)) (eSlV 3 (oSo (eK (.int 1))) oNo)) (aCons (eTup (aCons (eVar 4) (aCons (eOp oDiv (eVar 5) (eK (.int 2))) (aCons (eVar 6) (aCons (eVar 7) aNil))))) (aCons (eTup (aCons (eVar 4) (aCons (eVar 5) (aCons (eOp oDiv (eVar 6) (eK (.int 2))) (aCons (eVar 7) aNil))))) aNil)))))) (sSeq (sSet 12 (eCall W_pick (aPen 1 (aCons (eOp oAdd (eVar 11) (eLst (aCons (eTup (aCons (eVar 4) (aCons (eVar 5) (aCons (eVar 6) (aCons (eOp oSub (eK (.int 0)) (eVar 7)) aNil))))) aNil))) aNil)))) (sSeq (sSet 13 (eMake "Painter" W_Painter_init (aCons (eIxN 12 (eK (.int 0))) (aCons (eIxN 12 (eK (.int 1))) (aCons (eIxN 12 (eK (.int 2))) (aCons (eIxN 12 (eK (.int 3))) aNil)))))) (sSeq (sCut (sIf (tOrD (tOf (eOp oNe (eOwnC false "Painter" W_Painter_eq (eVar 8) (eVar 13)) (eOp oEq (eVar 12) (eVar 3)))) (tOf (eOp oEq (eOwnC true "Painter" W_Painter_eq (eVar 8) (eVar 13)) (eOp oEq (eVar 12) (eVar 3))))) (sRet (eK (.bl false))) sNil)) (sSeq (sSet 14 (eLst (aCons (eK .non) (aCons (eVar 4) (aCons (eVar 3) (aCons (eB oList (aCons (eVar 3) aNil)) (aCons (eProp "Painter" W_Painter_text (eVar 8)) aNil))))))) (sSeq (sIf (tOf (eOp oNe (eF (fLc (iLst (eVar 14)) (gN 15) (tOrD (tOf (eOwnA false "Painter" W_Painter_eq (eVar 8) (eVar 15))) (tNotD (tOf (eOwnA true "Painter" W_Painter_eq (eVar 8) (eVar 15))))) (eVar 15) [15])) (eLst aNil))) (sRet (eK (.bl false))) sNil) (sSeq (sCut (sIf (tOrD (tNotD (tOf (eOwnC false "Painter" W_Painter_eq (eCMeth "Painter" W_Painter_read (aCons (eProp "Painter" W_Painter_text (eVar 8)) aNil)) (eVar 8)))) (tOf (eOp oNe (eCall W_parts (aCons (eCMeth "Painter" W_Painter_read (aCons (eCall W_line (aCons (eVar 12) aNil)) aNil)) aNil)) (eVar 12)))) (sRet (eK (.bl false))) sNil)) (sIf (tOrD (tNotD (tOf (eOwnC false "Painter" W_Painter_eq (eOwn2 "Fence" (fun _ => true) W_Fence_getitem (eMake "Fence" W_Fence_init (aCons (eVar 8) aNil)) (eVar 4)) (eVar 8)))) (tOf (eOp oNe (eOwnC false "Fence" W_Fence_eq (eMake "Fence" W_Fence_init (aCons (eVar 8) aNil)) (eMake "Fence" W_Fence_init (aCons (eVar 13) aNil))) (eOp oEq (eVar 12) (eVar 3))))) (sRet (eK (.bl false))) sNil)))))))))))) N ⟨[some (.scr n), some .pen, x2, some (.d q.d), x4, x5, x6, x7, x8, x9, x10, x11, x12, x13, x14, x15], b⟩ := by
  refine seqI ?_
  dsimp only [sAsg]
  refine eVar_at (x := q.d) (by rfl) ?_
  refine (show gT 4 _ (.tup [.str q.nm, .int q.dy, .int q.po, .int q.sr]) _ _ from ?_)
  dsimp only [gT, gsCons, gsNil, gN, En.set, List.set]
  refine ⟨rfl, ?_⟩
  refine seqI (setI ?_)
  dsimp only [eMake, aCons, aNil]
  refine eVar_at (x := .str q.nm) (by rfl) ?_
  refine eVar_at (x := .int q.dy) (by rfl) ?_
  refine eVar_at (x := .int q.po) (by rfl) ?_
  refine eVar_at (x := .int q.sr) (by rfl) ?_
  refine q_Painter_init ok ?_
  dsimp only [En.set, List.set]
  refine seqI (posts_w ok (by omega) fun x9 x10 b1 hb1 => ?_)
  refine seqI (neg_w ok ?_)
  refine seq3 (some_w (by omega) ok fun r x11 b2 hb2 okr => ?_)
  refine seqI (cmp_w ok okr ?_)
  refine seq2 (things_w ok fun x14 x15 => ?_)
  refine seqI (read_w ok okr ?_)
  refine fence_w ok okr ?_
  exact k _ _ _ _ _ _ _ _ _ _ _ _ _ (by omega)
theorem law_w (n : Nat) (hn : n ≤ 63) : w_law lawN (lawE 16 n) := by
  refine seqI ?_
  refine ⟨by show (-(2 ^ 62) : Int) ≤ 10; decide, by show (10 : Int) < 2 ^ 62; decide, ?_⟩
  refine forGo_ind (intsD 0 (10 : Int).toNat) (fun i en => ∃ (x2 x3 x4 x5 x6 x7 x8 x9 x10 x11 x12 x13 x14 x15 : Option KD.B) (b : Int), en = ⟨[some (.scr n), some .pen, x2, x3, x4, x5, x6, x7, x8, x9, x10, x11, x12, x13, x14, x15], b⟩ ∧ b ≤ 80000 * (i : Int)) ⟨none, none, none, none, none, none, none, none, none, none, none, none, none, none, 0, rfl, by simp⟩ (fun i x en J hx ⟨x2, x3, x4, x5, x6, x7, x8, x9, x10, x11, x12, x13, x14, x15, b, he, hb⟩ hJ => ?_) fun en ⟨x2, x3, x4, x5, x6, x7, x8, x9, x10, x11, x12, x13, x14, x15, b, he, hb⟩ => ?_
  · subst he
    obtain ⟨hi, rfl⟩ := ints_get hx
    have hi : i < 10 := hi
    dsimp only [gN, En.set, List.set]
    dsimp only [sFor, iLst, eOp, eCall, aPen, aNil, List.getElem?_cons_succ, List.getElem?_cons_zero]
    refine q_painters (by show b < _; omega) fun qs b1 hb1 hq hl nd => ?_
    have hb1 : b1 ≤ b + 70000 := hb1
    dsimp only [eLst, aD, aCons, aNil, eTup, eK, eUn, oNeg]
    refine ⟨(show (4 : Nat) ≤ 100000 by decide), ?_⟩
    refine ⟨(show (4 : Nat) ≤ 100000 by decide), ?_⟩
    refine ⟨(show (4 : Nat) ≤ 100000 by decide), ?_⟩
    refine ⟨(show (3 : Nat) ≤ 100000 by decide), ?_⟩
    refine ⟨by rw [List.length_map]; show _ + 3 ≤ _; omega, ?_⟩
    have e : (qs.map Pt.d) ++ (ends3.map Pt.d) = (qs ++ ends3).map Pt.d := by rw [List.map_append]
    refine (show forGo _ _ _ ((qs.map Pt.d) ++ (ends3.map Pt.d)) _ from ?_)
    rw [e]
    have oks : ∀ q ∈ qs ++ ends3, q.Ok := fun q h => (List.mem_append.mp h).elim (fun h => (hq q h).mono (by decide) (by decide) (by decide)) (ends_ok q)
    have len : (qs ++ ends3).length ≤ 9 := by rw [List.length_append]; show _ + 3 ≤ _; omega
    refine forGo_ind ((qs ++ ends3).map Pt.d) (fun j en => ∃ (x3 x4 x5 x6 x7 x8 x9 x10 x11 x12 x13 x14 x15 : Option KD.B) (b : Int), en = ⟨[some (.scr n), some .pen, some (.d (.int (i : Int))), x3, x4, x5, x6, x7, x8, x9, x10, x11, x12, x13, x14, x15], b⟩ ∧ b ≤ b1 + 1000 * (j : Int)) ⟨_, _, _, _, _, _, _, _, _, _, _, _, _, b1, rfl, by simp⟩ (fun j y en J2 hy ⟨x3, x4, x5, x6, x7, x8, x9, x10, x11, x12, x13, x14, x15, b, he, hb⟩ hJ2 => ?_) fun en ⟨x3, x4, x5, x6, x7, x8, x9, x10, x11, x12, x13, x14, x15, b, he, hb⟩ => ?_
    · subst he
      rw [List.getElem?_map] at hy
      cases qm : (qs ++ ends3)[j]? with
      | none => rw [qm] at hy; cases hy
      | some q =>
      rw [qm] at hy; cases hy
      have hj := (List.getElem?_eq_some_iff.mp qm).1
      dsimp only [gN, En.set, List.set]
      refine part_w (by omega) (oks q (List.mem_of_getElem? qm)) fun x4 x5 x6 x7 x8 x9 x10 x11 x12 x13 x14 x15 b2 hb2 => ?_
      exact hJ2 _ ⟨_, _, _, _, _, _, _, _, _, _, _, _, _, b2, rfl, by push_cast; omega⟩
    · subst he
      rw [List.length_map] at hb
      exact hJ _ ⟨_, _, _, _, _, _, _, _, _, _, _, _, _, _, _, rfl, by push_cast; omega⟩
  · subst he
    rfl
end KD

open PySem PySem.W PySem.Calls PyProof.Rows
set_option maxHeartbeats 0 in
theorem PySem.Challenge.cw_paintposts_k04_whole_painters_moved_comp_holds : PySem.Challenge.rw_paintposts_k04_whole_painters_moved_comp.Holds := by
  w_on; o_law
  refine HandSHeadRun.head_any (r := OpenLaw.row PySem.Challenge.rw_paintposts_k04_whole_painters_moved_comp) (q := KP.qq) (H := KP.hk) (ob := KP.obh) (M := 20000) (loose := KP.loo) (d := HandSHeadRun.topDef (OpenLaw.row PySem.Challenge.rw_paintposts_k04_whole_painters_moved_comp).prog 42) (kwd := []) KP.obh_eq (by kernel_rfl) (fun s => by kernel_rfl) KP.runh
    (by kernel_rfl) (by kernel_rfl) (by kernel_rfl) (by rfl) (by first | assumption | decide +kernel) (by decide +kernel) ⟨rfl, rfl, rfl, rfl, rfl, by decide +kernel⟩ ?hw ?hc
  case hw => w_witness2
  case hc =>
    refine KP.law_end (l := PySem.Challenge.rw_paintposts_k04_whole_painters_moved_comp) (k := 18) (x := "_law_script") rfl (by kernel_rfl) ⟨rfl, by decide, by decide⟩ ?_
    intro w mg fa h Y G hmg0
    obtain ⟨K, KX, c⟩ := Y
    obtain ⟨T⟩ := KP.tx_of KX G c
    have hmg : mg ("law" : PySem.Str) = some (.ref fa) := by
      have e : (HandSHeadRun.topDef (OpenLaw.row PySem.Challenge.rw_paintposts_k04_whole_painters_moved_comp).prog 42).name = ("law" : PySem.Str) := by kernel_rfl
      rw [← e]
      exact hmg0
    have e := hmg.symm.trans T.g_law
    cases e
    have bb := L2.FunD.bindsA (ps := ["_law_script"]) T.fn_law fun _ _ _ _ _ _ us hl => match us, hl with | [_], _ => rfl
    exact ⟨K, T.fd_law, KD.spLaw K, KX, fun s v => bb s [v] rfl, fun H a ns hl _ hS => ⟨a, ns, rfl, hS, hl, (fun _ z => nomatch z), fun _ => rfl⟩, fun base _ _ => KD.k_law T KP.po KD.law_w⟩
