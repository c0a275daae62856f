import PyProof.Rows.All
import Wide.All
import OpenK.AllK
import Wide.FinOn
import PyProof.EqAt
import PyProof.EqKinds
import PyProof.TupleCall
import HandS.ForMost
import HandS.Evl
import HandS.IsInst
import HandS.Wide
import HandS.EndBits
import HandS.SortInts
import HandS.More
import HandS.Conv
import HandS.Style
import HandS.SetFor
import HandS.Strs
import PySem.Challenge.RW_runtogether_k06_whole_great_shares
set_option Elab.async false
set_option linter.all false
set_option maxRecDepth 100000
set_option maxHeartbeats 4000000

/-! Rules of my own over the hand layer: great products, texts of data, defs that are called where no repr is under way. -/
namespace Rt
open PySem PySem.Spec PyProof.Rows L2 Evl
section
variable {X : Cx}
/-- a product of any two ints whose bits are within the model's line -/
theorem op_mulX : OpR X (binaryOp .Mult) (rI IntMulOk fun i j => .int (i * j)) :=
  opI fun _ _ _ _ _ _ _ hc q => mul_int q hc
end
theorem bits_le (i : Int) : Builtin.Int.intBits i ≤ i.natAbs.log2 + 1 := by
  unfold Builtin.Int.intBits
  split <;> omega
theorem mulok_bits {i j : Int} (h : Builtin.Int.intBits i + Builtin.Int.intBits j ≤ 134217728) : IntMulOk i j := by
  unfold IntMulOk
  intro z
  rw [Bool.and_eq_true] at z
  have z2 := z.2
  unfold Builtin.Int.intTooBig at z2
  have z3 := of_decide_eq_true z2
  have e : bitsLine = 134217728 := by decide
  rw [e] at z3
  omega
theorem mulok_left {i j : Int} (h0 : -(2 ^ 64) < i) (h1 : i < 2 ^ 64) : IntMulOk i j := CMul.ok (.inl ⟨h0, h1⟩)
theorem mulok_right {i j : Int} (h0 : -(2 ^ 64) < j) (h1 : j < 2 ^ 64) : IntMulOk i j := CMul.ok (.inr ⟨h0, h1⟩)
theorem bits_of_lt {i : Int} {n : Nat} (h : i.natAbs < 2 ^ n) : Builtin.Int.intBits i ≤ n := by
  unfold Builtin.Int.intBits
  split
  · omega
  · rename_i hz
    have h0 : i.natAbs ≠ 0 := by
      intro e
      apply hz
      have : i = 0 := by omega
      simp [this]
    have := (Nat.log2_lt h0).mpr h
    omega
theorem lt_of_bits {i : Int} {n : Nat} (h : Builtin.Int.intBits i ≤ n) : i.natAbs < 2 ^ n := by
  by_cases hz : i = 0
  · subst hz
    exact Nat.two_pow_pos n
  · have h0 : i.natAbs ≠ 0 := by omega
    unfold Builtin.Int.intBits at h
    rw [if_neg (by simpa using hz)] at h
    exact (Nat.log2_lt h0).mp (by omega)
theorem bits_add {i j : Int} {n : Nat} (hi : Builtin.Int.intBits i ≤ n) (hj : Builtin.Int.intBits j ≤ n) : Builtin.Int.intBits (i + j) ≤ n + 1 := by
  have a := lt_of_bits hi
  have b := lt_of_bits hj
  refine bits_of_lt ?_
  rw [Nat.pow_succ]
  omega
theorem bits_mul {i j : Int} {n m : Nat} (hi : Builtin.Int.intBits i ≤ n) (hj : Builtin.Int.intBits j ≤ m) : Builtin.Int.intBits (i * j) ≤ n + m := by
  have a := lt_of_bits hi
  have b := lt_of_bits hj
  refine bits_of_lt ?_
  rw [Int.natAbs_mul, Nat.pow_add]
  exact Nat.mul_lt_mul'' a b
/-! ### str of data -/
def rStrD (K : PySem.W.Frag) : List V → Hp → VK → Prop := fun xs H Q => ∃ (a : Addr) (d : PyData), xs = [.ref a] ∧ Dp K H (.ref a) d ∧ d.showable = true ∧ d.hasDict = false ∧ d.depth ≤ 60 ∧ d.shown.length ≤ sizeLine ∧ Q (.str d.shown) H
theorem call_strD {X : Cx} (hg : X.A.guards = some []) (hu : X.A.units + 64 < cLine) : CallR X (.type "str") (rStrD X.K) := by
  intro pins s σ H xs us Q I r h
  obtain ⟨a, d, rfl, hd, hs, hn, hdep, hl, q⟩ := h
  obtain ⟨u, rfl, ru⟩ := vals1 r
  obtain ⟨as, rd⟩ := Dp.reads I d _ _ hd ru
  cases (show u = Value.ref a from ru)
  exact str_of_reads (h₀ := s.heap) rd hs (fun z => by rw [hn] at z; cases z) hg (by omega) (fun _ _ e => e)
    (fun h' u tk hk => ⟨.str d.shown, H, I.kept (t' := tk) hk, ⟨u, rfl⟩, q⟩) hl
/-! ### defs that are called where no repr is under way -/
structure FnG (P : Program) (w : World) (K : PySem.W.Frag) (mg : Str → Option Value) (base : Heap) (CX : CXT) (k : Nat) (f : Addr) (fd : FuncData) (ps : List Str) (sp : Sp) : Prop where
  ln : ∀ vs H Q E, sp vs H Q E → vs.length = ps.length
  go : ∀ (A : Around) (outer : List Env) (s : Shared) (H : Hp) (args : Args) (us : List Value) (vs : List V) (Q : VK) (E : XK), A.guards = some [] → Room k A →
    Env0 P w K mg base A outer s H → BindsTo s fd args (ps.zip us) → Vals vs us → sp vs H Q E → codeAny (model P w) A (.call (.ref f) args) (CR CX outer P w H s Q E) s
section
variable {P : Program} {w : World} {K : PySem.W.Frag} {mg : Str → Option Value} {base : Heap}
theorem Fun.okG {nm qual : Str} {st : Stmt} {f : Addr} {fd : FuncData} {N ps : List Str} {k : Nat} {sp : Sp} (F : Fun K nm qual st f fd) (S : FnScope N ps (defScope st))
    (ln : ∀ vs H Q E, sp vs H Q E → vs.length = ps.length)
    (hb : ∀ (cv : Value) (A : Around) (outer : List Env) (s : Shared) (H : Hp) (vs : List V) (Q : VK) (E : XK), A.guards = some [] →
      Room k (A.deeper (envOfC qual (defScope st) s.heap.objs.size f cv)) → sp vs H Q E →
      ∃ t, PSs (cxOf CX0 P w K mg base N qual (defScope st) f cv A outer s H E).nox (defBody st) t ∧ t { nx := fun _ H' => Q .non H', rt := Q } (start N vs) H) :
    FnG P w K mg base CX0 (k + 1) f fd ps sp := by
  obtain ⟨oc, od, kV, doc, pm, an, cv, ct, osl, rfl, lk, hcd⟩ := F.ex
  constructor
  · exact ln
  intro A outer s H args us vs Q E hgd room e0 hbd rel hsp
  have hlen := ln _ _ _ _ hsp
  have kept := fun (b : Addr) (o : Obj) (e : base.get? b = some o) => (e0.bs b o e).1
  have KX : K.In s.heap := e0.mod.kin.keeps kept
  have kinds : ∀ y ∈ ps.zip us, (defScope st).names.lookup y.1 = some .local ∨
      ((defScope st).names.lookup y.1 = some .cell ∧ ((cellsFrom (s.heap.objs.size + 1) (defScope st).names []).lookup y.1).isSome = true) := by
    rintro ⟨n, v⟩ hy
    rcases S.par n (List.of_mem_zip hy).1 with z | z
    · exact .inl z
    · exact .inr ⟨z, PySem.W.cellsFrom_some _ _ _ (.inl z)⟩
  refine codeAny_call_function room.depth (KX _ _ lk) rfl S.co S.gen rfl (PySem.W.codeRec_of KX hcd) (hbd _ _ _ _ ?_)
  refine wpAny_newFunctionEnv_cells S.kind kinds ?_
  rintro env rfl s1 inC
  refine ⟨(e0.mod.nolimit.keeps kept).keeps inC.toInCall.keep, codeAny_func ?_⟩
  obtain ⟨t, hd, hq⟩ := hb cv A outer s H vs Q E hgd (room.deeper _) hsp
  have I := inv_start (CX := CX0) (P := P) (w := w) (E := E) S room.hd e0 hlen rel inC
  refine wpAny_mono (hd.nox.run [] s1 (start N vs) H _ I hq) ?_ (fun _ _ z => z)
  intro fl s2 out
  cases fl with
  | next =>
    obtain ⟨_, H2, J, q⟩ := out
    exact ⟨.non, H2, J.os, J.bare, J.base, J.hok, rfl, q⟩
  | ret u =>
    obtain ⟨v, _, H2, J, rv, q⟩ := out
    exact ⟨v, H2, J.os, J.bare, J.base, J.hok, rv, q⟩
  | brk => exact out.elim fun _ z => z.elim fun _ y => y.2.elim
  | cont => exact out.elim fun _ z => z.elim fun _ y => y.2.elim
end
/-- the law's own call, at the caller of the claim: there no repr is under way -/
theorem law_goG {P : Program} {w : World} {K : PySem.W.Frag} {mg mb : Str → Option Value} {k : Nat} {fa a : Addr} {fd : FuncData} {x : Str} {sp : Sp} {s1 : Shared} {vs : List Value} {ns : List Int}
    (KX : K.In s1.heap) (hns : s1.heap.Ns mainGlobals mg) (hbl : s1.heap.Ns builtinsNs mb) (hbb : ∀ y : Str, y ≠ "__name__" → mb y = bootBuiltins y) (lim : s1.heap.NoLimit) (gens : s1.gens = #[])
    (ha : s1.heap.get? a = some { cls := .type "list", data := .seq vs.toArray }) (hi : IntsAre vs ns) (hsz : ns.length ≤ sizeLine) (room : Room k callerA)
    (F : ∀ bs : Heap, K.In bs → bs.Ns mainGlobals mg → FnG P w K mg bs CX0 k fa fd [x] sp) (hbind : ∀ (s : Shared) (u : Value), BindsTo s fd ⟨[u], []⟩ [(x, u)])
    (hsp : ∀ H : Hp, SqL K H a (ns.map V.int) → sp [.ref a] H (fun v _ => v = .bl true) fun _ _ _ => False) :
    codeAny (model P w) callerA (.call (.ref fa) ⟨[.ref a], []⟩) (fun r s2 => r = .ok (.ret (.bool true)) ∧ OldK s1.heap s2.heap ∧ s2.os = s1.os ∧ AllBare s2.gens) s1 := by
  have rel := vals_ints hi
  have lenV := hi.length
  have nil : ∀ b : Addr, b ∉ frs [] := fun b z => by
    have z' : b ∈ ([] : List Addr) := z
    simp at z'
  -- the abstract heap: at most the script, locked
  have main : ∀ H : Hp, (∀ b u, H b = some u → b = a ∧ K.lookup a = none ∧ ∃ o v, u = .frz o v) → HOk P w H s1.heap → SqL K H a (ns.map V.int) →
      codeAny (model P w) callerA (.call (.ref fa) ⟨[.ref a], []⟩) (fun r s2 => r = .ok (.ret (.bool true)) ∧ OldK s1.heap s2.heap ∧ s2.os = s1.os ∧ AllBare s2.gens) s1 := by
    intro H only hok hS
    have free : ∀ {b : Addr} {o : Obj} {es : Array DictEntry} {n : Nat}, s1.heap.get? b = some o → o.data = .dict es n → H b = none := by
      intro b o es n e d
      cases q : H b with
      | none => rfl
      | some u =>
        obtain ⟨rfl, _⟩ := only b u q
        rw [ha] at e
        cases e
        exact nomatch d
    have ns' : ∀ {b : Addr} {m : Str → Option Value}, s1.heap.Ns b m → (hidT s1.heap H).Ns b m := by
      rintro b m ⟨o, es, n, e, d, r⟩
      exact ⟨o, es, n, hidT_get e (free e d), d, r⟩
    have KB : K.In (hidT s1.heap H) := by
      intro b o e
      refine hidT_get (KX b o e) ?_
      cases q : H b with
      | none => rfl
      | some u =>
        obtain ⟨rfl, z, _⟩ := only b u q
        rw [z] at e
        cases e
    have lim' : (hidT s1.heap H).NoLimit := by
      obtain ⟨mc, h1, h2⟩ := lim
      exact ⟨mc, ns' h1, h2⟩
    have e0 : Env0 P w K mg (hidT s1.heap H) callerA [] s1 H :=
      { frames := rfl, mod := ⟨KB, ns' hns, ⟨mb, ns' hbl, hbb⟩, lim'⟩, bs := fun b o e => of_hidT e, bsz := Nat.le_of_eq (hidT_size _ _), funs := trivial,
        frf := fun b hb => absurd hb (nil b), hok := hok, bare := .of_eq gens }
    have run := (F _ KB (ns' hns)).go callerA [] s1 H ⟨[.ref a], []⟩ [.ref a] [.ref a] _ _ rfl room e0 (hbind s1 (.ref a)) (.cons rfl .nil) (hsp H hS)
    refine codeAny_mono run ?_
    intro r s2 out
    rcases r with e | fl
    · exact out.elim
    cases fl with
    | next => exact out.elim
    | brk => exact out.elim
    | cont => exact out.elim
    | ret u =>
      obtain ⟨v, H2, os, bare, un, hok2, rv, rfl⟩ := out
      cases (show u = Value.bool true from rv)
      refine ⟨rfl, OldK.of_keep ?_, os, bare⟩
      intro b o e
      cases q : H b with
      | none => exact un.keep b o e q (nil b) (by simp)
      | some u =>
        obtain ⟨_, _, ob, v, rfl⟩ := only b u q
        have e1 := (hok b _ q).1
        have e2 := (hok2 b _ (un.frzs b ob v q)).1
        rw [e] at e1
        cases e1
        exact e2
  cases hk : K.lookup a with
  | some o =>
    have e := KX a o hk
    rw [ha] at e
    cases e
    refine main (fun _ => none) (fun b u z => nomatch z) (fun b u z => nomatch z) ?_
    exact .inr ⟨_, vs.toArray, _, hk, rfl, rfl, rfl, by rw [List.size_toArray, lenV]; exact hsz, by simpa using rel⟩
  | none =>
    let o1 : Obj := { cls := .type "list", data := .seq vs.toArray }
    have at1 : (fun b => if b = a then some (HO.frz o1 (.lst (ns.map V.int))) else none) a = some (.frz o1 (.lst (ns.map V.int))) := if_pos rfl
    refine main (fun b => if b = a then some (.frz o1 (.lst (ns.map V.int))) else none) ?_ ?_ (.inl (.inr ⟨o1, at1⟩))
    · intro b u z
      by_cases hb : b = a
      · subst hb
        have z' := at1.symm.trans z
        cases z'
        exact ⟨rfl, hk, _, _, rfl⟩
      · have z' := (if_neg hb).symm.trans z
        cases z'
    · intro b u z
      by_cases hb : b = a
      · subst hb
        have z' := at1.symm.trans z
        cases z'
        exact ⟨ha, by rw [List.length_map]; exact hsz, vs, _, rel, ha⟩
      · have z' := (if_neg hb).symm.trans z
        cases z'
theorem walk_ofG {l : PySem.W.OpenLaw} {n k : Nat} {q : Program} {loose : List Str} {XP : (Str → Option Value) → Heap → Prop} {YP : World → Heap → Prop} {d : DefRec} {KK : Params → PySem.W.Frag} {sp : World → Sp} {x : Str}
    (hn : l.most = some n) (hn2 : n ≤ sizeLine) (hdf : d.params.defaults = []) (room : Room k callerA)
    (hY : ∀ (w : World) (h : Heap), YP w h → (KK w.params).In h)
    (F : ∀ (w : World) (mg : Str → Option Value) (fa : Addr) (h : Heap), (KK w.params).In h → h.Ns mainGlobals mg → mg d.name = some (.ref fa) →
      ∃ fd : FuncData, (∀ (s : Shared) (u : Value), BindsTo s fd ⟨[u], []⟩ [(x, u)]) ∧
        ∀ bs : Heap, (KK w.params).In bs → bs.Ns mainGlobals mg → FnG l.prog w (KK w.params) mg bs CX0 k fa fd [x] (sp w))
    (hsp : ∀ (w : World) (H : Hp) (a : Addr) (ns : List Int), ns.length ≤ n → (∀ z ∈ ns, Builtin.Int.intBits z ≤ 1048576) → SqL (KK w.params) H a (ns.map V.int) →
      sp w [.ref a] H (fun v _ => v = .bl true) fun _ _ _ => False) :
    PySem.W.WalkO q loose XP YP l.row.toRowW d [] (fun f vs => PySem.call f vs) := by
  refine Att.attach_callB hn hdf ?_
  intro w s0 s1 mg mb fa o pm cd doc a vs ns G Y _ _ _ hmg hobj hints hlen hbits hg
  obtain ⟨fd, hb, hF⟩ := F w mg fa _ (hY w _ Y) G.T.g hmg
  exact law_goG (hY w _ Y) G.T.g G.T.b G.T.builtins G.T.nolimit hg hobj hints (Nat.le_trans hlen hn2) room hF hb fun H hS => hsp w H a ns hlen hbits hS
/-! ### isinstance of own classes -/
theorem kit_cls {K : PySem.W.Frag} {C D : Addr} {b : Bool} (h1 : PySem.W.isClsIn K D = true) (h2 : PySem.W.typeIn K (.ref D) = some (.type "type")) (h3 : PySem.W.subIn K (.ref C) (.ref D) = some b) : PySem.W.kitCls K (.ref C) (.ref D) = some b := by
  have e : ((PySem.W.clsIn K D).isSome && PySem.W.typeIn K (.ref D) == some (.type "type")) = true := by
    have h1' : (PySem.W.clsIn K D).isSome = true := h1
    rw [h1', h2]
    rfl
  show (if ((PySem.W.clsIn K D).isSome && PySem.W.typeIn K (.ref D) == some (.type "type")) = true then PySem.W.subIn K (.ref C) (.ref D) else none) = some b
  rw [if_pos e]
  exact h3
theorem kit_true {K : PySem.W.Frag} {C D : Addr} (h1 : PySem.W.isClsIn K D = true) (h2 : PySem.W.typeIn K (.ref D) = some (.type "type")) (h3 : PySem.W.subIn K (.ref C) (.ref D) = some true) : PySem.W.kitOne K (.ref C) (.ref D) = some true := by
  unfold PySem.W.kitOne
  split
  · rfl
  · exact kit_cls h1 h2 h3
theorem kit_false {K : PySem.W.Frag} {C D : Addr} (h1 : PySem.W.isClsIn K D = true) (h2 : PySem.W.typeIn K (.ref D) = some (.type "type")) (h3 : PySem.W.subIn K (.ref C) (.ref D) = some false) (h4 : PySem.W.subIn K (.ref C) (.ref C) = some true) : PySem.W.kitOne K (.ref C) (.ref D) = some false := by
  unfold PySem.W.kitOne
  split
  · rename_i e
    have e' : Value.ref C = Value.ref D := eq_of_beq e
    rw [← e', h4] at h3
    cases h3
  · exact kit_cls h1 h2 h3
end Rt

/-! Further evaluations over HandS.Evl, and rows of cards in plain Lean. -/
namespace Rt
open PySem PySem.Spec PyProof.Rows L2 Evl
/-! ### values -/
def vN (n : Nat) : V := .int (n : Int)
def vNs (l : List Nat) : List V := l.map vN
theorem vNs_len (l : List Nat) : (vNs l).length = l.length := List.length_map ..
theorem vNs_app (l m : List Nat) : vNs (l ++ m) = vNs l ++ vNs m := List.map_append ..
theorem vNs_get {l : List Nat} {i n : Nat} (h : l[i]? = some n) : (vNs l)[i]? = some (vN n) := by
  unfold vNs
  rw [List.getElem?_map, h]
  rfl
theorem vNs_at {l : List Nat} {i n : Nat} (h : l[i]? = some n) : atI (vNs l) (i : Int) = some (vN n) := atI_nat (vNs_get h)
theorem getD_some {l : List Nat} {i : Nat} (h : i < l.length) : l[i]? = some (l.getD i 0) := by
  rw [List.getD_eq_getElem?_getD, List.getElem?_eq_getElem h]
  rfl
theorem mem_getD {l : List Nat} {i : Nat} (h : i < l.length) : l.getD i 0 ∈ l := List.mem_of_getElem? (getD_some h)
section
variable {K : PySem.W.Frag} {σ : L2.St} {H H' : Hp} {ta tb tc te : TE} {x y z v : V}
theorem tyx_l {a : Addr} {xs : List V} (h : SqL K H a xs) : TyX K H (.ref a) (.type "list") := by
  rcases h with (h | ⟨o, h⟩) | ⟨o, its, n, hk, hc, _⟩
  · exact .base (.lst h)
  · exact .base (.frz h)
  · exact .kList hk hc
/-- isinstance(x, c) -/
theorem ev_isi {c : V} {t u : Value} {b : Bool} (h : Ev ta σ H x) (hc : ClsV c u) (ty : ∀ H1, Ex H H1 → TyX K H1 x t) (hk : PySem.W.kitOne K t u = some b) :
    Ev (tCB (rIsi K) (tCons ta (tCons (tC c) tNil))) σ H (.bl b) := fun H1 e Q q =>
  h H1 e _ fun H2 e2 => ⟨x, c, t, u, b, rfl, hc, ty H2 (e.trans e2), hk, q H2 e2⟩
theorem ev_isiB {n m : String} {b : Bool} (h : Ev ta σ H x) (ty : ∀ H1, Ex H H1 → TyX K H1 x (.type n)) (hk : kitB n m = some b) :
    Ev (tCB (rIsi K) (tCons ta (tCons (tC (.ty m)) tNil))) σ H (.bl b) := ev_isi h (.ty m) ty (kit_ty hk)
theorem tyx_int (i : Int) : TyX K H (.int i) (.type "int") := .base (.int i)
theorem tyx_bl (b : Bool) : TyX K H (.bl b) (.type "bool") := .base (.bl b)
/-- a < b < c -/
theorem ev_chain {r r' : R2} {k b : Bool} (ha : Ev ta σ H x) (hb : Ev tb σ H y) (hr : RV r x y H (.bl k)) (hc : k = true → Ev tc σ H z) (hr' : k = true → RV r' y z H (.bl b)) :
    Ev (tChain r r' ta tb tc) σ H (.bl (k && b)) := fun H1 e Q q =>
  ha H1 e _ fun H2 e2 => hb H2 (e.trans e2) _ fun H3 e3 => hr H3 ((e.trans e2).trans e3) _ fun H4 e4 => ⟨k, rfl, by
    cases k with
    | true =>
      show tc σ H4 _
      exact hc rfl H4 (((e.trans e2).trans e3).trans e4) _ fun H5 e5 => hr' rfl H5 ((((e.trans e2).trans e3).trans e4).trans e5) Q fun H6 e6 => q H6 ((((e2.trans e3).trans e4).trans e5).trans e6)
    | false =>
      show Q (.bl false) H4
      exact q H4 ((e2.trans e3).trans e4)⟩
theorem rv_lt {i j : Int} : RV (rI0 fun i j => .bl (decide (i < j))) (.int i) (.int j) H (.bl (decide (i < j))) := rv_I0
theorem ev_to {w : V} (h : Ev te σ H v) (e : v = w) : Ev te σ H w := e ▸ h
theorem evT_to {t : TT} {a b : Bool} (h : EvT t σ H a) (e : a = b) : EvT t σ H b := e ▸ h
theorem ev_lenT {p : Addr} {xs : List V} (ha : Ev ta σ H (.ref p)) (h : SqT K H p xs) : Ev (tCB (rLenS K) (tCons ta tNil)) σ H (.int (xs.length : Int)) := fun H1 e Q q =>
  ha H1 e _ fun H2 e2 => ⟨p, xs, rfl, Or.inr (ex_t (e.trans e2) h), q H2 e2⟩
/-- (a, b, ..)[i] -/
theorem ev_ixU {xs : List V} {i : Int} (ha : EvU ta σ H xs) (hb : Ev tb σ H (.int i)) (hv : atI xs i = some v) : Ev (tOp (rIxT K) ta tb) σ H v := fun H1 e Q q =>
  ha H1 e _ fun p H2 _ e2 hp => hb H2 (e.trans e2) _ fun H3 e3 => ⟨p, xs, i, v, rfl, rfl, st_of (e3 p _ hp), hv, q H3 (e2.trans e3)⟩
/-- f(..)[i], f(..) a new list -/
theorem ev_ixN {xs : List V} {i : Int} (ha : EvL ta σ H xs) (hb : Ev tb σ H (.int i)) (hv : atI xs i = some v) : Ev (tOp (rIxL K) ta tb) σ H v := fun H1 e Q q =>
  ha H1 e _ fun p H2 _ e2 hp => hb H2 (e.trans e2) _ fun H3 e3 => ⟨p, xs, i, v, rfl, rfl, sq_of (e3 p _ hp), hv, q H3 (e2.trans e3)⟩
def rMin2 : List V → Hp → VK → Prop := fun xs H Q => ∃ i j, xs = [.int i, .int j] ∧ Q (.int (if j < i then j else i)) H
theorem ev_min2 {i j : Int} (ha : Ev ta σ H (.int i)) (hb : Ev tb σ H (.int j)) : Ev (tCB rMin2 (tCons ta (tCons tb tNil))) σ H (.int (if j < i then j else i)) := fun H1 e Q q =>
  ha H1 e _ fun H2 e2 => hb H2 (e.trans e2) _ fun H3 e3 => ⟨i, j, rfl, q H3 (e2.trans e3)⟩
/-- all(..) of a new list of truths -/
theorem ev_allN {bs : List Bool} (ha : EvL ta σ H (bs.map V.bl)) : Ev (tCB (rAll K) (tCons ta tNil)) σ H (.bl (bs.all id)) := fun H1 e Q q =>
  ha H1 e _ fun p H2 _ e2 hp => ⟨p, bs, rfl, sq_of hp, q H2 e2⟩
/-- the same data, unlike or not -/
theorem rv_neD {d d' : PyData} (h1 : ∀ H1, Ex H H1 → Dp K H1 x d) (h2 : ∀ H1, Ex H H1 → Dp K H1 y d') (s1 : SeqAt.shaped d = true) (s2 : SeqAt.shaped d' = true) : RV (rNeD K) x y H (.bl (!PyData.eqv d d')) :=
  fun H1 e _ q => ⟨d, d', h1 H1 e, h2 H1 e, s1, s2, q H1 (Ex.refl H1)⟩
theorem rv_eqD {d d' : PyData} (h1 : ∀ H1, Ex H H1 → Dp K H1 x d) (h2 : ∀ H1, Ex H H1 → Dp K H1 y d') (s1 : SeqAt.shaped d = true) (s2 : SeqAt.shaped d' = true) : RV (rEqD K) x y H (.bl (PyData.eqv d d')) :=
  fun H1 e _ q => ⟨d, d', h1 H1 e, h2 H1 e, s1, s2, q H1 (Ex.refl H1)⟩
end
/-! ### lists of numbers as data -/
def pdN (l : List Nat) : PyData := .list (l.map fun n : Nat => PyData.int (n : Int))
theorem dpAll_N {K : PySem.W.Frag} {H : Hp} : ∀ l : List Nat, DpAll K H (vNs l) (l.map fun n : Nat => PyData.int (n : Int))
  | [] => .nil
  | n :: r => .cons (.int _) (dpAll_N r)
theorem dp_N {K : PySem.W.Frag} {H : Hp} {a : Addr} {l : List Nat} (h : SqL K H a (vNs l)) : Dp K H (.ref a) (pdN l) := .lst h (dpAll_N l)
end Rt
namespace Rt
open PySem PySem.Spec PyProof.Rows L2 Evl
/-! ### comprehensions by their elements -/
theorem given_all (n : Nat) (v : Nat → V) : given n (fun _ => true) v = (List.range n).map v := by
  unfold given
  rw [List.filter_eq_self.mpr fun _ _ => rfl]
theorem range_getD (xs : List V) : (List.range xs.length).map (fun i => xs.getD i .non) = xs := by
  refine List.ext_getElem (by simp) fun i h1 h2 => ?_
  simp [List.getD_eq_getElem?_getD, List.getElem?_eq_getElem h2]
theorem given_of (xs : List V) (f : V → Bool) (g : V → V) : given xs.length (fun i => f (xs.getD i .non)) (fun i => g (xs.getD i .non)) = (xs.filter f).map g := by
  unfold given
  have e : (xs.filter f).map g = (((List.range xs.length).map (fun i => xs.getD i .non)).filter f).map g := by rw [range_getD]
  rw [e, List.filter_map, List.map_map]
  rfl
theorem getD_of {xs : List V} {i : Nat} {x : V} (h : xs[i]? = some x) : xs.getD i .non = x := by
  rw [List.getD_eq_getElem?_getD, h]
  rfl
section
variable {K : PySem.W.Frag} {σ : L2.St} {H H' : Hp} {ta tb tc te : TE} {x y z v : V} {t : TT}
theorem et_yes : EvT tYes σ H true := fun H1 _ _ q => q H1 (Ex.refl H1)
theorem el_to {xs ys : List V} (h : EvL te σ H xs) (e : xs = ys) : EvL te σ H ys := e ▸ h
/-- [e for x in xs] -/
theorem el_mapL {a : Addr} {xs : List V} {tl : TE} {j : Nat} {vs : List Nat} (g : V → V) (h : Ev tl σ H (.ref a)) (hx : SqL K H a xs) (hz : xs.length ≤ 40000)
    (he : ∀ x ∈ xs, ∀ H1, Ex H H1 → Ev te ((wipe σ vs).set j (some x)) H1 (g x)) (hw : ∀ x, wipe ((wipe σ vs).set j (some x)) vs = wipe σ vs := by intro _; rfl) :
    EvL (tLc (iList K tl) (gName j) tYes te vs) σ H (xs.map g) := by
  have e := given_of xs (fun _ => true) g
  rw [List.filter_eq_self.mpr fun _ _ => rfl] at e
  refine el_to (el_lcL (fun _ => true) (fun i => g (xs.getD i .non)) h hx hz hw (fun _ _ _ _ _ => et_yes) ?_) e
  intro i x H1 e1 hi _
  show Ev te _ H1 (g (xs.getD i .non))
  rw [getD_of hi]
  exact he x (List.mem_of_getElem? hi) H1 e1
/-- [e for x in xs if c] -/
theorem el_filtL {a : Addr} {xs : List V} {tl : TE} {j : Nat} {vs : List Nat} (f : V → Bool) (g : V → V) (h : Ev tl σ H (.ref a)) (hx : SqL K H a xs) (hz : xs.length ≤ 40000)
    (ht : ∀ x ∈ xs, ∀ H1, Ex H H1 → EvT t ((wipe σ vs).set j (some x)) H1 (f x))
    (he : ∀ x ∈ xs, ∀ H1, Ex H H1 → f x = true → Ev te ((wipe σ vs).set j (some x)) H1 (g x)) (hw : ∀ x, wipe ((wipe σ vs).set j (some x)) vs = wipe σ vs := by intro _; rfl) :
    EvL (tLc (iList K tl) (gName j) t te vs) σ H ((xs.filter f).map g) := by
  refine el_to (el_lcL (fun i => f (xs.getD i .non)) (fun i => g (xs.getD i .non)) h hx hz hw ?_ ?_) (given_of xs f g)
  · intro i x H1 e1 hi
    show EvT t _ H1 (f (xs.getD i .non))
    rw [getD_of hi]
    exact ht x (List.mem_of_getElem? hi) H1 e1
  · intro i x H1 e1 hi
    show f (xs.getD i .non) = true → Ev te _ H1 (g (xs.getD i .non))
    rw [getD_of hi]
    exact he x (List.mem_of_getElem? hi) H1 e1
/-- the same over a new list -/
theorem el_filtN {xs : List V} {tl : TE} {j : Nat} {vs : List Nat} (f : V → Bool) (g : V → V) (h : EvL tl σ H xs) (hz : xs.length ≤ 40000)
    (ht : ∀ x ∈ xs, ∀ H1, Ex H H1 → EvT t ((wipe σ vs).set j (some x)) H1 (f x))
    (he : ∀ x ∈ xs, ∀ H1, Ex H H1 → f x = true → Ev te ((wipe σ vs).set j (some x)) H1 (g x)) (hw : ∀ x, wipe ((wipe σ vs).set j (some x)) vs = wipe σ vs := by intro _; rfl) :
    EvL (tLc (iList K tl) (gName j) t te vs) σ H ((xs.filter f).map g) := by
  refine el_to (el_lcNL (fun i => f (xs.getD i .non)) (fun i => g (xs.getD i .non)) h hz hw ?_ ?_) (given_of xs f g)
  · intro i x H1 e1 hi
    show EvT t _ H1 (f (xs.getD i .non))
    rw [getD_of hi]
    exact ht x (List.mem_of_getElem? hi) H1 e1
  · intro i x H1 e1 hi
    show f (xs.getD i .non) = true → Ev te _ H1 (g (xs.getD i .non))
    rw [getD_of hi]
    exact he x (List.mem_of_getElem? hi) H1 e1
/-- [e for i in range(n)] -/
theorem el_mapR {ta : TA} {j : Nat} {vs : List Nat} {n : Nat} (g : Nat → V) (h : EvA ta σ H [vN n]) (hn : n ≤ 40000)
    (he : ∀ i, i < n → ∀ H1, Ex H H1 → Ev te ((wipe σ vs).set j (some (vN i))) H1 (g i)) (hw : ∀ x, wipe ((wipe σ vs).set j (some x)) vs = wipe σ vs := by intro _; rfl) :
    EvL (tLc (iRng1 ta) (gName j) tYes te vs) σ H ((List.range n).map g) := by
  have e := given_all ((n : Int).toNat) g
  rw [Int.toNat_natCast] at e
  refine el_to (el_lcR1 (n := (n : Int)) (fun _ => true) g h ⟨by omega, by omega⟩ hw (fun _ _ _ _ => et_yes) ?_) e
  intro i H1 e1 hi _
  exact he i (by omega) H1 e1
end
end Rt
namespace Rt
open PySem PySem.Spec PyProof.Rows L2 Evl
section
variable {K : PySem.W.Frag} {σ : L2.St} {H : Hp} {te : TE} {x y : V} {D : Ends} {tz : TS}
/-- a, b = (x, y), the pair made and taken apart -/
theorem q_asgT2 {i j : Nat} (h : EvU te σ H [x, y]) (k : ∀ H1, Ex H H1 → tz D ((σ.set i (some x)).set j (some y)) H1) : tSeq (tAsg te (gTup K 2 (gCons (gName i) (gCons (gName j) gNil)))) tz D σ H :=
  h H (Ex.refl H) _ fun p H1 _ e hp => ⟨p, [x, y], rfl, st_of hp, rfl, x, [y], rfl, y, [], rfl, rfl, k H1 e⟩
/-- a, b = x, y, two locals -/
theorem q_par {i j : Nat} {ta : TA} (h : EvA ta σ H [x, y]) (k : ∀ H1, Ex H H1 → tz D ((σ.set i (some x)).set j (some y)) H1) : tSeq (tPar i j ta) tz D σ H :=
  h H (Ex.refl H) _ fun H1 e => ⟨x, y, rfl, k H1 e⟩
theorem s_par {i j : Nat} {ta : TA} (h : EvA ta σ H [x, y]) (k : ∀ H1, Ex H H1 → D.nx ((σ.set i (some x)).set j (some y)) H1) : tPar i j ta D σ H :=
  h H (Ex.refl H) _ fun H1 e => ⟨x, y, rfl, k H1 e⟩
end
end Rt

/-! Ways along a row: plain Lean. -/
namespace Rt
structure RowOk (row : List Nat) : Prop where
  l1 : 1 ≤ row.length
  l60 : row.length ≤ 60
  c1 : ∀ c ∈ row, 1 ≤ c
  c20 : ∀ c ∈ row, c ≤ 20
def wayF (row : List Nat) : Nat → Nat → List Nat
  | 0, p => [p]
  | f + 1, p => if p + row.getD p 0 < row.length then p :: wayF row f (p + row.getD p 0) else [p]
theorem wayF_succ (row : List Nat) (f p : Nat) : wayF row (f + 1) p = if p + row.getD p 0 < row.length then p :: wayF row f (p + row.getD p 0) else [p] := rfl
def way (row : List Nat) (p : Nat) : List Nat := wayF row row.length p
theorem wayF_same {row : List Nat} (hc : ∀ c ∈ row, 1 ≤ c) : ∀ (f g p : Nat), p < row.length → row.length - p ≤ f → row.length - p ≤ g → wayF row f p = wayF row g p
  | 0, _, p, hp, h1, _ => by omega
  | _ + 1, 0, p, hp, _, h2 => by omega
  | f + 1, g + 1, p, hp, h1, h2 => by
    unfold wayF
    by_cases h : p + row.getD p 0 < row.length
    · have h3 : 1 ≤ row.getD p 0 := hc _ (List.mem_of_getElem? (by rw [List.getD_eq_getElem?_getD, List.getElem?_eq_getElem hp]; rfl))
      rw [if_pos h, if_pos h, wayF_same hc f g _ h (by omega) (by omega)]
    · rw [if_neg h, if_neg h]
theorem way_eq {row : List Nat} (hc : ∀ c ∈ row, 1 ≤ c) {p : Nat} (hp : p < row.length) : way row p = if p + row.getD p 0 < row.length then p :: way row (p + row.getD p 0) else [p] := by
  unfold way
  obtain ⟨n, hn⟩ : ∃ n, row.length = n + 1 := ⟨row.length - 1, by omega⟩
  by_cases h : p + row.getD p 0 < row.length
  · have h3 : 1 ≤ row.getD p 0 := hc _ (List.mem_of_getElem? (by rw [List.getD_eq_getElem?_getD, List.getElem?_eq_getElem hp]; rfl))
    rw [if_pos h, wayF_same hc row.length (n + 1) p hp (by omega) (by omega), wayF_succ, if_pos h, wayF_same hc n row.length _ h (by omega) (by omega)]
  · rw [if_neg h, wayF_same hc row.length (n + 1) p hp (by omega) (by omega), wayF_succ, if_neg h]
theorem way_go {row : List Nat} (hc : ∀ c ∈ row, 1 ≤ c) {p : Nat} (hp : p < row.length) (h : p + row.getD p 0 < row.length) : way row p = p :: way row (p + row.getD p 0) := by
  rw [way_eq hc hp, if_pos h]
theorem way_end {row : List Nat} (hc : ∀ c ∈ row, 1 ≤ c) {p : Nat} (hp : p < row.length) (h : ¬ p + row.getD p 0 < row.length) : way row p = [p] := by
  rw [way_eq hc hp, if_neg h]
theorem wayF_len (row : List Nat) : ∀ f p, (wayF row f p).length ≤ f + 1
  | 0, _ => Nat.le_refl _
  | f + 1, p => by
    unfold wayF
    split
    · have := wayF_len row f (p + row.getD p 0)
      rw [List.length_cons]
      omega
    · rw [List.length_singleton]
      omega
theorem way_len (row : List Nat) (p : Nat) : (way row p).length ≤ row.length + 1 := wayF_len row _ p
theorem wayF_ne (row : List Nat) : ∀ f p, wayF row f p ≠ []
  | 0, _ => by unfold wayF; simp
  | f + 1, p => by
    unfold wayF
    split <;> simp
theorem way_ne (row : List Nat) (p : Nat) : way row p ≠ [] := wayF_ne row _ p
def lastOf (row : List Nat) (p : Nat) : Nat := (way row p).getLast (way_ne row p)
theorem way_split (row : List Nat) (p : Nat) : way row p = (way row p).dropLast ++ [lastOf row p] := (List.dropLast_concat_getLast (way_ne row p)).symm
/-- every place of a way is a place of the row -/
theorem wayF_lt {row : List Nat} : ∀ f p, p < row.length → ∀ q ∈ wayF row f p, q < row.length
  | 0, p, hp, q, hq => by
    unfold wayF at hq
    rw [List.mem_singleton.mp hq]
    exact hp
  | f + 1, p, hp, q, hq => by
    unfold wayF at hq
    split at hq
    · rename_i h
      rcases List.mem_cons.mp hq with e | e
      · rw [e]
        exact hp
      · exact wayF_lt f _ h q e
    · rw [List.mem_singleton.mp hq]
      exact hp
theorem way_lt {row : List Nat} {p : Nat} (hp : p < row.length) : ∀ q ∈ way row p, q < row.length := wayF_lt _ p hp
theorem lastOf_lt {row : List Nat} {p : Nat} (hp : p < row.length) : lastOf row p < row.length := way_lt hp _ (List.getLast_mem _)
end Rt

/-! The law's own draws, in plain Lean. -/
namespace Rt
open PySem
def cellAt (ns : List Int) (k : Nat) : Int := ns.getD k 0
def primesL : List Int := [1000003, 1000033, 1000037, 1000039, 1000081, 1000099, 1000117, 1000121, 1000133, 1000151, 1000159, 1000171, 1000183, 1000187, 1000193, 1000199]
def sevens : List Int := [1, 7, 49, 343, 2401]
def drawV (c : Int) (k : Nat) (m : Int) : Int := (c * 48271 + (k : Int) * 69621) % (primesL.getD (k % 16) 1) % m
def numV (c : Int) (k : Nat) (m : Int) : Int :=
  if 10 ^ 18 ≤ c then (c - 10 ^ 18) / (sevens.getD (k % 5) 1) % m else drawV ((c + 977 * (k : Int)) * (c + 31 * (k : Int) + 5)) (k % 9 + 1) 999983 % m
def numN (c : Int) (k : Nat) (m : Nat) : Nat := (numV c k (m : Int)).toNat
theorem numV_pos {c : Int} {k : Nat} {m : Int} (h : 0 < m) : 0 ≤ numV c k m := by
  unfold numV
  split <;> exact Int.emod_nonneg _ (by omega)
theorem numV_lt {c : Int} {k : Nat} {m : Int} (h : 0 < m) : numV c k m < m := by
  unfold numV
  split <;> exact Int.emod_lt_of_pos _ h
theorem numN_is {c : Int} {k m : Nat} (h : 0 < m) : ((numN c k m : Nat) : Int) = numV c k (m : Int) := Int.toNat_of_nonneg (numV_pos (by omega))
theorem numN_lt {c : Int} {k m : Nat} (h : 0 < m) : numN c k m < m := by
  have h1 := numN_is (c := c) (k := k) h
  have h2 := numV_lt (c := c) (k := k) (m := (m : Int)) (by omega)
  omega
def wides : List Nat := [1, 3, 6, 20]
def wideN (ns : List Int) (b : Nat) : Nat := wides.getD (numN (cellAt ns b) (b + 2) 4) 1
def manyN (ns : List Int) (b m : Nat) : Nat := 1 + numN (cellAt ns b) (b + 1) m
def cardN (ns : List Int) (b k : Nat) : Nat := 1 + numN (cellAt ns (b + k) + 31 * (k : Int)) (k + b) (wideN ns b)
def rowV (ns : List Int) (b m : Nat) : List Nat := (List.range (manyN ns b m)).map (cardN ns b)
theorem wides_ok : ∀ i, i < 4 → 1 ≤ wides.getD i 1 ∧ wides.getD i 1 ≤ 20 := by decide
theorem wideN_ok (ns : List Int) (b : Nat) : 1 ≤ wideN ns b ∧ wideN ns b ≤ 20 := wides_ok _ (numN_lt (by decide))
theorem rowV_len (ns : List Int) (b m : Nat) : (rowV ns b m).length = manyN ns b m := by
  unfold rowV
  rw [List.length_map, List.length_range]
theorem manyN_le {ns : List Int} {b m : Nat} (h : 1 ≤ m) : 1 ≤ manyN ns b m ∧ manyN ns b m ≤ m := by
  have := numN_lt (c := cellAt ns b) (k := b + 1) (m := m) h
  unfold manyN
  omega
theorem rowV_ok {ns : List Int} {b m : Nat} (h1 : 1 ≤ m) (h2 : m ≤ 60) : RowOk (rowV ns b m) := by
  have hm := manyN_le (ns := ns) (b := b) h1
  have hw := wideN_ok ns b
  refine ⟨by rw [rowV_len]; exact hm.1, by rw [rowV_len]; omega, fun c hc => ?_, fun c hc => ?_⟩
  · obtain ⟨k, _, rfl⟩ := List.mem_map.mp hc
    unfold cardN
    omega
  · obtain ⟨k, _, rfl⟩ := List.mem_map.mp hc
    have := numN_lt (c := cellAt ns (b + k) + 31 * (k : Int)) (k := k + b) (m := wideN ns b) hw.1
    unfold cardN
    omega
/-- the script's cells have so many bits -/
def BitsOk (ns : List Int) : Prop := ∀ z ∈ ns, Builtin.Int.intBits z ≤ 1048576
theorem cell_bits {ns : List Int} (h : BitsOk ns) (k : Nat) : Builtin.Int.intBits (cellAt ns k) ≤ 1048576 := by
  unfold cellAt
  rw [List.getD_eq_getElem?_getD]
  cases e : ns[k]? with
  | none => exact Nat.zero_le _
  | some z => exact h z (List.mem_of_getElem? e)
theorem small_bits {i : Int} (h0 : -1000000 ≤ i) (h1 : i ≤ 1000000) : Builtin.Int.intBits i ≤ 20 := bits_of_lt (show i.natAbs < 1048576 by omega)
end Rt

/-! Evaluations to data: what is told lies in new objects. -/
namespace Rt
open PySem PySem.Spec PyProof.Rows L2 Evl
mutual
theorem Dp.ex {K : PySem.W.Frag} {H H' : Hp} (e : Ex H H') : ∀ {v : V} {d : PyData}, Dp K H v d → Dp K H' v d
  | _, _, .non => .non
  | _, _, .bl b => .bl b
  | _, _, .int i => .int i
  | _, _, .str x => .str x
  | _, _, .lst h r => .lst (ex_l e h) (DpAll.ex e r)
  | _, _, .tup h r => .tup (ex_t e h) (DpAll.ex e r)
theorem DpAll.ex {K : PySem.W.Frag} {H H' : Hp} (e : Ex H H') : ∀ {vs : List V} {ds : List PyData}, DpAll K H vs ds → DpAll K H' vs ds
  | _, _, .nil => .nil
  | _, _, .cons h r => .cons (Dp.ex e h) (DpAll.ex e r)
end
/-- what is new in H2 beside H1 -/
def New (H1 H2 : Hp) : Hp := fun b => if (H1 b).isSome = true then none else H2 b
theorem new_old {H1 H2 : Hp} {b : Addr} {o : HO} (h : H1 b = some o) : New H1 H2 b = none := by
  unfold New
  rw [h]
  rfl
theorem new_at {H1 H2 : Hp} {b : Addr} (h : H1 b = none) : New H1 H2 b = H2 b := by
  unfold New
  rw [h]
  rfl
theorem new_ex (H1 H2 : Hp) : Ex (New H1 H2) H2 := fun b o h => by
  cases q : H1 b with
  | none => rw [new_at q] at h; exact h
  | some u => rw [new_old q] at h; cases h
theorem new_mono {H1 H2 H3 H4 : Hp} (a : Ex H1 H2) (b : Ex H3 H4) : Ex (New H2 H3) (New H1 H4) := fun c o h => by
  cases q : H2 c with
  | some u => rw [new_old q] at h; cases h
  | none =>
    rw [new_at q] at h
    rw [new_at (fresh_back a q)]
    exact b c o h
/-- what stands in a part stays though another object is changed -/
theorem ex_upd {Hs H : Hp} {l : Addr} {o : HO} (e : Ex Hs H) (h : Hs l = none) : Ex Hs (upd H l o) := Ex.mut e h
def EvN (K : PySem.W.Frag) (te : TE) (σ : L2.St) (H : Hp) (d : PyData) : Prop := ∀ H1, Ex H H1 → ∀ Q : VK, (∀ v H2, Ex H1 H2 → Dp K (New H1 H2) v d → Q v H2) → te σ H1 Q
def EvD (K : PySem.W.Frag) (te : TE) (σ : L2.St) (H : Hp) (d : PyData) : Prop := ∀ H1, Ex H H1 → ∀ Q : VK, (∀ v H2, Ex H1 H2 → Dp K H2 v d → Q v H2) → te σ H1 Q
def EvNA (K : PySem.W.Frag) (ta : TA) (σ : L2.St) (H : Hp) (ds : List PyData) : Prop := ∀ H1, Ex H H1 → ∀ Q : List V → Hp → Prop, (∀ vs H2, Ex H1 H2 → DpAll K (New H1 H2) vs ds → Q vs H2) → ta σ H1 Q
section
variable {K : PySem.W.Frag} {σ : L2.St} {H H' : Hp} {ta tb tc te : TE} {x y z v : V} {d d' : PyData} {ds : List PyData}
theorem EvN.mono (e : Ex H H') (h : EvN K te σ H d) : EvN K te σ H' d := fun H1 a Q q => h H1 (e.trans a) Q q
theorem EvD.mono (e : Ex H H') (h : EvD K te σ H d) : EvD K te σ H' d := fun H1 a Q q => h H1 (e.trans a) Q q
theorem EvN.toD (h : EvN K te σ H d) : EvD K te σ H d := fun H1 e Q q => h H1 e Q fun v H2 e2 hd => q v H2 e2 (Dp.ex (new_ex H1 H2) hd)
theorem ed_var {i : Nat} (h : σ[i]? = some (some v)) (hd : Dp K H v d) : EvD K (tVar i) σ H d := fun H1 e _ q => ⟨v, h, q v H1 (Ex.refl H1) (Dp.ex e hd)⟩
theorem en_of (h : Ev te σ H v) (hd : ∀ H1, Dp K H1 v d) : EvN K te σ H d := fun H1 e Q q => h H1 e Q fun H2 e2 => q v H2 e2 (hd _)
theorem en_int {i : Int} (h : Ev te σ H (.int i)) : EvN K te σ H (.int i) := en_of h fun _ => .int i
theorem en_N {n : Nat} (h : Ev te σ H (vN n)) : EvN K te σ H (.int (n : Int)) := en_of h fun _ => .int _
theorem en_bl {b : Bool} (h : Ev te σ H (.bl b)) : EvN K te σ H (.bool b) := en_of h fun _ => .bl b
theorem en_non (h : Ev te σ H .non) : EvN K te σ H .none := en_of h fun _ => .non
theorem en_l {xs : List V} (h : EvL te σ H xs) (hd : ∀ H1, DpAll K H1 xs ds) : EvN K te σ H (.list ds) := fun H1 e Q q =>
  h H1 e Q fun p H2 np e2 hp => q (.ref p) H2 e2 (.lst (sq_of (by rw [new_at np]; exact hp)) (hd _))
theorem en_Ns {l : List Nat} (h : EvL te σ H (vNs l)) : EvN K te σ H (pdN l) := en_l h fun _ => dpAll_N l
theorem ena_nil : EvNA K tNil σ H [] := fun H1 _ _ q => q [] H1 (Ex.refl H1) .nil
theorem ena_cons {tr : TA} (h : EvN K te σ H d) (hr : EvNA K tr σ H ds) : EvNA K (tCons te tr) σ H (d :: ds) := fun H1 e Q q =>
  h H1 e _ fun v H2 e2 hv => hr H2 (e.trans e2) _ fun vs H3 e3 hvs => q (v :: vs) H3 (e2.trans e3) (.cons (Dp.ex (new_mono (Ex.refl H1) e3) hv) (DpAll.ex (new_mono e2 (Ex.refl H3)) hvs))
theorem dpAll_len : ∀ {vs : List V} {ds : List PyData}, DpAll K H vs ds → vs.length = ds.length
  | _, _, .nil => rfl
  | _, _, .cons _ r => by rw [List.length_cons, List.length_cons, dpAll_len r]
theorem en_lst {ta : TA} (h : EvNA K ta σ H ds) (hl : ds.length ≤ 100000) : EvN K (tLst ta) σ H (.list ds) := fun H1 e Q q =>
  h H1 e _ fun vs H2 e2 hv => ⟨sz_of (by rw [dpAll_len hv]; exact hl), fun p hp => q (.ref p) _ (e2.trans (Ex.new hp)) (.lst (sq_of (by rw [new_at (fresh_back e2 hp)]; exact upd_same)) (DpAll.ex (new_mono (Ex.refl H1) (Ex.new hp)) hv))⟩
theorem en_tup {ta : TA} (h : EvNA K ta σ H ds) (hl : ds.length ≤ 100000) : EvN K (tTup ta) σ H (.tuple ds) := fun H1 e Q q =>
  h H1 e _ fun vs H2 e2 hv => ⟨sz_of (by rw [dpAll_len hv]; exact hl), fun p hp => q (.ref p) _ (e2.trans (Ex.new hp)) (.tup (st_of (by rw [new_at (fresh_back e2 hp)]; exact upd_same)) (DpAll.ex (new_mono (Ex.refl H1) (Ex.new hp)) hv))⟩
theorem en_to (h : EvN K te σ H d) (e : d = d') : EvN K te σ H d' := e ▸ h
theorem ed_to (h : EvD K te σ H d) (e : d = d') : EvD K te σ H d' := e ▸ h
theorem ev_eqD (h1 : EvD K ta σ H d) (h2 : EvD K tb σ H d') (s1 : SeqAt.shaped d = true) (s2 : SeqAt.shaped d' = true) : Ev (tOp (rEqD K) ta tb) σ H (.bl (PyData.eqv d d')) := fun H1 e Q q =>
  h1 H1 e _ fun v H2 e2 hv => h2 H2 (e.trans e2) _ fun u H3 e3 hu => ⟨d, d', Dp.ex e3 hv, hu, s1, s2, q H3 (e2.trans e3)⟩
theorem ev_neD (h1 : EvD K ta σ H d) (h2 : EvD K tb σ H d') (s1 : SeqAt.shaped d = true) (s2 : SeqAt.shaped d' = true) : Ev (tOp (rNeD K) ta tb) σ H (.bl (!PyData.eqv d d')) := fun H1 e Q q =>
  h1 H1 e _ fun v H2 e2 hv => h2 H2 (e.trans e2) _ fun u H3 e3 hu => ⟨d, d', Dp.ex e3 hv, hu, s1, s2, q H3 (e2.trans e3)⟩
/-- str(..) of a list or a tuple -/
structure Good (d : PyData) : Prop where
  lay : d.canLay0 = true
  dep : d.depth ≤ 60
  shw : d.showable = true
  lvs : d.leavesShort 13 = true
  wgt : d.weight ≤ 2 ^ 20
theorem Good.shaped (g : Good d) : SeqAt.shaped d = true := by
  unfold SeqAt.shaped
  rw [g.lay, decide_eq_true (show d.depth ≤ 64 from Nat.le_trans g.dep (by decide))]
  rfl
theorem Good.refl (g : Good d) : PyData.eqv d d = true := SeqAt.eqv_refl d g.lay
theorem ev_strD (h : EvD K ta σ H d) (hs : (∃ ds, d = .list ds) ∨ ∃ ds, d = .tuple ds) (g : Good d) : Ev (tCB (rStrD K) (tCons ta tNil)) σ H (.str d.shown) := fun H1 e Q q =>
  h H1 e _ fun v H2 e2 hv => by
    have hd : d.hasDict = false := PyData.hasDict_of_canLay d g.lay
    have hz := PyData.shown_fits (by decide) (by decide) g.lvs g.wgt
    obtain ⟨a, rfl⟩ : ∃ a, v = .ref a := by
      rcases hs with ⟨ds, rfl⟩ | ⟨ds, rfl⟩ <;> (cases hv; exact ⟨_, rfl⟩)
    exact ⟨a, d, rfl, hv, g.shw, hd, g.dep, hz, q H2 e2⟩
variable {D : Ends} {tz : TS}
/-- name = data -/
theorem q_asgN {i : Nat} (h : EvN K te σ H d) (k : ∀ v H1, Ex H H1 → Dp K (New H H1) v d → tz D (σ.set i (some v)) H1) : tSeq (tAsg te (gName i)) tz D σ H := h H (Ex.refl H) _ fun v H1 e hv => k v H1 e hv
theorem q_parLV {i j : Nat} {xs : List V} (h1 : EvL ta σ H xs) (h2 : Ev tb σ H y) (k : ∀ p H1, H p = none → Ex H H1 → H1 p = some (.lst xs) → tz D ((σ.set i (some (.ref p))).set j (some y)) H1) :
    tSeq (tPar i j (tCons ta (tCons tb tNil))) tz D σ H :=
  h1 H (Ex.refl H) _ fun p H1 np e1 hp => h2 H1 e1 _ fun H2 e2 => ⟨.ref p, y, rfl, k p H2 np (e1.trans e2) (e2 p _ hp)⟩
/-- for x in range(lo, hi, c) -/
theorem s_forR3 {ta : TA} {tu : TS} {j : Nat} {lo hi c : Int} {n : Nat} (h : EvA ta σ H [.int lo, .int hi, .int c]) (hr : RgC lo hi c n) (Pv : Nat → L2.St → Hp → Prop) (h0 : ∀ H1, Ex H H1 → Pv 0 σ H1)
    (hs : ∀ (i : Nat) σ' H', i < n → Pv i σ' H' → tu { D with nx := Pv (i + 1), ct := Pv (i + 1), bk := D.nx } (σ'.set j (some (.int (lo + (i : Nat) * c)))) H') (hd : ∀ σ' H', Pv n σ' H' → D.nx σ' H') : tFor (iRng3 ta) (gName j) tu D σ H :=
  h H (Ex.refl H) _ fun H1 e => ⟨lo, hi, c, n, rfl, hr, for_rangeC (lo := lo) (c := c) (n := n) Pv (h0 H1 e) (fun i σ' H' hi p => hs i σ' H' hi p) hd⟩
theorem q_forR3 {ta : TA} {tu : TS} {j : Nat} {lo hi c : Int} {n : Nat} (h : EvA ta σ H [.int lo, .int hi, .int c]) (hr : RgC lo hi c n) (Pv : Nat → L2.St → Hp → Prop) (h0 : ∀ H1, Ex H H1 → Pv 0 σ H1)
    (hs : ∀ (i : Nat) σ' H', i < n → Pv i σ' H' → tu { D with nx := Pv (i + 1), ct := Pv (i + 1), bk := tz D } (σ'.set j (some (.int (lo + (i : Nat) * c)))) H') (hd : ∀ σ' H', Pv n σ' H' → tz D σ' H') : tSeq (tFor (iRng3 ta) (gName j) tu) tz D σ H :=
  s_forR3 (D := { D with nx := tz D }) h hr Pv h0 hs hd
end
/-! ### what a list of numbers is as data -/
theorem good_all : ∀ l : List Nat, (∀ n ∈ l, n < 10 ^ 6) → PyData.canLayAll0 (l.map fun n : Nat => PyData.int (n : Int)) = true ∧ PyData.depthAll (l.map fun n : Nat => PyData.int (n : Int)) = 0 ∧
    PyData.showableAll (l.map fun n : Nat => PyData.int (n : Int)) = true ∧ PyData.leavesShortAll 13 (l.map fun n : Nat => PyData.int (n : Int)) = true ∧ PyData.weightAll (l.map fun n : Nat => PyData.int (n : Int)) ≤ 21 * l.length
  | [], _ => ⟨rfl, rfl, rfl, rfl, Nat.le_refl _⟩
  | n :: r, h => by
    obtain ⟨h1, h2, h3, h4, h5⟩ := good_all r fun m hm => h m (List.mem_cons_of_mem _ hm)
    have hn : n < 10 ^ 6 := h n List.mem_cons_self
    have hb : (PyData.int (n : Int)).weight = Builtin.Int.intBits (n : Int) := by simp only [PyData.weight, Builtin.Int.intBits]
    have hb2 : Builtin.Int.intBits (n : Int) ≤ 20 := bits_of_lt (show (n : Int).natAbs < 1048576 by omega)
    have hlog : (n : Int).natAbs.log2 < 1920 := by
      by_cases hz : n = 0
      · subst hz
        decide
      · have h0 : (n : Int).natAbs ≠ 0 := by omega
        exact (Nat.log2_lt h0).mpr (Nat.lt_of_lt_of_le (show (n : Int).natAbs < 2 ^ 20 by omega) (Nat.pow_le_pow_right (by decide) (by decide)))
    have hs : (PyData.shown (.int (n : Int))).length ≤ 13 := PyData.shown_int_le (by omega)
    rw [List.map_cons]
    refine ⟨?_, ?_, ?_, ?_, ?_⟩
    · rw [PyData.canLayAll0, h1]
      rfl
    · rw [PyData.depthAll, h2]
      rfl
    · rw [PyData.showableAll, h3, PyData.showable, decide_eq_true hlog]
      rfl
    · rw [PyData.leavesShortAll, h4, PyData.leavesShort, decide_eq_true hs]
      rfl
    · rw [PyData.weightAll, hb, List.length_cons]
      omega
theorem good_N {l : List Nat} (h : ∀ n ∈ l, n < 10 ^ 6) (hl : l.length ≤ 40000) : Good (pdN l) := by
  obtain ⟨h1, h2, h3, h4, h5⟩ := good_all l h
  refine ⟨?_, ?_, ?_, ?_, ?_⟩
  · exact h1
  · show (PyData.list _).depth ≤ 60
    rw [PyData.depth, h2]
    decide
  · exact h3
  · exact h4
  · show (PyData.list _).weight ≤ 2 ^ 20
    rw [PyData.weight]
    omega
end Rt
namespace Rt
open PySem PySem.Spec PyProof.Rows L2 Evl
section
variable {K : PySem.W.Frag} {σ : L2.St} {H : Hp} {ta te : TE} {z : V}
/-- f([..], b, ..): the first argument a new list -/
theorem el_callL {sp : Sp} {dvs vs xs ys : List V} {E : XK} {tr : TA} (h : EvL te σ H xs) (hr : EvA tr σ H vs) (hs : ∀ p H1, Ex H H1 → H1 p = some (.lst xs) → SpL sp ((.ref p :: vs) ++ dvs) H1 ys) : EvL (tCall sp dvs E (tCons te tr)) σ H ys := fun H1 e Q q =>
  h H1 e _ fun p H2 np e2 hp => hr H2 (e.trans e2) _ fun H3 e3 => hs p H3 ((e.trans e2).trans e3) (e3 p _ hp) H3 (Ex.refl H3) Q (fun u H4 hu e4 h4 => q u H4 (fresh_back (e2.trans e3) hu) ((e2.trans e3).trans e4) h4) E
theorem ev_callL {sp : Sp} {dvs vs xs : List V} {E : XK} {tr : TA} (h : EvL te σ H xs) (hr : EvA tr σ H vs) (hs : ∀ p H1, Ex H H1 → H1 p = some (.lst xs) → SpV sp ((.ref p :: vs) ++ dvs) H1 z) : Ev (tCall sp dvs E (tCons te tr)) σ H z := fun H1 e Q q =>
  h H1 e _ fun p H2 np e2 hp => hr H2 (e.trans e2) _ fun H3 e3 => hs p H3 ((e.trans e2).trans e3) (e3 p _ hp) H3 (Ex.refl H3) Q (fun H4 e4 => q H4 ((e2.trans e3).trans e4)) E
end
end Rt

/-! Objects, choices, loops over data. -/
namespace Rt
open PySem PySem.Spec PyProof.Rows L2 Evl
theorem pe_or2 {X : Cx} {e : Expr} {t u : TE} (h : PE X e t) (k : PE X e u) : PE X e (fun σ H Q => t σ H Q ∨ u σ H Q) :=
  ⟨fun pins s σ H Q I z => z.elim (fun z => h.run pins s σ H Q I z) fun z => k.run pins s σ H Q I z⟩
/-- a new object -/
def EvO (te : TE) (σ : L2.St) (H : Hp) (C : Addr) (fs : List (Str × V)) : Prop := ∀ H1, Ex H H1 → ∀ Q : VK, (∀ p dx H2, H1 p = none → Ex H1 H2 → H2 p = some (.ins C dx fs) → Q (.ref p) H2) → te σ H1 Q
def RetO (C : Addr) (fs : List (Str × V)) (H : Hp) (Q : VK) : Prop := ∀ p dx H2, H p = none → Ex H H2 → H2 p = some (.ins C dx fs) → Q (.ref p) H2
/-- an __init__ that fills in the fields of the new object -/
def spInit (C : Addr) (n : Nat) (fs : List V → List (Str × V)) : Sp := fun vs H Q _ => ∃ (x dx : Addr) (us : List V), vs = .ref x :: us ∧ us.length = n ∧ H x = some (.ins C dx []) ∧ Q .non (upd H x (.ins C dx (fs us)))
section
variable {K : PySem.W.Frag} {σ : L2.St} {H H' : Hp} {ta tb tc te t1 t2 : TE} {x y z v : V}
theorem ev_orL (h : Ev t1 σ H v) : Ev (fun σ H Q => t1 σ H Q ∨ t2 σ H Q) σ H v := fun H1 e Q q => .inl (h H1 e Q q)
theorem ev_orR (h : Ev t2 σ H v) : Ev (fun σ H Q => t1 σ H Q ∨ t2 σ H Q) σ H v := fun H1 e Q q => .inr (h H1 e Q q)
/-- o.f -/
theorem ev_fld {a C dx : Addr} {fs : List (Str × V)} {f : Str} (h : Ev ta σ H (.ref a)) (ho : H a = some (.ins C dx fs)) (c : Cls K C) (n : NoAttr K C f) (hl : fs.lookup f = some v) : Ev (tFld K ta f) σ H v := fun H1 e Q q =>
  h H1 e _ fun H2 e2 => ⟨a, C, dx, fs, v, rfl, e2 a _ (e a _ ho), c, n, hl, q H2 e2⟩
/-- o.m(..) -/
theorem ev_meth {a C dx : Addr} {fs : List (Str × V)} {m : Str} {sp : Sp} {dvs vs : List V} {E : XK} {tr : TA} (h : Ev ta σ H (.ref a)) (ho : H a = some (.ins C dx fs)) (hm : fs.lookup m = none) (hr : EvA tr σ H vs) (hs : SpV sp (.ref a :: (vs ++ dvs)) H z) :
    Ev (tMeth C m sp dvs E ta tr) σ H z := fun H1 e Q q =>
  h H1 e _ fun H2 e2 => ⟨a, dx, fs, rfl, e2 a _ (e a _ ho), hm, hr H2 (e.trans e2) _ fun H3 e3 => hs H3 ((e.trans e2).trans e3) Q (fun H4 e4 => q H4 ((e2.trans e3).trans e4)) E⟩
/-- C(..).m(..) -/
theorem ev_methO {C : Addr} {fs : List (Str × V)} {m : Str} {sp : Sp} {dvs vs : List V} {E : XK} {tr : TA} (h : EvO ta σ H C fs) (hm : fs.lookup m = none) (hr : EvA tr σ H vs) (hs : ∀ a dx H1, Ex H H1 → H1 a = some (.ins C dx fs) → SpV sp (.ref a :: (vs ++ dvs)) H1 z) :
    Ev (tMeth C m sp dvs E ta tr) σ H z := fun H1 e Q q =>
  h H1 e _ fun a dx H2 na e2 ha => ⟨a, dx, fs, rfl, ha, hm, hr H2 (e.trans e2) _ fun H3 e3 => hs a dx H3 ((e.trans e2).trans e3) (e3 a _ ha) H3 (Ex.refl H3) Q (fun H4 e4 => q H4 ((e2.trans e3).trans e4)) E⟩
/-- C(..).f -/
theorem ev_fldO {C : Addr} {fs : List (Str × V)} {f : Str} (h : EvO ta σ H C fs) (c : Cls K C) (n : NoAttr K C f) (hl : fs.lookup f = some v) : Ev (tFld K ta f) σ H v := fun H1 e Q q =>
  h H1 e _ fun a dx H2 na e2 ha => ⟨a, C, dx, fs, v, rfl, ha, c, n, hl, q H2 e2⟩
/-- C(..) -/
theorem eo_make {C : Addr} {n : Nat} {fs : List V → List (Str × V)} {vs : List V} {E : XK} {tr : TA} (h : EvA tr σ H vs) (hn : vs.length = n) : EvO (tMake C (spInit C n fs) [] E tr) σ H C (fs vs) := fun H1 e Q q =>
  h H1 e _ fun H2 e2 x dx nx nd ne => by
    refine ⟨x, dx, vs, by rw [List.append_nil], hn, upd_same, rfl, q x dx _ (fresh_back e2 nx) (e2.trans ?_) upd_same⟩
    rw [upd_upd]
    intro b o hb
    rw [upd_ne (ne_of_none hb nx), upd_ne (ne_of_none hb nd)]
    exact hb
/-- isinstance of an object -/
theorem ev_isiO {a C D dx : Addr} {fs : List (Str × V)} {b : Bool} (h : Ev ta σ H (.ref a)) (ho : H a = some (.ins C dx fs)) (ty : ∀ (H1 : Hp) (a dx : Addr) (fs : List (Str × V)), H1 a = some (.ins C dx fs) → TyOf K H1 (.ref a) (.ref C)) (hk : PySem.W.kitOne K (.ref C) (.ref D) = some b) :
    Ev (tCB (rIsi K) (tCons ta (tCons (tC (.ref D)) tNil))) σ H (.bl b) := ev_isi h (.own D) (fun H1 e => .base (ty H1 a dx fs (e a _ ho))) hk
theorem ev_same {b : Bool} {v : V} {t : TT} (h : EvT t σ H b) (h1 : b = true → Ev ta σ H v) (h2 : b = false → Ev tb σ H v) : Ev (tIf t ta tb) σ H v := ev_if h h1 h2
variable {D : Ends} {tz : TS}
theorem q_asgO {i : Nat} {C : Addr} {fs : List (Str × V)} (h : EvO te σ H C fs) (k : ∀ p dx H1, H p = none → Ex H H1 → H1 p = some (.ins C dx fs) → tz D (σ.set i (some (.ref p))) H1) : tSeq (tAsg te (gName i)) tz D σ H := h H (Ex.refl H) _ k
theorem s_retO {C : Addr} {fs : List (Str × V)} (h : EvO te σ H C fs) (k : RetO C fs H D.rt) : tRet te D σ H := h H (Ex.refl H) _ k
/-- for x in data -/
theorem s_forD {g : TG} {tu : TS} {tl : TE} {ds : List PyData} (h : EvD K tl σ H (.list ds)) (Pv : Hp → Nat → L2.St → Hp → Prop) (h0 : ∀ H1, Ex H H1 → Pv H1 0 σ H1) (hx : ∀ H1 i σ' H', Pv H1 i σ' H' → Ex H1 H')
    (hs : ∀ H1, Ex H H1 → ∀ i x d σ' H', ds[i]? = some d → Dp K H' x d → Pv H1 i σ' H' → g x σ' H' fun σ2 H2 => tu { D with nx := Pv H1 (i + 1), ct := Pv H1 (i + 1), bk := D.nx } σ2 H2)
    (hd : ∀ H1, Ex H H1 → ∀ σ' H', Pv H1 ds.length σ' H' → D.nx σ' H') : tFor (iList K tl) g tu D σ H :=
  h H (Ex.refl H) _ fun v H1 e hv => by
    cases hv with
    | @lst a xs _ hq hall =>
      refine ⟨a, rfl, ⟨xs, hq⟩, for_list (Pv H1) (h0 H1 e) (fun i σ' H' _ p => ex_l (hx H1 i σ' H' p) hq) (fun i x σ' H' hi p => ?_) fun σ' H' p => hd H1 e σ' H' (by rw [← dpAll_len hall]; exact p)⟩
      obtain ⟨d, h1, h2⟩ := dpAll_get hall hi
      exact hs H1 e i x d σ' H' h1 (Dp.ex (hx H1 i σ' H' p) h2) p
where
  dpAll_get : ∀ {H : Hp} {vs : List V} {ds : List PyData} {i : Nat} {x : V}, DpAll K H vs ds → vs[i]? = some x → ∃ d, ds[i]? = some d ∧ Dp K H x d
    | _, _, _, 0, _, .cons h _, e => by
      have e1 := Option.some.inj e
      subst e1
      exact ⟨_, rfl, h⟩
    | _, _, _, i + 1, _, .cons _ r, e => dpAll_get (i := i) r e
    | _, _, _, _, _, .nil, e => by simp at e
theorem q_forD {g : TG} {tu : TS} {tl : TE} {ds : List PyData} (h : EvD K tl σ H (.list ds)) (Pv : Hp → Nat → L2.St → Hp → Prop) (h0 : ∀ H1, Ex H H1 → Pv H1 0 σ H1) (hx : ∀ H1 i σ' H', Pv H1 i σ' H' → Ex H1 H')
    (hs : ∀ H1, Ex H H1 → ∀ i x d σ' H', ds[i]? = some d → Dp K H' x d → Pv H1 i σ' H' → g x σ' H' fun σ2 H2 => tu { D with nx := Pv H1 (i + 1), ct := Pv H1 (i + 1), bk := tz D } σ2 H2)
    (hd : ∀ H1, Ex H H1 → ∀ σ' H', Pv H1 ds.length σ' H' → tz D σ' H') : tSeq (tFor (iList K tl) g tu) tz D σ H := s_forD (D := { D with nx := tz D }) h Pv h0 hx hs hd
/-- a pair taken apart into two names -/
theorem g_pair {i j : Nat} {d1 d2 : Int} {Q : L2.St → Hp → Prop} (h : Dp K H x (.tuple [.int d1, .int d2])) (k : Q ((σ.set i (some (.int d1))).set j (some (.int d2))) H) : gTup K 2 (gCons (gName i) (gCons (gName j) gNil)) x σ H Q := by
  cases h with
  | tup hq hall =>
    cases hall with
    | cons h1 hr =>
      cases hr with
      | cons h2 hn =>
        cases hn
        cases h1
        cases h2
        exact ⟨_, _, rfl, hq, rfl, _, _, rfl, _, _, rfl, rfl, k⟩
/-- a new list of data -/
def EvM (K : PySem.W.Frag) (te : TE) (σ : L2.St) (H : Hp) (ds : List PyData) : Prop := ∀ H1, Ex H H1 → ∀ Q : VK, (∀ p xs H2, Ex H1 H2 → H1 p = none → H2 p = some (.lst xs) → DpAll K (New H1 H2) xs ds → Q (.ref p) H2) → te σ H1 Q
theorem EvM.toN {ds : List PyData} (h : EvM K te σ H ds) : EvN K te σ H (.list ds) := fun H1 e Q q => h H1 e Q fun p xs H2 e2 np hp hall => q (.ref p) H2 e2 (.lst (sq_of (by rw [new_at np]; exact hp)) hall)
theorem em_lst {ds : List PyData} {ta : TA} (h : EvNA K ta σ H ds) (hl : ds.length ≤ 100000) : EvM K (tLst ta) σ H ds := fun H1 e Q q =>
  h H1 e _ fun vs H2 e2 hv => ⟨sz_of (by rw [dpAll_len hv]; exact hl), fun p hp => q p vs _ (e2.trans (Ex.new hp)) (fresh_back e2 hp) upd_same (DpAll.ex (new_mono (Ex.refl H1) (Ex.new hp)) hv)⟩
theorem dpAll_app : ∀ {vs us : List V} {ds es : List PyData}, DpAll K H vs ds → DpAll K H us es → DpAll K H (vs ++ us) (ds ++ es)
  | _, _, _, _, .nil, h => h
  | _, _, _, _, .cons a r, h => .cons a (dpAll_app r h)
/-- a list of data and a new one: + -/
theorem ed_cat {ds es : List PyData} {l : Addr} {xs : List V} (h1 : Ev ta σ H (.ref l)) (hl : H l = some (.lst xs)) (hall : DpAll K H xs ds) (h2 : EvM K tb σ H es) (hz : ds.length + es.length ≤ 100000) : EvD K (tOp rCat ta tb) σ H (.list (ds ++ es)) := fun H1 e Q q =>
  h1 H1 e _ fun H2 e2 => h2 H2 (e.trans e2) _ fun p ys H3 e3 np hp hys =>
    ⟨l, p, xs, ys, rfl, rfl, ((e.trans e2).trans e3) l _ hl, hp, sz_of (by rw [dpAll_len hall, dpAll_len hys]; exact hz), fun c hc => q (.ref c) _ ((e2.trans e3).trans (Ex.new hc))
      (.lst (sq_of upd_same) (dpAll_app (DpAll.ex (((e.trans e2).trans e3).trans (Ex.new hc)) hall) (DpAll.ex ((new_ex H2 H3).trans (Ex.new hc)) hys)))⟩
theorem q_asgM {i : Nat} {ds : List PyData} (h : EvM K te σ H ds) (k : ∀ p xs H1, Ex H H1 → H p = none → H1 p = some (.lst xs) → DpAll K (New H H1) xs ds → tz D (σ.set i (some (.ref p))) H1) : tSeq (tAsg te (gName i)) tz D σ H := h H (Ex.refl H) _ k
end
/-! ### membership of numbers -/
theorem inV_N (n : Nat) : ∀ l : List Nat, inV (vN n) (vNs l) = decide (n ∈ l)
  | [] => rfl
  | m :: r => by
    have ih := inV_N n r
    unfold inV vNs at *
    rw [List.map_cons, List.any_cons, ih]
    have e : eqV (vN m) (vN n) = decide (n = m) := by
      show (((m : Int)) == ((n : Int))) = decide (n = m)
      rw [Bool.eq_iff_iff]
      simp
      omega
    rw [e, Bool.eq_iff_iff]
    simp
theorem flat_N : ∀ l : List Nat, (vNs l).all flatV = true
  | [] => rfl
  | _ :: r => by
    show (_ && (vNs r).all flatV) = true
    rw [flat_N r]
    rfl
theorem filt_N (m : List Nat) : ∀ l : List Nat, (vNs l).filter (fun x => inV x (vNs m)) = vNs (l.filter fun p => decide (p ∈ m))
  | [] => rfl
  | n :: r => by
    have ih := filt_N m r
    show (vN n :: vNs r).filter _ = _
    rw [List.filter_cons, List.filter_cons, inV_N, ih]
    split <;> rfl
def optV : Option Nat → V
  | some p => vN p
  | none => .non
def SpO (sp : Sp) (vs : List V) (H : Hp) (C : Addr) (fs : List (Str × V)) : Prop := ∀ H1, Ex H H1 → ∀ Q : VK, (∀ p dx H2, H1 p = none → Ex H1 H2 → H2 p = some (.ins C dx fs) → Q (.ref p) H2) → ∀ E : XK, sp vs H1 Q E
section
variable {K : PySem.W.Frag} {σ : L2.St} {H : Hp} {ta te : TE} {x z : V}
theorem eo_call {sp : Sp} {dvs vs : List V} {E : XK} {ta : TA} {C : Addr} {fs : List (Str × V)} (h : EvA ta σ H vs) (hs : SpO sp (vs ++ dvs) H C fs) : EvO (tCall sp dvs E ta) σ H C fs := fun H1 e Q q =>
  h H1 e _ fun H2 e2 => hs H2 (e.trans e2) Q (fun p dx H3 hp e3 h3 => q p dx H3 (fresh_back e2 hp) (e2.trans e3) h3) E
theorem eo_callL {sp : Sp} {dvs vs xs : List V} {E : XK} {tr : TA} {C : Addr} {fs : List (Str × V)} (h : EvL te σ H xs) (hr : EvA tr σ H vs) (hs : ∀ p H1, Ex H H1 → H1 p = some (.lst xs) → SpO sp ((.ref p :: vs) ++ dvs) H1 C fs) : EvO (tCall sp dvs E (tCons te tr)) σ H C fs := fun H1 e Q q =>
  h H1 e _ fun p H2 np e2 hp => hr H2 (e.trans e2) _ fun H3 e3 => hs p H3 ((e.trans e2).trans e3) (e3 p _ hp) H3 (Ex.refl H3) Q (fun u dx H4 hu e4 h4 => q u dx H4 (fresh_back (e2.trans e3) hu) ((e2.trans e3).trans e4) h4) E
def rIsNon : R2 := fun x y H Q => y = .non ∧ Q (.bl (decide (x = .non))) H
theorem rv_isN : RV rIsNon x .non H (.bl (decide (x = .non))) := fun H1 _ _ q => ⟨rfl, q H1 (Ex.refl H1)⟩
theorem el_if {b : Bool} {t : TT} {tb : TE} {xs : List V} (h : EvT t σ H b) (h1 : b = true → EvL ta σ H xs) (h2 : b = false → EvL tb σ H xs) : EvL (tIf t ta tb) σ H xs := fun H1 e Q q => h H1 e _ fun H2 e2 => by
  cases b with
  | true =>
    show ta σ H2 Q
    exact h1 rfl H2 (e.trans e2) Q fun p H3 np e3 h3 => q p H3 (fresh_back e2 np) (e2.trans e3) h3
  | false =>
    show tb σ H2 Q
    exact h2 rfl H2 (e.trans e2) Q fun p H3 np e3 h3 => q p H3 (fresh_back e2 np) (e2.trans e3) h3
/-- [x] * n -/
theorem el_rep {xs : List V} {k : Nat} {tb : TE} (h : EvL ta σ H xs) (hb : Ev tb σ H (vN k)) (hz : xs.length * k ≤ 100000) (hk : k ≤ 100000) : EvL (tOp rRep ta tb) σ H (List.replicate k xs).flatten := fun H1 e Q q =>
  h H1 e _ fun p H2 np e2 hp => hb H2 (e.trans e2) _ fun H3 e3 => ⟨p, (k : Int), xs, rfl, rfl, e3 p _ hp, by omega, by omega, sz_of (by rw [Int.toNat_natCast]; exact hz), fun l hl => q l _ (fresh_back (e2.trans e3) hl) ((e2.trans e3).trans (Ex.new hl)) (by rw [Int.toNat_natCast]; exact upd_same)⟩
end
end Rt

/-! Two ways: where they first meet. Plain Lean. -/
namespace Rt
/-- two rising lists with the same members are one -/
theorem rising_eq : ∀ {l m : List Nat}, l.Pairwise (· < ·) → m.Pairwise (· < ·) → (∀ x, x ∈ l ↔ x ∈ m) → l = m
  | [], [], _, _, _ => rfl
  | [], b :: m, _, _, h => absurd ((h b).mpr List.mem_cons_self) List.not_mem_nil
  | a :: l, [], _, _, h => absurd ((h a).mp List.mem_cons_self) List.not_mem_nil
  | a :: l, b :: m, hl, hm, h => by
    obtain ⟨h1, h2⟩ := List.pairwise_cons.mp hl
    obtain ⟨h3, h4⟩ := List.pairwise_cons.mp hm
    have e : a = b := by
      rcases List.mem_cons.mp ((h a).mp List.mem_cons_self) with e | e
      · exact e
      · rcases List.mem_cons.mp ((h b).mpr List.mem_cons_self) with z | z
        · exact z.symm
        · have := h3 a e
          have := h1 b z
          omega
    subst e
    have : l = m := rising_eq h2 h4 fun x => by
      constructor
      · intro hx
        rcases List.mem_cons.mp ((h x).mp (List.mem_cons_of_mem _ hx)) with e | e
        · have := h1 x hx
          omega
        · exact e
      · intro hx
        rcases List.mem_cons.mp ((h x).mpr (List.mem_cons_of_mem _ hx)) with e | e
        · have := h3 x hx
          omega
        · exact e
    rw [this]
theorem wayF_ge (row : List Nat) : ∀ f p, ∀ q ∈ wayF row f p, p ≤ q
  | 0, p, q, hq => by
    unfold wayF at hq
    rw [List.mem_singleton.mp hq]
    exact Nat.le_refl _
  | f + 1, p, q, hq => by
    rw [wayF_succ] at hq
    split at hq
    · rcases List.mem_cons.mp hq with e | e
      · omega
      · have := wayF_ge row f _ q e
        omega
    · rw [List.mem_singleton.mp hq]
      exact Nat.le_refl _
theorem wayF_rise {row : List Nat} (hc : ∀ c ∈ row, 1 ≤ c) : ∀ f p, p < row.length → (wayF row f p).Pairwise (· < ·)
  | 0, p, _ => by
    unfold wayF
    exact List.pairwise_singleton _ _
  | f + 1, p, hp => by
    rw [wayF_succ]
    split
    · rename_i h
      refine List.pairwise_cons.mpr ⟨fun q hq => ?_, wayF_rise hc f _ h⟩
      have h1 := wayF_ge row f _ q hq
      have h2 : 1 ≤ row.getD p 0 := hc _ (List.mem_of_getElem? (by rw [List.getD_eq_getElem?_getD, List.getElem?_eq_getElem hp]; rfl))
      omega
    · exact List.pairwise_singleton _ _
theorem way_rise {row : List Nat} (hc : ∀ c ∈ row, 1 ≤ c) {p : Nat} (hp : p < row.length) : (way row p).Pairwise (· < ·) := wayF_rise hc _ p hp
/-- the places on both ways, by the other's way -/
def bothL (row : List Nat) (one other : Nat) : List Nat := (way row other).filter fun p => decide (p ∈ way row one)
def firstC (row : List Nat) (one other : Nat) : Option Nat := (bothL row one other).head?
theorem both_sym {row : List Nat} (hc : ∀ c ∈ row, 1 ≤ c) {p q : Nat} (hp : p < row.length) (hq : q < row.length) : bothL row p q = bothL row q p := by
  refine rising_eq ((way_rise hc hq).filter _) ((way_rise hc hp).filter _) fun x => ?_
  unfold bothL
  rw [List.mem_filter, List.mem_filter, decide_eq_true_iff, decide_eq_true_iff]
  exact And.comm
theorem last_mem (row : List Nat) (p : Nat) : lastOf row p ∈ way row p := List.getLast_mem _
theorem apart_ne {row : List Nat} {one other : Nat} (h : firstC row one other = none) : lastOf row one ≠ lastOf row other := by
  intro e
  have h1 : bothL row one other = [] := List.head?_eq_none_iff.mp h
  have h2 : lastOf row other ∈ bothL row one other := by
    unfold bothL
    rw [List.mem_filter, decide_eq_true_iff]
    exact ⟨last_mem row other, by rw [← e]; exact last_mem row one⟩
  rw [h1] at h2
  exact List.not_mem_nil h2
/-- what is told of two ways -/
inductive Ans where
  | meet (z : Int)
  | apart (m t : Int)
  deriving DecidableEq
def isMeet : Ans → Bool
  | .meet _ => true
  | .apart _ _ => false
def cmpA (row : List Nat) (one other : Nat) : Ans := match firstC row one other with
  | some p => .meet (p : Int)
  | none => .apart (lastOf row one : Int) (lastOf row other : Int)
/-- whether it shows so -/
def shB (row : List Nat) (one other : Nat) : Ans → Bool
  | .meet z => match firstC row one other with
    | some p => decide (z = (p : Int))
    | none => false
  | .apart m t => if m = t then false else (m == (lastOf row one : Int) && (t == (lastOf row other : Int) && true))
def dueB (row : List Nat) (one other : Nat) : Ans → Bool
  | .meet z => match firstC row one other with
    | some p => decide (z = (p : Int))
    | none => false
  | .apart m t => (!decide ((lastOf row one : Int) = (lastOf row other : Int))) && (m == (lastOf row one : Int) && (t == (lastOf row other : Int) && true))
theorem due_sh (row : List Nat) (one other : Nat) (a : Ans) : dueB row one other a = shB row one other a := by
  cases a with
  | meet z => rfl
  | apart m t =>
    show ((!decide ((lastOf row one : Int) = (lastOf row other : Int))) && (m == (lastOf row one : Int) && (t == (lastOf row other : Int) && true))) = if m = t then false else (m == (lastOf row one : Int) && (t == (lastOf row other : Int) && true))
    by_cases h : m = t
    · rw [if_pos h]
      subst h
      by_cases h1 : (lastOf row one : Int) = (lastOf row other : Int)
      · rw [decide_eq_true h1]
        rfl
      · by_cases h2 : m = (lastOf row one : Int)
        · have h3 : ¬ m = (lastOf row other : Int) := fun z => h1 (h2.symm.trans z)
          rw [beq_eq_false_iff_ne.mpr h3]
          simp
        · rw [beq_eq_false_iff_ne.mpr h2]
          simp
    · rw [if_neg h]
      by_cases h1 : (lastOf row one : Int) = (lastOf row other : Int)
      · rw [decide_eq_true h1]
        have h3 : ¬ (m = (lastOf row one : Int) ∧ t = (lastOf row other : Int)) := fun z => h (z.1.trans (h1.trans z.2.symm))
        by_cases h2 : m = (lastOf row one : Int)
        · have h4 : ¬ t = (lastOf row other : Int) := fun z => h3 ⟨h2, z⟩
          rw [beq_eq_false_iff_ne.mpr h4]
          simp
        · rw [beq_eq_false_iff_ne.mpr h2]
          simp
      · rw [decide_eq_false h1]
        rfl
theorem sh_cmp (row : List Nat) (one other : Nat) : shB row one other (cmpA row one other) = true := by
  unfold cmpA
  cases e : firstC row one other with
  | some p =>
    unfold shB
    rw [e]
    exact decide_eq_true rfl
  | none =>
    have h := apart_ne e
    show (if (lastOf row one : Int) = (lastOf row other : Int) then false else ((lastOf row one : Int) == (lastOf row one : Int) && ((lastOf row other : Int) == (lastOf row other : Int) && true))) = true
    rw [if_neg (by omega)]
    simp
end Rt

namespace Rt
open PySem L2
theorem rg4 : ∀ j : Nat, 1 ≤ j → j ≤ 12 → RgC 0 (j : Int) 4 ((j + 3) / 4) := by
  intro j h1 h2
  have hs : Builtin.Range.small 0 (j : Int) 4 = true ∧ Builtin.Range.rangeSize 0 (j : Int) 4 = (((j + 3) / 4 : Nat) : Int) := by
    rcases (show j = 1 ∨ j = 2 ∨ j = 3 ∨ j = 4 ∨ j = 5 ∨ j = 6 ∨ j = 7 ∨ j = 8 ∨ j = 9 ∨ j = 10 ∨ j = 11 ∨ j = 12 by omega) with h | h | h | h | h | h | h | h | h | h | h | h <;> subst h <;> exact ⟨by decide +kernel, by decide +kernel⟩
  exact ⟨by decide, by decide, hs.1, hs.2⟩
theorem byJ (n : Nat) : ∃ j : Nat, 1 ≤ j ∧ j ≤ 12 ∧ (if (if (n : Int) < 12 then (n : Int) else 12) > 1 then (if (n : Int) < 12 then (n : Int) else 12) else 1) = (j : Int) := by
  refine ⟨max 1 (min 12 n), by omega, by omega, ?_⟩
  split <;> split <;> omega
end Rt

/-! Further: ranges as lists, lists put together, loops over tuples, objects in lists. -/
namespace Rt
open PySem PySem.Spec PyProof.Rows L2 Evl
section
variable {K : PySem.W.Frag} {σ : L2.St} {H H' : Hp} {ta tb tc te : TE} {x y z v : V} {D : Ends} {tz : TS}
theorem rgV_N (n : Nat) : rgV 0 (n : Int) = vNs (List.range n) := by
  unfold rgV vNs
  rw [show ((n : Int) - 0).toNat = n by omega]
  refine List.map_congr_left fun i _ => ?_
  show V.int _ = V.int _
  rw [Int.zero_add]
/-- list(range(n)) -/
theorem el_listRg {n : Nat} (h : Ev ta σ H (vN n)) (hn : n ≤ 100000) : EvL (tLstRg (tRg1 ta)) σ H (vNs (List.range n)) := fun H1 e Q q =>
  h H1 e _ fun H2 e2 => ⟨(n : Int), rfl, rgOk_small hn, fun l hl => by
    rw [rgV_N]
    exact q l _ (fresh_back e2 hl) (e2.trans (Ex.new hl)) upd_same⟩
where
  rgOk_small {n : Nat} (hn : n ≤ 100000) : RgOk 0 (n : Int) := by
    unfold RgOk
    refine ⟨?_, ?_, ?_, ?_⟩ <;> first | omega | (have h : 100000 ≤ sizeLine := by decide
                                                 omega) | decide
/-- two new lists: + -/
theorem el_cat {xs ys : List V} (h1 : EvL ta σ H xs) (h2 : EvL tb σ H ys) (hz : xs.length + ys.length ≤ 100000) : EvL (tOp rCat ta tb) σ H (xs ++ ys) := fun H1 e Q q =>
  h1 H1 e _ fun p H2 np e2 hp => h2 H2 (e.trans e2) _ fun r H3 nr e3 hr =>
    ⟨p, r, xs, ys, rfl, rfl, e3 p _ hp, hr, sz_of hz, fun l hl => q l _ (fresh_back (e2.trans e3) hl) ((e2.trans e3).trans (Ex.new hl)) upd_same⟩
/-- a list that stands and a new one: + -/
theorem el_cat1 {xs ys : List V} {l : Addr} (h1 : Ev ta σ H (.ref l)) (hl : H l = some (.lst xs)) (h2 : EvL tb σ H ys) (hz : xs.length + ys.length ≤ 100000) : EvL (tOp rCat ta tb) σ H (xs ++ ys) := fun H1 e Q q =>
  h1 H1 e _ fun H2 e2 => h2 H2 (e.trans e2) _ fun r H3 nr e3 hr =>
    ⟨l, r, xs, ys, rfl, rfl, ((e.trans e2).trans e3) l _ hl, hr, sz_of hz, fun c hc => q c _ (fresh_back (e2.trans e3) hc) ((e2.trans e3).trans (Ex.new hc)) upd_same⟩
theorem rv_isBl {a b : Bool} : RV rIsB (.bl a) (.bl b) H (.bl (decide (a = b))) := fun H1 _ _ q => ⟨a, b, rfl, rfl, q H1 (Ex.refl H1)⟩
theorem rv_notBl {a b : Bool} : RV rNotB (.bl a) (.bl b) H (.bl (!decide (a = b))) := fun H1 _ _ q => ⟨a, b, rfl, rfl, q H1 (Ex.refl H1)⟩
/-- for x in data, a tuple -/
theorem s_forDT {g : TG} {tu : TS} {tl : TE} {ds : List PyData} (h : EvD K tl σ H (.tuple ds)) (Pv : Hp → Nat → L2.St → Hp → Prop) (h0 : ∀ H1, Ex H H1 → Pv H1 0 σ H1) (hx : ∀ H1 i σ' H', Pv H1 i σ' H' → Ex H1 H')
    (hs : ∀ H1, Ex H H1 → ∀ i x d σ' H', ds[i]? = some d → Dp K H' x d → Pv H1 i σ' H' → g x σ' H' fun σ2 H2 => tu { D with nx := Pv H1 (i + 1), ct := Pv H1 (i + 1), bk := D.nx } σ2 H2)
    (hd : ∀ H1, Ex H H1 → ∀ σ' H', Pv H1 ds.length σ' H' → D.nx σ' H') : tFor (iTup K tl) g tu D σ H :=
  h H (Ex.refl H) _ fun v H1 e hv => by
    cases hv with
    | @tup a xs _ hq hall =>
      refine ⟨a, rfl, ⟨xs, hq⟩, for_tup (Pv H1) (h0 H1 e) (fun i σ' H' _ p => ex_t (hx H1 i σ' H' p) hq) (fun i x σ' H' hi p => ?_) fun σ' H' p => hd H1 e σ' H' (by rw [← dpAll_len hall]; exact p)⟩
      obtain ⟨d, h1, h2⟩ := s_forD.dpAll_get hall hi
      exact hs H1 e i x d σ' H' h1 (Dp.ex (hx H1 i σ' H' p) h2) p
theorem q_forDT {g : TG} {tu : TS} {tl : TE} {ds : List PyData} (h : EvD K tl σ H (.tuple ds)) (Pv : Hp → Nat → L2.St → Hp → Prop) (h0 : ∀ H1, Ex H H1 → Pv H1 0 σ H1) (hx : ∀ H1 i σ' H', Pv H1 i σ' H' → Ex H1 H')
    (hs : ∀ H1, Ex H H1 → ∀ i x d σ' H', ds[i]? = some d → Dp K H' x d → Pv H1 i σ' H' → g x σ' H' fun σ2 H2 => tu { D with nx := Pv H1 (i + 1), ct := Pv H1 (i + 1), bk := tz D } σ2 H2)
    (hd : ∀ H1, Ex H H1 → ∀ σ' H', Pv H1 ds.length σ' H' → tz D σ' H') : tSeq (tFor (iTup K tl) g tu) tz D σ H := s_forDT (D := { D with nx := tz D }) h Pv h0 hx hs hd
/-- for x in (a, b, ..), a name for target; the word is kept to what stands at the loop's start -/
theorem s_forU {tu : TS} {tl : TE} {j : Nat} {xs : List V} (h : EvU tl σ H xs) (Pv : Hp → Nat → L2.St → Hp → Prop) (h0 : ∀ H1, Ex H H1 → Pv H1 0 σ H1) (hx : ∀ H1 i σ' H', Pv H1 i σ' H' → Ex H1 H')
    (hs : ∀ H1, Ex H H1 → ∀ i x σ' H', xs[i]? = some x → Pv H1 i σ' H' → tu { D with nx := Pv H1 (i + 1), ct := Pv H1 (i + 1), bk := D.nx } (σ'.set j (some x)) H')
    (hd : ∀ H1, Ex H H1 → ∀ σ' H', Pv H1 xs.length σ' H' → D.nx σ' H') : tFor (iTup K tl) (gName j) tu D σ H :=
  h H (Ex.refl H) _ fun p H1 np e hp => ⟨p, rfl, ⟨xs, st_of hp⟩, for_tup (Pv H1) (h0 H1 e) (fun i σ' H' _ w => st_of (hx H1 i σ' H' w p _ hp)) (fun i x σ' H' hi w => hs H1 e i x σ' H' hi w) fun σ' H' w => hd H1 e σ' H' w⟩
/-- for x in [..], the same -/
theorem s_forN {tu : TS} {tl : TE} {j : Nat} {xs : List V} (h : EvL tl σ H xs) (Pv : Hp → Nat → L2.St → Hp → Prop) (h0 : ∀ H1, Ex H H1 → Pv H1 0 σ H1) (hx : ∀ H1 i σ' H', Pv H1 i σ' H' → Ex H1 H')
    (hs : ∀ H1, Ex H H1 → ∀ i x σ' H', xs[i]? = some x → Pv H1 i σ' H' → tu { D with nx := Pv H1 (i + 1), ct := Pv H1 (i + 1), bk := D.nx } (σ'.set j (some x)) H')
    (hd : ∀ H1, Ex H H1 → ∀ σ' H', Pv H1 xs.length σ' H' → D.nx σ' H') : tFor (iList K tl) (gName j) tu D σ H :=
  h H (Ex.refl H) _ fun p H1 np e hp => ⟨p, rfl, ⟨xs, sq_of hp⟩, for_list (Pv H1) (h0 H1 e) (fun i σ' H' _ w => sq_of (hx H1 i σ' H' w p _ hp)) (fun i x σ' H' hi w => hs H1 e i x σ' H' hi w) fun σ' H' w => hd H1 e σ' H' w⟩
theorem q_forN {tu : TS} {tl : TE} {j : Nat} {xs : List V} (h : EvL tl σ H xs) (Pv : Hp → Nat → L2.St → Hp → Prop) (h0 : ∀ H1, Ex H H1 → Pv H1 0 σ H1) (hx : ∀ H1 i σ' H', Pv H1 i σ' H' → Ex H1 H')
    (hs : ∀ H1, Ex H H1 → ∀ i x σ' H', xs[i]? = some x → Pv H1 i σ' H' → tu { D with nx := Pv H1 (i + 1), ct := Pv H1 (i + 1), bk := tz D } (σ'.set j (some x)) H')
    (hd : ∀ H1, Ex H H1 → ∀ σ' H', Pv H1 xs.length σ' H' → tz D σ' H') : tSeq (tFor (iList K tl) (gName j) tu) tz D σ H := s_forN (D := { D with nx := tz D }) h Pv h0 hx hs hd
/-- [e for x in xs], told by the turn -/
theorem el_mapLi {a : Addr} {xs : List V} {tl : TE} {j : Nat} {vs : List Nat} (g : Nat → V) (h : Ev tl σ H (.ref a)) (hx : SqL K H a xs) (hz : xs.length ≤ 40000)
    (he : ∀ i x, xs[i]? = some x → ∀ H1, Ex H H1 → Ev te ((wipe σ vs).set j (some x)) H1 (g i)) (hw : ∀ x, wipe ((wipe σ vs).set j (some x)) vs = wipe σ vs := by intro _; rfl) :
    EvL (tLc (iList K tl) (gName j) tYes te vs) σ H ((List.range xs.length).map g) :=
  el_to (el_lcL (fun _ => true) g h hx hz hw (fun _ _ _ _ _ => et_yes) fun i x H1 e1 hi _ => he i x hi H1 e1) (given_all _ g)
end
end Rt
namespace Rt
open PySem PySem.Spec PyProof.Rows L2 Evl
section
variable {K : PySem.W.Frag} {σ : L2.St} {H H' : Hp} {ta te : TE} {z : V}
/-- C(..).m([..], ..) -/
theorem ev_methOL {C : Addr} {fs : List (Str × V)} {m : Str} {sp : Sp} {dvs vs xs : List V} {E : XK} {tr : TA} (h : EvO ta σ H C fs) (hm : fs.lookup m = none) (hl : EvL te σ H xs) (hr : EvA tr σ H vs)
    (hs : ∀ a dx p H1, Ex H H1 → H1 a = some (.ins C dx fs) → H1 p = some (.lst xs) → SpV sp (.ref a :: ((.ref p :: vs) ++ dvs)) H1 z) : Ev (tMeth C m sp dvs E ta (tCons te tr)) σ H z := fun H1 e Q q =>
  h H1 e _ fun a dx H2 na e2 ha => ⟨a, dx, fs, rfl, ha, hm, hl H2 (e.trans e2) _ fun p H3 np e3 hp => hr H3 ((e.trans e2).trans e3) _ fun H4 e4 =>
    hs a dx p H4 (((e.trans e2).trans e3).trans e4) (e4 a _ (e3 a _ ha)) (e4 p _ hp) H4 (Ex.refl H4) Q (fun H5 e5 => q H5 (((e2.trans e3).trans e4).trans e5)) E⟩
theorem dpAll_bl : ∀ bs : List Bool, DpAll K H (bs.map V.bl) (bs.map PyData.bool)
  | [] => .nil
  | b :: r => .cons (.bl b) (dpAll_bl r)
theorem en_bls {bs : List Bool} (h : EvL te σ H (bs.map V.bl)) : EvN K te σ H (.list (bs.map PyData.bool)) := en_l h fun _ => dpAll_bl bs
theorem range_map_getD {α : Type} (l : List α) (d : α) (f : α → V) : (List.range l.length).map (fun i => f (l.getD i d)) = l.map f := by
  refine List.ext_getElem (by simp) fun i h1 h2 => ?_
  have h3 : i < l.length := by simpa using h2
  simp [List.getD_eq_getElem?_getD, List.getElem?_eq_getElem h3]
end
end Rt

/-! set(a list of ints), with what sorted asks of the set. (The layer has it of a tuple alone.) -/
namespace Rt
open PySem PySem.Spec PyProof.Rows L2 Evl
/-- the set as it is made, empty -/
abbrev set0 (w : World) : Obj := { cls := .type "set", dict := none, data := .set #[] 0 (.fresh 0 0 (!w.params.followText "set-order")) }
section
variable {P : Program} {w : World} {A : Around} {E : Value → Shared → Prop} {s : Shared}
/-- what is left behind set.__init__ -/
def SetMade (w : World) (s : Shared) (ns : List Int) (s2 : Shared) : Prop :=
  ∃ (h2 : Heap) (tk c : Nat), s2 = { s with heap := h2, toks := tk } ∧ SetR w h2 s.heap.objs.size (fun j => decide (j ∈ ns)) c ∧ c ≤ ns.length ∧ ∀ b o, s.heap.get? b = some o → h2.get? b = some o
set_option maxHeartbeats 4000000 in
theorem set_init_list {l : Addr} {items : Array Value} {B : Around} (ns : List Int) (hh : B.handled = none) (hl : s.heap.IsList l items) (hit : IntsAre items.toList ns) (hb : ns.length + 1 < scanBound) :
    wpAny (model P w) B.in1 (Builtin.«set.__init__» ⟨[.ref s.heap.objs.size, .ref l], []⟩)
      (fun fin s1 => match fin with
        | .done f => wants (fun r s2 => r = Value.none ∧ SetMade w s ns s2) E (.ok f) s1
        | .again c => c.quiet = true ∧ codeAny (model P w) B c (wants (fun r s2 => r = Value.none ∧ SetMade w s ns s2) E) s1)
      (fun e s1 => wants (fun r s2 => r = Value.none ∧ SetMade w s ns s2) E (.error e) s1) { s with heap := s.heap.push (set0 w) } := by
  have size : items.size = ns.length := by simpa using IntsAre.length hit
  obtain ⟨⟨oc, od, odt, osl⟩, at0, ec, nl, ed⟩ := hl
  dsimp only at ec ed
  subst ec ed
  have at1 : (s.heap.push (set0 w)).get? l = some { cls := .type "list", dict := od, data := .seq items nl, slots := osl } := Heap.get?_push_of_some _ at0
  have lst1 : (s.heap.push (set0 w)).IsList l items := ⟨_, at1, rfl, nl, rfl⟩
  have old : l < s.heap.objs.size := Heap.lt_size at0
  have new : (s.heap.push (set0 w)).objs.size = s.heap.objs.size + 1 := Heap.size_push ..
  have self1 : (s.heap.push (set0 w)).get? s.heap.objs.size = some (set0 w) := Heap.get?_push_size _ rfl
  have k1 := F.sub_list_set
  have k2 := F.sub_list_frozenset
  have k3 : (Value.type "list" == Value.type "dict") = false := by decide
  unfold Builtin.«set.__init__» noKeywords Builtin.Frozenset.updateFrom
  generalize ePI : pyIter = PI
  wp_walk
  subst ePI
  refine wpAny_pyIter_list lst1 (wpAny_bind (wpAny_runValue ?_))
  have apart : l ≠ (s.heap.push (set0 w)).objs.size := by
    rw [new]
    exact Nat.ne_of_lt (Nat.lt_succ_of_lt old)
  have own : s.heap.objs.size ∉ [(s.heap.push (set0 w)).objs.size, l] := by
    rw [new]
    intro z
    simp only [List.mem_cons, List.not_mem_nil, or_false] at z
    rcases z with z | z
    · exact absurd z (Nat.ne_of_lt (Nat.lt_succ_self _))
    · exact absurd z (Nat.ne_of_gt old)
  have each : ∀ (i : Nat) (v : Value), items[i]? = some v → ∃ k t, ns[i]? = some k ∧ v = .int k t := by
    intro i v e
    have lt : i < ns.length := by
      rw [← size]
      exact (Array.getElem?_eq_some_iff.mp e).1
    obtain ⟨t, q⟩ := PyProof.Rows.IntsAre.int_at hit i v (by rw [Array.getElem?_toList]; exact e)
    exact ⟨ns[i], t, List.getElem?_eq_getElem lt, by rw [q, List.getD_eq_getElem?_getD, List.getElem?_eq_getElem lt]; rfl⟩
  have quiet : B.in1.in1.in1.handled = none := by simp [hh]
  refine set_update_ints ((Walks.list (by first | exact quiet | simp [hh]) _ l apart items).toS) s.heap.objs.size own ns size hb each (items.size - 0) 0 _ (by omega) (Nat.zero_le _) ⟨⟨_, Heap.get?_push_size _ rfl, rfl, rfl⟩, lst1.push _⟩ ?_ ?_
  · exact ⟨0, Nat.le_refl 0, setR_new_at (Heap.get?_push_of_some _ self1)⟩
  · rintro ⟨h2, g2, d2, tk2, os2⟩ c moved hc R
    have e1 : g2 = s.gens := moved.gens
    have e2 : d2 = s.drawn := moved.drawn
    have e3 : os2 = s.os := moved.os
    subst e1 e2 e3
    refine wpAny_pure ?_
    show wpAny _ _ (ret Value.none) _ _ _
    refine wpAny_pure ⟨rfl, h2, tk2, c, rfl, R, by omega, ?_⟩
    intro b o e
    have hlt : b < s.heap.objs.size := Heap.lt_size e
    refine moved.heap b o ?_ (Heap.get?_push_of_some _ (Heap.get?_push_of_some _ e))
    rw [new]
    intro z
    simp only [List.mem_cons, List.not_mem_nil, or_false] at z
    rcases z with z | z
    · exact absurd z (Nat.ne_of_lt hlt)
    · exact absurd z (Nat.ne_of_lt (Nat.lt_succ_of_lt hlt))
set_option maxHeartbeats 4000000 in
theorem set_of_list {l : Addr} {items : Array Value} {Q : Value → Shared → Prop} (ns : List Int) (hh : A.handled = none) (hl : s.heap.IsList l items) (hit : IntsAre items.toList ns) (hb : ns.length + 1 < scanBound)
    (h : ∀ s2, SetMade w s ns s2 → Q (.ref s.heap.objs.size) s2) : wpAny (model P w) A (call (.type "set") [.ref l]) Q E s := by
  obtain ⟨mc, mt, f0⟩ := F.called_set.mro
  have f1 := F.called_set.made
  have f2 := F.called_set.sub
  have f3 := F.called_set.notType
  have f4 := F.called_set.canCreate
  have f5 := F.typeCall_set_1 (.ref l)
  have f6 := F.called_set.init.lookup
  have f7 := F.called_set.init.bind (.ref s.heap.objs.size)
  refine wpAny_call (codeAny_of_tree (show wpAny _ _ (callAny (.type "set") _) _ _ _ from wpAny_pure ⟨Code.quiet_builtin _ (by decide +kernel), codeAny_builtin F.entry_type_call ?_⟩))
  rw [Around.under_plain (weight_type_call_type "set" [.ref l] []) rfl]
  repeat (any_goals (first | assumption | wp_step))
  refine codeAny_mono (code_set_led1 (.ref l) (E := E) (Q₁ := fun v t => v = .ref s.heap.objs.size ∧ t = { s with heap := s.heap.push (set0 w) }) ⟨rfl, rfl⟩) ?_
  intro r t hr
  rcases r with e | fl
  · exact hr
  cases fl with
  | ret v =>
    obtain ⟨rfl, rfl⟩ := hr
    have ty : Shared.TypeIs { s with heap := s.heap.push (set0 w) } (.ref s.heap.objs.size) "set" := ⟨_, Heap.get?_push_size _ rfl, rfl⟩
    repeat (any_goals (first | assumption | wp_step))
    refine codeAny_mono (codeAny_call_builtin (R := wants (fun r s2 => r = .none ∧ SetMade w s ns s2) E) F.called_set.init.plain F.entry_set_init (check_set_init_1 ty ?_)) ?_
    · first
        | exact set_init_list ns (by simp [hh]) hl hit hb
        | exact set_init_list (B := _) ns hh hl hit hb
    · intro r2 s2 hr2
      rcases r2 with e | fl2
      · exact hr2
      cases fl2 with
      | ret r =>
        obtain ⟨rfl, made⟩ := hr2
        repeat (any_goals (first | assumption | wp_step))
        exact h _ made
      | _ => exact hr2.elim
  | _ => exact hr.elim
end
/-- set(xs) of a list of ints, as a rule -/
def rSetL (K : PySem.W.Frag) (w : World) : List V → Hp → VK → Prop := fun xs H Q => ∃ (a : Addr) (ns : List Int), xs = [.ref a] ∧ SqL K H a (ns.map V.int) ∧ ns.length ≤ 1000 ∧
  ∀ p c, H p = none → c ≤ ns.length → Q (.ref p) (upd H p (SetO w p (fun j => decide (j ∈ ns)) c))
theorem cr_setL {X : Cx} (hc : X.calm = true) : CallR X (.type "set") (rSetL X.K X.w) := by
  intro pins s σ H xs us Q I r h
  obtain ⟨a, ns, rfl, hS, hn, q⟩ := h
  obtain ⟨u, rfl, ru⟩ := vals1 r
  cases (show u = Value.ref a from ru)
  obtain ⟨its, rv, ⟨o, n, ho, hcl, _, hd⟩, _⟩ := I.list hS
  refine set_of_list ns (I.ok.hd hc) ⟨o, ho, hcl, n, hd⟩ (by simpa using ints_of_vals rv) (by unfold scanBound; omega) ?_
  rintro s2 ⟨h2, tk, c, rfl, R, hle, keep⟩
  have fresh : s.heap.objs.size ≤ s.heap.objs.size := Nat.le_refl _
  exact ⟨.ref s.heap.objs.size, _, I.laid (t' := tk) keep fresh (setO_new R), rfl, q _ c (I.hok.fresh fresh) hle⟩
end Rt

/-! Dicts, sorted, counts; comprehensions that tell data. -/
namespace Rt
open PySem PySem.Spec PyProof.Rows L2 Evl
section
variable {K : PySem.W.Frag} {σ : L2.St} {H H' : Hp} {ta tb tc td te tl tx ty : TE} {x y z v : V} {D : Ends} {tz : TS}
/-- d.get(k, z) -/
theorem ev_get2 {a : Addr} {kvs : List (Key × V)} {k : Key} (hd : Ev td σ H (.ref a)) (ha : H a = some (.dK kvs)) (hk : Ev ty σ H (kV k)) (hz : Ev tx σ H z) : Ev (tDGet2 td ty tx) σ H ((valV kvs k).getD z) := fun H1 e Q q =>
  hd H1 e _ fun H2 e2 => ⟨a, rfl, .inl ⟨kvs, .inl ((e.trans e2) a _ ha)⟩, hk H2 (e.trans e2) _ fun H3 e3 => hz H3 ((e.trans e2).trans e3) _ fun H4 e4 =>
    ⟨valV kvs k, DGet.k ((((e.trans e2).trans e3).trans e4) a _ ha), q H4 ((e2.trans e3).trans e4)⟩⟩
/-- d[k] -/
theorem ev_dget {a : Addr} {kvs : List (Key × V)} {k : Key} (hd : Ev td σ H (.ref a)) (ha : H a = some (.dK kvs)) (hk : Ev ty σ H (kV k)) (hv : valV kvs k = some v) : Ev (tDGet td ty) σ H v := fun H1 e Q q =>
  hd H1 e _ fun H2 e2 => hk H2 (e.trans e2) _ fun H3 e3 => ⟨a, v, rfl, by rw [← hv]; exact DGet.k (((e.trans e2).trans e3) a _ ha), q H3 (e2.trans e3)⟩
/-- d[k] = v -/
theorem s_dput {a : Addr} {kvs : List (Key × V)} {k : Key} (ha : H a = some (.dK kvs)) (hv : Ev te σ H v) (hd : Ev td σ H (.ref a)) (hk : Ev ty σ H (kV k)) (hl : kvs.length < 100000) (q : ∀ H1, Ex H H1 → D.nx σ (upd H1 a (.dK (putK kvs k v)))) : sDPut td ty te D σ H :=
  hv H (Ex.refl H) _ fun H1 e1 => hd H1 e1 _ fun H2 e2 => hk H2 (e1.trans e2) _ fun H3 e3 => ⟨a, _, rfl, DPut.k (((e1.trans e2).trans e3) a _ ha) (sz_lt hl), q H3 ((e1.trans e2).trans e3)⟩
theorem q_dnew {i : Nat} (q : ∀ p H1, H p = none → Ex H H1 → H1 p = some (.dK []) → tz D (σ.set i (some (.ref p))) H1) : tSeq (tAsg tDNewK (gName i)) tz D σ H := fun p hp => q p _ hp (Ex.new hp) upd_same
/-! sorted -/
theorem rise_ints {ys ks : List Int} {rs : List Nat} (p : ys.Perm ks) (hs : ys.Pairwise (· ≤ ·)) (nd : ks.Nodup) (hr : rs.Pairwise (· < ·)) (hm : ∀ z : Int, z ∈ ks ↔ ∃ n : Nat, n ∈ rs ∧ z = (n : Int)) : ys = rs.map fun n : Nat => (n : Int) := by
  have ndy : ys.Nodup := p.symm.nodup nd
  have hlt : ys.Pairwise (· < ·) := by
    have h2 := List.Pairwise.and hs ndy
    exact h2.imp fun h => Int.lt_iff_le_and_ne.mpr h
  have e : ys.map Int.toNat = rs := by
    refine rising_eq ?_ hr fun n => ?_
    · rw [List.pairwise_map]
      refine List.Pairwise.imp_of_mem ?_ hlt
      intro x y hx hy hxy
      obtain ⟨n, _, rfl⟩ := (hm x).mp (p.mem_iff.mp hx)
      obtain ⟨m, _, rfl⟩ := (hm y).mp (p.mem_iff.mp hy)
      omega
    · constructor
      · intro h
        obtain ⟨z, hz, rfl⟩ := List.mem_map.mp h
        obtain ⟨m, hm1, rfl⟩ := (hm z).mp (p.mem_iff.mp hz)
        exact hm1
      · intro h
        exact List.mem_map.mpr ⟨(n : Int), p.mem_iff.mpr ((hm _).mpr ⟨n, h, rfl⟩), rfl⟩
  rw [← e, List.map_map]
  have : ∀ z ∈ ys, ((fun n : Nat => (n : Int)) ∘ Int.toNat) z = z := by
    intro z hz
    obtain ⟨m, _, rfl⟩ := (hm z).mp (p.mem_iff.mp hz)
    rfl
  rw [List.map_congr_left this, List.map_id']
def rSortDI : List V → Hp → VK → Prop := fun xs H Q => ∃ (a : Addr) (kvs : List (Key × V)) (ks : List Int), xs = [.ref a] ∧ Rd H a (.dK kvs) ∧ kvs.map (·.1) = ks.map Sum.inl ∧ ks.length < 64 ∧ ∀ (ys : List Int) (p : Addr), ys.Perm ks → ys.Pairwise (· ≤ ·) → H p = none → Q (.ref p) (upd H p (.lst (ys.map V.int)))
/-- sorted(d), d with keys that are numbers -/
theorem el_sortD {a : Addr} {kvs : List (Key × V)} {ks rs : List Nat} (h : Ev ta σ H (.ref a)) (ha : H a = some (.dK kvs)) (hk : kvs.map (·.1) = ks.map fun n : Nat => Sum.inl (n : Int)) (h64 : ks.length < 64) (nd : ks.Nodup) (hr : rs.Pairwise (· < ·)) (hm : ∀ n, n ∈ ks ↔ n ∈ rs) :
    EvL (tCB rSortDI (tCons ta tNil)) σ H (vNs rs) := fun H1 e Q q =>
  h H1 e _ fun H2 e2 => ⟨a, kvs, ks.map fun n : Nat => (n : Int), rfl, .inl ((e.trans e2) a _ ha), by rw [hk, List.map_map]; rfl, by rw [List.length_map]; exact h64, fun ys p pm sr hp => by
    have ndI : (ks.map fun n : Nat => (n : Int)).Nodup := List.Pairwise.map _ (fun x y hxy => by omega) nd
    have := rise_ints pm sr ndI hr (fun z => by
      constructor
      · intro hz
        obtain ⟨n, hn, rfl⟩ := List.mem_map.mp hz
        exact ⟨n, (hm n).mp hn, rfl⟩
      · rintro ⟨n, hn, rfl⟩
        exact List.mem_map.mpr ⟨n, (hm n).mpr hn, rfl⟩)
    rw [this, List.map_map]
    exact q p _ (fresh_back e2 hp) (e2.trans (Ex.new hp)) upd_same⟩
/-- sorted(set(l)) -/
theorem el_sortSet {w : World} {a : Addr} {l rs : List Nat} (h : Ev ta σ H (.ref a)) (ha : SqL K H a (vNs l)) (hl : l.length < 64) (hr : rs.Pairwise (· < ·)) (hm : ∀ n, n ∈ l ↔ n ∈ rs) :
    EvL (tCB (rSortedSet w) (tCons (tCB (rSetL K w) (tCons ta tNil)) tNil)) σ H (vNs rs) := fun H1 e Q q =>
  h H1 e _ fun H2 e2 => ⟨a, l.map fun n : Nat => (n : Int), rfl, by rw [List.map_map]; exact ex_l (e.trans e2) ha, by rw [List.length_map]; omega, fun s c hs hc => ⟨s, _, c, rfl, upd_same, by rw [List.length_map] at hc; omega, fun ns p pw mem hlen hp => by
    have ndz : ns.Nodup := pw.imp fun h => Int.ne_of_lt h
    have := rise_ints (List.Perm.refl ns) (pw.imp fun h => Int.le_of_lt h) ndz hr (fun z => by
      rw [mem z, decide_eq_true_iff]
      constructor
      · intro hz
        obtain ⟨n, hn, rfl⟩ := List.mem_map.mp hz
        exact ⟨n, (hm n).mp hn, rfl⟩
      · rintro ⟨n, hn, rfl⟩
        exact List.mem_map.mpr ⟨n, (hm n).mpr hn, rfl⟩)
    rw [this, List.map_map]
    exact q p _ (fresh_back (e2.trans (Ex.new hs)) hp) ((e2.trans (Ex.new hs)).trans (Ex.new hp)) upd_same⟩⟩
theorem count_int (l : List Nat) (n : Nat) : (l.map fun n : Nat => (n : Int)).count (n : Int) = l.count n := by
  induction l with
  | nil => rfl
  | cons m r ih =>
    rw [List.map_cons, List.count_cons, List.count_cons, ih]
    congr 1
    by_cases h : m = n
    · subst h
      simp
    · have h2 : ¬ (m : Int) = (n : Int) := by omega
      simp [h, h2]
/-- l.count(n) -/
theorem ev_count {a : Addr} {l : List Nat} {n : Nat} (h : Ev ta σ H (.ref a)) (ha : SqL K H a (vNs l)) (hn : Ev tb σ H (vN n)) : Ev (tBM K "list" (rCntI K) ta (tCons tb tNil)) σ H (vN (l.count n)) := fun H1 e Q q =>
  h H1 e _ fun H2 e2 => ⟨.inl ⟨rfl, _, ex_l (e.trans e2) ha⟩, hn H2 (e.trans e2) _ fun H3 e3 => ⟨a, l.map fun n : Nat => (n : Int), (n : Int), rfl, rfl, by rw [List.map_map]; exact ex_l ((e.trans e2).trans e3) ha, by
    rw [count_int]
    exact q H3 (e2.trans e3)⟩⟩
theorem tyx_t {a : Addr} {xs : List V} (h : SqT K H a xs) : TyX K H (.ref a) (.type "tuple") := by
  rcases h with (h | ⟨o, h⟩) | ⟨o, its, n, hk, hc, _⟩
  · exact .base (.tup h)
  · exact .fTuple h
  · exact .kTuple hk hc
theorem dp_N_inv {l : List Nat} (h : Dp K H v (pdN l)) : ∃ a, v = .ref a ∧ SqL K H a (vNs l) := by
  cases h with
  | @lst a xs _ hq hall => exact ⟨a, rfl, by rw [← dpAll_N_inv hall]; exact hq⟩
where
  dpAll_N_inv : ∀ {l : List Nat} {xs : List V}, DpAll K H xs (l.map fun n : Nat => PyData.int (n : Int)) → xs = vNs l
    | [], _, .nil => rfl
    | n :: r, _, .cons h1 h2 => by
      cases h1
      rw [dpAll_N_inv h2]
      rfl
theorem dpAll_at : ∀ {vs : List V} {ds : List PyData} {i : Nat} {d : PyData}, DpAll K H vs ds → ds[i]? = some d → ∃ v, vs[i]? = some v ∧ Dp K H v d
  | _, _, 0, _, .cons h _, e => by
    have e1 := Option.some.inj e
    subst e1
    exact ⟨_, rfl, h⟩
  | _, _, i + 1, _, .cons _ r, e => dpAll_at (i := i) r e
  | _, _, _, _, .nil, e => by simp at e
/-! comprehensions that tell data -/
theorem new_sub {H1 H2 H3 H4 : Hp} (a : ∀ c, H2 c = none → H1 c = none) (b : ∀ c o, H2 c = none → H3 c = some o → H4 c = some o) : Ex (New H2 H3) (New H1 H4) := fun c o h => by
  cases q : H2 c with
  | some u => rw [new_old q] at h; cases h
  | none =>
    rw [new_at q] at h
    rw [new_at (a c q)]
    exact b c o q h
/-- at the turn i the list at L tells the data of what went before -/
def Dw (K : PySem.W.Frag) (H1 : Hp) (L : Addr) (ds : List PyData) (i : Nat) (H' : Hp) : Prop :=
  H1 L = none ∧ Ex H1 H' ∧ ∃ acc, H' L = some (.lst acc) ∧ DpAll K (New (upd H1 L (.lst [])) H') acc (ds.take i)
theorem dw_turn {H1 : Hp} {L : Addr} {ds : List PyData} {i : Nat} {d : PyData} {σ2 : L2.St} (p : Dw K H1 L ds i H') (hi : ds[i]? = some d) (hz : ds.length ≤ 50000) (he : EvN K te σ2 H' d) :
    te σ2 H' fun y H4 => ∃ acc, H4 L = some (.lst acc) ∧ acc.length < sizeLine ∧ Dw K H1 L ds (i + 1) (upd H4 L (.lst (acc ++ [y]))) := by
  obtain ⟨p1, p2, acc, p3, p4⟩ := p
  refine he H' (Ex.refl H') _ fun y H4 e4 hy => ⟨acc, e4 L _ p3, ?_, p1, Ex.mut (p2.trans e4) p1, acc ++ [y], upd_same, ?_⟩
  · have := dpAll_len p4
    have h2 : (ds.take i).length ≤ ds.length := by
      rw [List.length_take]
      omega
    exact sz_lt (by omega)
  · have ne : ∀ c : Addr, upd H1 L (.lst []) c = none → c ≠ L := fun c hc z => by
      rw [z, upd_same] at hc
      cases hc
    have ne2 : ∀ c : Addr, H' c = none → c ≠ L := fun c hc z => by
      rw [z, p3] at hc
      cases hc
    rw [List.take_add_one, hi]
    refine dpAll_app (DpAll.ex (new_sub (fun _ h => h) fun c o hc ho => ?_) p4) (.cons (Dp.ex (new_sub (fun c hc => ?_) fun c o hc ho => ?_) hy) .nil)
    · rw [upd_ne (ne c hc)]
      exact e4 c o ho
    · rw [upd_ne (ne2 c hc)]
      exact fresh_back p2 hc
    · rw [upd_ne (ne2 c hc)]
      exact ho
theorem dw_end {H0 H1 : Hp} {L : Addr} {ds : List PyData} {Q : VK} (e : Ex H0 H1) (p : Dw K H1 L ds ds.length H') (q : ∀ p xs H2, Ex H0 H2 → H0 p = none → H2 p = some (.lst xs) → DpAll K (New H0 H2) xs ds → Q (.ref p) H2) : Q (.ref L) H' := by
  obtain ⟨p1, p2, acc, p3, p4⟩ := p
  rw [List.take_length] at p4
  refine q L acc H' (e.trans p2) (fresh_back e p1) p3 (DpAll.ex (new_sub (fun c hc => ?_) fun _ _ _ h => h) p4)
  refine fresh_back e ?_
  by_cases z : c = L
  · rw [z, upd_same] at hc
    cases hc
  · rw [upd_ne z] at hc
    exact hc
theorem dw_start {H1 : Hp} {L : Addr} {ds : List PyData} (hL : H1 L = none) : Dw K H1 L ds 0 (upd H1 L (.lst [])) := ⟨hL, Ex.new hL, [], upd_same, by rw [List.take_zero]; exact .nil⟩
/-- [data for i in range(n)] -/
theorem em_mapR {ta : TA} {j : Nat} {vs : List Nat} {n : Nat} (g : Nat → PyData) (h : EvA ta σ H [vN n]) (hn : n ≤ 40000)
    (he : ∀ i, i < n → ∀ H1, Ex H H1 → EvN K te ((wipe σ vs).set j (some (vN i))) H1 (g i)) (hw : ∀ x, wipe ((wipe σ vs).set j (some x)) vs = wipe σ vs := by intro _; rfl) :
    EvM K (tLc (iRng1 ta) (gName j) tYes te vs) σ H ((List.range n).map g) := fun H0 e Q q =>
  h H0 e _ fun H1 e1 => ⟨(n : Int), rfl, by omega, by omega, fun L hL => lc_range (lo := 0) (n := (n : Int).toNat) (Dw K H1 L ((List.range n).map g)) (dw_start hL) (fun i H' hi p => by
      have hi' : i < n := by omega
      have e0 : (0 : Int) + (i : Int) = (i : Int) := Int.zero_add _
      show wipe ((wipe σ vs).set j (some (.int ((0 : Int) + (i : Int))))) vs = wipe σ vs ∧ te ((wipe σ vs).set j (some (.int ((0 : Int) + (i : Int))))) H' _
      rw [e0]
      exact ⟨hw _, dw_turn (d := g i) p (by rw [List.getElem?_map, List.getElem?_range hi']; rfl) (by rw [List.length_map, List.length_range]; omega) (he i hi' H' ((e.trans e1).trans p.2.1))⟩)
    (fun H' p => dw_end e1 (by rw [List.length_map, List.length_range]; rw [Int.toNat_natCast] at p; exact p) q)⟩
/-- [data for x in xs], xs a new list -/
theorem em_mapN {xs : List V} {j : Nat} {vs : List Nat} (g : V → PyData) (h : EvL tl σ H xs) (hz : xs.length ≤ 40000)
    (he : ∀ x ∈ xs, ∀ H1, Ex H H1 → EvN K te ((wipe σ vs).set j (some x)) H1 (g x)) (hw : ∀ x, wipe ((wipe σ vs).set j (some x)) vs = wipe σ vs := by intro _; rfl) :
    EvM K (tLc (iList K tl) (gName j) tYes te vs) σ H (xs.map g) := fun H0 e Q q =>
  h H0 e _ fun a H1 na e1 ha => ⟨a, rfl, ⟨xs, sq_of ha⟩, fun L hL => lc_list (xs := xs) (Dw K H1 L (xs.map g)) (dw_start hL) (fun i H' _ p => sq_of (p.2.1 a _ ha)) (fun i x H' hi p =>
      ⟨hw x, dw_turn (d := g x) p (by rw [List.getElem?_map, hi]; rfl) (by rw [List.length_map]; omega) (he x (List.mem_of_getElem? hi) H' ((e.trans e1).trans p.2.1))⟩)
    (fun H' p => dw_end e1 (by rw [List.length_map]; exact p) q)⟩
end
/-- a def that tells a new list of data -/
def RetM (K : PySem.W.Frag) (ds : List PyData) (H : Hp) (Q : VK) : Prop := ∀ p xs H2, Ex H H2 → H p = none → H2 p = some (.lst xs) → DpAll K (New H H2) xs ds → Q (.ref p) H2
def SpM (K : PySem.W.Frag) (sp : Sp) (vs : List V) (H : Hp) (ds : List PyData) : Prop := ∀ H1, Ex H H1 → ∀ Q : VK, RetM K ds H1 Q → ∀ E : XK, sp vs H1 Q E
section
variable {K : PySem.W.Frag} {σ : L2.St} {H : Hp} {te : TE} {ds : List PyData} {D : Ends}
theorem em_call {sp : Sp} {dvs vs : List V} {E : XK} {ta : TA} (h : EvA ta σ H vs) (hs : SpM K sp (vs ++ dvs) H ds) : EvM K (tCall sp dvs E ta) σ H ds := fun H1 e Q q =>
  h H1 e _ fun H2 e2 => hs H2 (e.trans e2) Q (fun p xs H3 e3 np hp hall => q p xs H3 (e2.trans e3) (fresh_back e2 np) hp (DpAll.ex (new_mono e2 (Ex.refl H3)) hall)) E
theorem em_callL {sp : Sp} {dvs vs ys : List V} {E : XK} {tr : TA} (h : EvL te σ H ys) (hr : EvA tr σ H vs) (hs : ∀ p H1, Ex H H1 → H1 p = some (.lst ys) → SpM K sp ((.ref p :: vs) ++ dvs) H1 ds) : EvM K (tCall sp dvs E (tCons te tr)) σ H ds := fun H1 e Q q =>
  h H1 e _ fun p H2 np e2 hp => hr H2 (e.trans e2) _ fun H3 e3 => hs p H3 ((e.trans e2).trans e3) (e3 p _ hp) H3 (Ex.refl H3) Q (fun u xs H4 e4 nu hu hall => q u xs H4 ((e2.trans e3).trans e4) (fresh_back (e2.trans e3) nu) hu (DpAll.ex (new_mono (e2.trans e3) (Ex.refl H4)) hall)) E
theorem s_retM (h : EvM K te σ H ds) (k : RetM K ds H D.rt) : tRet te D σ H := h H (Ex.refl H) _ k
theorem RetM.back {H0 : Hp} {Q : VK} (k : RetM K ds H0 Q) (e : Ex H0 H) : RetM K ds H Q := fun p xs H2 e2 np hp hall => k p xs H2 (e.trans e2) (fresh_back e np) hp (DpAll.ex (new_mono e (Ex.refl H2)) hall)
end
end Rt
namespace Rt
open PySem PySem.Spec PyProof.Rows L2 Evl
/-- a test of numbers as one of values -/
def vB (f : Nat → Bool) : V → Bool
  | .int i => f i.toNat
  | _ => false
theorem filt_of (f : Nat → Bool) : ∀ l : List Nat, (vNs l).filter (vB f) = vNs (l.filter f)
  | [] => rfl
  | n :: r => by
    have ih := filt_of f r
    show (vN n :: vNs r).filter _ = _
    rw [List.filter_cons, List.filter_cons, ih, show vB f (vN n) = f n from rfl]
    split <;> rfl
theorem scal_opts (o o' : Option Nat) : scal (optV o) (optV o') = true := by
  cases o <;> cases o' <;> rfl
section
variable {K : PySem.W.Frag} {σ : L2.St} {H : Hp} {ta tb te tl : TE} {x z v : V} {D : Ends} {tz : TS}
theorem dpAll_mem : ∀ {vs : List V} {ds : List PyData}, DpAll K H vs ds → ∀ x ∈ vs, ∃ d ∈ ds, Dp K H x d
  | _, _, .nil => fun x hx => by cases hx
  | _, _, .cons h r => fun x hx => by
    rcases List.mem_cons.mp hx with e | e
    · exact ⟨_, List.mem_cons_self, by rw [e]; exact h⟩
    · obtain ⟨d, h1, h2⟩ := dpAll_mem r x e
      exact ⟨d, List.mem_cons_of_mem _ h1, h2⟩
theorem dp_tup {ds : List PyData} (h : Dp K H v (.tuple ds)) : ∃ a xs, v = .ref a ∧ SqT K H a xs := by
  cases h with
  | tup hq _ => exact ⟨_, _, rfl, hq⟩
/-- a, b = (data, [..]) by a pair -/
theorem q_asgML {i j : Nat} {ds : List PyData} {ys : List V} (h : EvM K ta σ H ds) (h2 : EvL tb σ H ys)
    (k : ∀ p t Hm H1, Ex H Hm → Ex Hm H1 → Dp K (New H Hm) (.ref p) (.list ds) → Hm t = none → H1 t = some (.lst ys) → tz D ((σ.set i (some (.ref p))).set j (some (.ref t))) H1) :
    tSeq (tAsg (tTup (tCons ta (tCons tb tNil))) (gTup K 2 (gCons (gName i) (gCons (gName j) gNil)))) tz D σ H :=
  h H (Ex.refl H) _ fun p xs Hm em np hp hall => h2 Hm em _ fun t H2 nt e2 ht => ⟨by show 2 ≤ sizeLine; decide, fun c nc =>
    ⟨c, [.ref p, .ref t], rfl, st_of upd_same, rfl, .ref p, [.ref t], rfl, .ref t, [], rfl, rfl, k p t Hm _ em (e2.trans (Ex.new nc)) (.lst (sq_of (by rw [new_at np]; exact hp)) hall) nt (Ex.new nc t _ ht)⟩⟩
/-- [e for x in (a, b, ..)] -/
theorem el_mapU {xs : List V} {j : Nat} {vs : List Nat} (g : V → V) (h : EvU tl σ H xs) (hz : xs.length ≤ 40000)
    (he : ∀ x ∈ xs, ∀ H1, Ex H H1 → Ev te ((wipe σ vs).set j (some x)) H1 (g x)) (hw : ∀ x, wipe ((wipe σ vs).set j (some x)) vs = wipe σ vs := by intro _; rfl) :
    EvL (tLc (iTup K tl) (gName j) tYes te vs) σ H (xs.map g) := fun H0 e Q q =>
  h H0 e _ fun a H1 na e1 ha => ⟨a, rfl, ⟨xs, st_of ha⟩, fun L hL => lc_tup (xs := xs) (Cw H1 (fun _ => true) (fun i => g (xs.getD i .non)) L) ⟨hL, Ex.new hL, upd_same⟩ (fun i H' _ p => st_of (p.2.1 a _ ha)) (fun i x H' hi p =>
      ⟨hw x, cw_turn p (by have := (List.getElem?_eq_some_iff.mp hi).1; omega) et_yes fun _ => by
        show Ev te _ H1 (g (xs.getD i .non))
        rw [getD_of hi]
        exact he x (List.mem_of_getElem? hi) H1 (e.trans e1)⟩)
    (fun H' p => by
      have h3 := p.2.2
      have e3 := given_of xs (fun _ => true) g
      rw [List.filter_eq_self.mpr fun _ _ => rfl] at e3
      rw [e3] at h3
      exact q L H' (fresh_back e1 p.1) (e1.trans p.2.1) h3)⟩
theorem en_mono {d : PyData} {H' : Hp} (e : Ex H H') (h : EvN K te σ H d) : EvN K te σ H' d := h.mono e
end
end Rt

/-! Where the ways from the first places end, and which place is on all of them: plain Lean. -/
namespace Rt
open PySem L2
def lastsL (row : List Nat) (many : Nat) : List Nat := (List.range many).map (lastOf row)
def riseL (l : List Nat) : List Nat := (List.range 60).filter fun n => decide (n ∈ l)
theorem rise_rise (l : List Nat) : (riseL l).Pairwise (· < ·) := List.pairwise_lt_range.filter _
theorem rise_mem {l : List Nat} (h : ∀ n ∈ l, n < 60) (n : Nat) : n ∈ l ↔ n ∈ riseL l := by
  unfold riseL
  rw [List.mem_filter, decide_eq_true_iff, List.mem_range]
  exact ⟨fun z => ⟨h n z, z⟩, fun z => z.2⟩
theorem rise_len (l : List Nat) : (riseL l).length ≤ 60 := by
  have := List.length_filter_le (fun n => decide (n ∈ l)) (List.range 60)
  rw [List.length_range] at this
  exact this
def endP (l : List Nat) (n : Nat) : PyData := .tuple [.int (n : Int), .int (l.count n : Int)]
def endD (l : List Nat) : List PyData := (riseL l).map (endP l)
theorem lasts_lt {row : List Nat} {many : Nat} (h : many ≤ row.length) : ∀ n ∈ lastsL row many, n < row.length := by
  intro n hn
  obtain ⟨p, hp, rfl⟩ := List.mem_map.mp hn
  exact lastOf_lt (Nat.lt_of_lt_of_le (List.mem_range.mp hp) h)
theorem lasts_len (row : List Nat) (many : Nat) : (lastsL row many).length = many := by
  unfold lastsL
  rw [List.length_map, List.length_range]
theorem lasts_take {row : List Nat} {many i : Nat} (h : i < many) : (lastsL row many).take (i + 1) = (lastsL row many).take i ++ [lastOf row i] := by
  rw [List.take_add_one]
  unfold lastsL
  rw [List.getElem?_map, List.getElem?_range h]
  rfl
/-- a dict that tells how often each stands in l -/
structure Tal (l : List Nat) (kvs : List (Key × V)) : Prop where
  keys : ∃ ks : List Nat, kvs.map (·.1) = ks.map (fun n : Nat => (Sum.inl (n : Int) : Key)) ∧ ks.Nodup ∧ (∀ n, n ∈ ks ↔ n ∈ l)
  vals : ∀ n : Nat, valV kvs (Sum.inl (n : Int)) = if n ∈ l then some (vN (l.count n)) else none
theorem Tal.nil : Tal [] [] := ⟨⟨[], rfl, List.nodup_nil, fun n => Iff.rfl⟩, fun n => by simp [valV]⟩
theorem putK_old {kvs : List (Key × V)} {k : Key} (v : V) (h : (valV kvs k).isSome = true) : (putK kvs k v).map (·.1) = kvs.map (·.1) := by
  unfold putK
  rw [valV_any, if_pos h, List.map_map]
  refine List.map_congr_left fun p _ => ?_
  show (if p.1 = k then (p.1, v) else p).1 = p.1
  split <;> rfl
theorem key_inj {n m : Nat} : (Sum.inl (n : Int) : Key) = Sum.inl (m : Int) ↔ n = m := by
  constructor
  · intro h
    have := Sum.inl.inj h
    omega
  · intro h
    rw [h]
theorem Tal.put {l : List Nat} {kvs : List (Key × V)} (t : Tal l kvs) (x : Nat) : Tal (l ++ [x]) (putK kvs (Sum.inl (x : Int)) (vN (l.count x + 1))) := by
  obtain ⟨ks, h1, h2, h3⟩ := t.keys
  have hx := t.vals x
  constructor
  · by_cases hm : x ∈ l
    · rw [if_pos hm] at hx
      refine ⟨ks, ?_, h2, fun n => ?_⟩
      · rw [putK_old _ (by rw [hx]; rfl), h1]
      · rw [h3 n, List.mem_append, List.mem_singleton]
        exact ⟨fun z => .inl z, fun z => z.elim id fun z => by rw [z]; exact hm⟩
    · rw [if_neg hm] at hx
      refine ⟨ks ++ [x], ?_, nd_snoc h2 (fun z => hm ((h3 x).mp z)), fun n => ?_⟩
      · rw [putK_new _ hx, List.map_append, List.map_append, h1]
        rfl
      · rw [List.mem_append, List.mem_append, h3 n]
  · intro n
    rw [valV_put, List.count_append]
    by_cases hn : n = x
    · subst hn
      rw [if_pos rfl, if_pos (List.mem_append.mpr (.inr (List.mem_singleton.mpr rfl)))]
      simp
    · rw [if_neg (fun z => hn (key_inj.mp z)), t.vals n]
      have h0 : [x].count n = 0 := List.count_eq_zero.mpr (by simpa using hn)
      rw [h0, Nat.add_zero]
      by_cases hm : n ∈ l
      · rw [if_pos hm, if_pos (List.mem_append.mpr (.inl hm))]
      · rw [if_neg hm, if_neg (by rw [List.mem_append, List.mem_singleton]; exact fun z => z.elim hm hn)]
theorem nodup_len : ∀ (n : Nat) (ks : List Nat), ks.Nodup → (∀ k ∈ ks, k < n) → ks.length ≤ n
  | 0, ks, _, h => by
    cases ks with
    | nil => exact Nat.le_refl _
    | cons k r => exact absurd (h k List.mem_cons_self) (Nat.not_lt_zero k)
  | n + 1, ks, hn, h => by
    have ih := nodup_len n (ks.erase n) (hn.erase n) fun k hk => by
      obtain ⟨h1, h2⟩ := (hn.mem_erase_iff).mp hk
      have := h k h2
      omega
    by_cases hm : n ∈ ks
    · rw [List.length_erase_of_mem hm] at ih
      omega
    · rw [List.erase_of_not_mem hm] at ih
      omega
theorem Tal.len {l : List Nat} {kvs : List (Key × V)} (t : Tal l kvs) (h : ∀ n ∈ l, n < 60) : kvs.length ≤ 60 := by
  obtain ⟨ks, h1, h2, h3⟩ := t.keys
  have e : kvs.length = ks.length := by
    have := congrArg List.length h1
    rw [List.length_map, List.length_map] at this
    exact this
  have hs := nodup_len 60 ks h2 fun n hn => h n ((h3 n).mp hn)
  omega
/-! the first place on all ways -/
def runL (row : List Nat) (k : Nat) : List Nat := (way row 0).filter fun p => (List.range k).all fun q => decide (p ∈ way row q)
theorem runL_one (row : List Nat) : runL row 1 = way row 0 := by
  unfold runL
  refine List.filter_eq_self.mpr fun p hp => ?_
  show (decide (p ∈ way row 0) && true) = true
  rw [decide_eq_true hp]
  rfl
theorem runL_succ (row : List Nat) (k : Nat) : runL row (k + 1) = (runL row k).filter fun p => decide (p ∈ way row k) := by
  unfold runL
  rw [List.filter_filter]
  refine List.filter_congr fun p _ => ?_
  rw [List.range_succ, List.all_append]
  simp [Bool.and_comm]
def runBy (row : List Nat) (many : Nat) : Option Nat := (runL row many).head?
end Rt
namespace Rt
open PySem L2
/-- a list of pairs of small numbers, as data -/
theorem good_pairs : ∀ ds : List PyData, (∀ d ∈ ds, ∃ a b : Nat, a < 10 ^ 6 ∧ b < 10 ^ 6 ∧ d = .tuple [.int (a : Int), .int (b : Int)]) → PyData.canLayAll0 ds = true ∧ PyData.depthAll ds ≤ 1 ∧ PyData.showableAll ds = true ∧ PyData.leavesShortAll 13 ds = true ∧ PyData.weightAll ds ≤ 43 * ds.length
  | [], _ => ⟨rfl, Nat.zero_le _, rfl, rfl, Nat.le_refl _⟩
  | d :: r, h => by
    obtain ⟨h1, h2, h3, h4, h5⟩ := good_pairs r fun m hm => h m (List.mem_cons_of_mem _ hm)
    obtain ⟨a, b, ha, hb, rfl⟩ := h d List.mem_cons_self
    obtain ⟨g1, g2, g3, g4, g5⟩ := good_all [a, b] (by
      intro n hn
      rcases List.mem_cons.mp hn with e | e
      · rw [e]
        exact ha
      · rw [List.mem_singleton.mp e]
        exact hb)
    have e : ([a, b].map fun n : Nat => PyData.int (n : Int)) = [.int (a : Int), .int (b : Int)] := rfl
    rw [e] at g1 g2 g3 g4 g5
    refine ⟨?_, ?_, ?_, ?_, ?_⟩
    · rw [PyData.canLayAll0, h1, PyData.canLay0, g1]
      rfl
    · rw [PyData.depthAll, PyData.depth, g2]
      omega
    · rw [PyData.showableAll, h3, PyData.showable, g3]
      rfl
    · rw [PyData.leavesShortAll, h4, PyData.leavesShort, g4]
      rfl
    · rw [PyData.weightAll, PyData.weight, List.length_cons]
      have : [a, b].length = 2 := rfl
      rw [this] at g5
      omega
theorem good_of_pairs {ds : List PyData} (h : ∀ d ∈ ds, ∃ a b : Nat, a < 10 ^ 6 ∧ b < 10 ^ 6 ∧ d = .tuple [.int (a : Int), .int (b : Int)]) (hl : ds.length ≤ 10000) : Good (.list ds) := by
  obtain ⟨h1, h2, h3, h4, h5⟩ := good_pairs ds h
  refine ⟨h1, ?_, h3, h4, ?_⟩
  · rw [PyData.depth]
    omega
  · rw [PyData.weight]
    omega
theorem good_end {row : List Nat} {many : Nat} (h : many ≤ row.length) (h60 : row.length ≤ 60) : Good (.list (endD (lastsL row many))) := by
  refine good_of_pairs (fun d hd => ?_) ?_
  · obtain ⟨n, hn, rfl⟩ := List.mem_map.mp hd
    have hn2 : n < 60 := List.mem_range.mp (List.mem_filter.mp hn).1
    have hc : (lastsL row many).count n ≤ many := by
      have := List.count_le_length (a := n) (l := lastsL row many)
      rw [lasts_len] at this
      exact this
    exact ⟨n, (lastsL row many).count n, by omega, by omega, rfl⟩
  · unfold endD
    rw [List.length_map]
    have := rise_len (lastsL row many)
    omega
end Rt

/-! The table of states, by distances: plain Lean. -/
namespace Rt
abbrev Tab := Nat → Nat → Nat
def addT (t : Tab) (q l v : Nat) : Tab := fun q2 l2 => if q2 = q ∧ l2 = l then t q2 l2 + v else t q2 l2
def gap (a k : Nat) : Nat := (a - k) + (k - a)
def cardS (c m p a w : Nat) (t : Tab) (k : Nat) : Tab := if 0 < a ∧ (p + min k a) + gap a k < m then addT t (p + min k a) (gap a k) (w * c ^ (min k a - 1)) else t
def cardsS (c m p a w : Nat) (t : Tab) (n : Nat) : Tab := (List.range n).foldl (fun t i => cardS c m p a w t (i + 1)) t
def aheadS (c m p : Nat) (t : Tab) (a : Nat) : Tab := cardsS c m p a (t p a) t c
def placeS (c m : Nat) (t : Tab) (p : Nat) : Tab := (List.range m).foldl (aheadS c m p) t
def initT (far : Nat) : Tab := fun q l => if q = 0 ∧ l = far then 1 else 0
def tabS (c m far n : Nat) : Tab := (List.range n).foldl (placeS c m) (initT far)
def meetL (c m far : Nat) : List Nat := (List.range m).map fun q => tabS c m far m q 0 * c ^ (m - q)
theorem cardsS_succ (c m p a w : Nat) (t : Tab) (n : Nat) : cardsS c m p a w t (n + 1) = cardS c m p a w (cardsS c m p a w t n) (n + 1) := by
  unfold cardsS
  rw [List.range_succ, List.foldl_append]
  rfl
theorem tabS_succ (c m far n : Nat) : tabS c m far (n + 1) = placeS c m (tabS c m far n) n := by
  unfold tabS
  rw [List.range_succ, List.foldl_append]
  rfl
theorem addT_zero (t : Tab) (q l : Nat) : addT t q l 0 = t := by
  funext q2 l2
  unfold addT
  split <;> rfl
theorem cardS_zero (c m p a : Nat) (t : Tab) (k : Nat) : cardS c m p a 0 t k = t := by
  unfold cardS
  split
  · rw [Nat.zero_mul, addT_zero]
  · rfl
theorem cardsS_zero (c m p a : Nat) (t : Tab) : ∀ n, cardsS c m p a 0 t n = t
  | 0 => rfl
  | n + 1 => by rw [cardsS_succ, cardsS_zero c m p a t n, cardS_zero]
/-- what stands at the place itself or before is not changed -/
theorem cardS_old {c m p a w : Nat} {t : Tab} {k q l : Nat} (hk : 1 ≤ k) (hq : q ≤ p) : cardS c m p a w t k q l = t q l := by
  unfold cardS
  split
  · rename_i h
    unfold addT
    rw [if_neg (by omega)]
  · rfl
theorem cardsS_old {c m p a w : Nat} {t : Tab} {q l : Nat} (hq : q ≤ p) : ∀ n, cardsS c m p a w t n q l = t q l
  | 0 => rfl
  | n + 1 => by rw [cardsS_succ, cardS_old (by omega) hq, cardsS_old hq n]
theorem aheadS_old {c m p : Nat} {t : Tab} {a q l : Nat} (hq : q ≤ p) : aheadS c m p t a q l = t q l := cardsS_old hq c
theorem aheadF_old {c m p : Nat} {q l : Nat} (hq : q ≤ p) : ∀ (as : List Nat) (t : Tab), as.foldl (aheadS c m p) t q l = t q l
  | [], _ => rfl
  | a :: r, t => by rw [List.foldl_cons, aheadF_old hq r, aheadS_old hq]
theorem aheadS_zero {c m p : Nat} {t : Tab} {a : Nat} (h : t p a = 0) : aheadS c m p t a = t := by
  unfold aheadS
  rw [h, cardsS_zero]
/-- going by those distances alone at which something stands -/
theorem aheadF_keys {c m p : Nat} (f : Nat → Bool) : ∀ (as : List Nat) (t : Tab), (∀ a, f a = false → t p a = 0) → (as.filter f).foldl (aheadS c m p) t = as.foldl (aheadS c m p) t
  | [], _, _ => rfl
  | a :: r, t, h => by
    have h2 : ∀ b, f b = false → aheadS c m p t a p b = 0 := fun b hb => by
      rw [aheadS_old (Nat.le_refl p)]
      exact h b hb
    rw [List.filter_cons]
    cases hf : f a with
    | true =>
      show (a :: r.filter f).foldl _ t = _
      rw [List.foldl_cons, List.foldl_cons, aheadF_keys f r _ h2]
    | false =>
      show (r.filter f).foldl _ t = _
      rw [aheadF_keys f r t h, List.foldl_cons, aheadS_zero (h a hf)]
theorem foldl_take {α β : Type} (f : β → α → β) (t : β) {l : List α} {i : Nat} {x : α} (h : l[i]? = some x) : (l.take (i + 1)).foldl f t = f ((l.take i).foldl f t) x := by
  rw [List.take_add_one, h, List.foldl_append]
  rfl
/-! bounds, crude ones -/
def Bd (t : Tab) (n : Nat) : Prop := ∀ q l, t q l < 2 ^ (90 * n + 1)
theorem Bd.mono {t : Tab} {n n2 : Nat} (h : Bd t n) (hn : n ≤ n2) : Bd t n2 := fun q l => Nat.lt_of_lt_of_le (h q l) (Nat.pow_le_pow_right (by decide) (by omega))
theorem pow_bd {c k : Nat} (hc : c ≤ 20) (hk : k ≤ 19) : c ^ k < 2 ^ 83 := by
  have h1 : c ^ k ≤ 20 ^ k := Nat.pow_le_pow_left hc k
  have h2 : 20 ^ k ≤ 20 ^ 19 := Nat.pow_le_pow_right (by decide) hk
  have h3 : (20 : Nat) ^ 19 < 2 ^ 83 := by decide
  omega
theorem Bd.card {t : Tab} {c m p a w k n : Nat} (h : Bd t n) (hw : w < 2 ^ (90 * n + 1)) (hc : c ≤ 20) (hk : k ≤ 20) : Bd (cardS c m p a w t k) (n + 1) := by
  intro q l
  unfold cardS
  have up : 2 ^ (90 * n + 1) ≤ 2 ^ (90 * (n + 1) + 1) := Nat.pow_le_pow_right (by decide) (by omega)
  split
  · unfold addT
    split
    · have h1 := h q l
      have h2 : w * c ^ (min k a - 1) < 2 ^ (90 * n + 1) * 2 ^ 83 := Nat.mul_lt_mul'' hw (pow_bd hc (by omega))
      have e : 2 ^ (90 * (n + 1) + 1) = 2 ^ (90 * n + 1) * 2 ^ 90 := by rw [← Nat.pow_add, show 90 * (n + 1) + 1 = 90 * n + 1 + 90 by omega]
      have h3 : 2 ^ (90 * n + 1) * (1 + 2 ^ 83) ≤ 2 ^ (90 * n + 1) * 2 ^ 90 := Nat.mul_le_mul_left _ (by decide)
      rw [Nat.mul_add, Nat.mul_one] at h3
      rw [e]
      exact Nat.lt_of_lt_of_le (Nat.add_lt_add h1 h2) h3
    · exact Nat.lt_of_lt_of_le (h q l) up
  · exact Nat.lt_of_lt_of_le (h q l) up
theorem Bd.init (far : Nat) : Bd (initT far) 0 := by
  intro q l
  unfold initT
  split <;> decide
end Rt

/-! A list of dicts, each a row of a table. -/
namespace Rt
open PySem PySem.Spec PyProof.Rows L2 Evl
/-- the dict tells g; where it has no key g is 0 -/
structure Rep (g : Nat → Nat) (kvs : List (Key × V)) (ks : List Nat) (m : Nat) : Prop where
  keys : kvs.map (·.1) = ks.map (fun n : Nat => (Sum.inl (n : Int) : Key))
  nd : ks.Nodup
  lt : ∀ n ∈ ks, n < m
  vals : ∀ n : Nat, valV kvs (Sum.inl (n : Int)) = if n ∈ ks then some (vN (g n)) else none
  zero : ∀ n, n ∉ ks → g n = 0
theorem Rep.nil (m : Nat) : Rep (fun _ => 0) [] [] m := ⟨rfl, List.nodup_nil, (fun n h => by cases h), (fun n => by simp [valV]), fun _ _ => rfl⟩
theorem Rep.get {g : Nat → Nat} {kvs : List (Key × V)} {ks : List Nat} {m : Nat} (r : Rep g kvs ks m) (n : Nat) : (valV kvs (Sum.inl (n : Int))).getD (.int 0) = vN (g n) := by
  rw [r.vals]
  split
  · rfl
  · rename_i h
    rw [r.zero n h]
    rfl
theorem Rep.len {g : Nat → Nat} {kvs : List (Key × V)} {ks : List Nat} {m : Nat} (r : Rep g kvs ks m) : kvs.length ≤ m := by
  have e := congrArg List.length r.keys
  rw [List.length_map, List.length_map] at e
  have := nodup_len m ks r.nd r.lt
  omega
theorem Rep.put {g : Nat → Nat} {kvs : List (Key × V)} {ks : List Nat} {m l v : Nat} (r : Rep g kvs ks m) (hl : l < m) : ∃ ks2, Rep (fun n => if n = l then g n + v else g n) (putK kvs (Sum.inl (l : Int)) (vN (g l + v))) ks2 m := by
  have hx := r.vals l
  by_cases hm : l ∈ ks
  · rw [if_pos hm] at hx
    refine ⟨ks, ?_, r.nd, r.lt, fun n => ?_, fun n hn => ?_⟩
    · rw [putK_old _ (by rw [hx]; rfl), r.keys]
    · rw [valV_put]
      by_cases e : n = l
      · subst e
        rw [if_pos rfl, if_pos hm, if_pos rfl]
      · rw [if_neg (fun z => e (key_inj.mp z)), r.vals n, if_neg e]
    · have e : ¬ n = l := fun z => hn (by rw [z]; exact hm)
      rw [if_neg e]
      exact r.zero n hn
  · rw [if_neg hm] at hx
    refine ⟨ks ++ [l], ?_, nd_snoc r.nd hm, fun n hn => ?_, fun n => ?_, fun n hn => ?_⟩
    · rw [putK_new _ hx, List.map_append, List.map_append, r.keys]
      rfl
    · rcases List.mem_append.mp hn with h | h
      · exact r.lt n h
      · rw [List.mem_singleton.mp h]
        exact hl
    · rw [valV_put]
      by_cases e : n = l
      · subst e
        rw [if_pos rfl, if_pos rfl, if_pos (List.mem_append.mpr (.inr (List.mem_singleton.mpr rfl)))]
      · rw [if_neg (fun z => e (key_inj.mp z)), r.vals n, if_neg e]
        by_cases h2 : n ∈ ks
        · rw [if_pos h2, if_pos (List.mem_append.mpr (.inl h2))]
        · rw [if_neg h2, if_neg (by rw [List.mem_append, List.mem_singleton]; exact fun z => z.elim h2 e)]
    · have h1 : n ∉ ks := fun z => hn (List.mem_append.mpr (.inl z))
      have e : ¬ n = l := fun z => hn (List.mem_append.mpr (.inr (List.mem_singleton.mpr z)))
      rw [if_neg e]
      exact r.zero n h1
/-- the list at f: its dicts at fs, new beside H0, tell the table t -/
structure DictsAt (H0 H : Hp) (f : Addr) (fs : List Addr) (t : Tab) (m : Nat) : Prop where
  ex : Ex H0 H
  lst : H f = some (.lst (fs.map V.ref))
  len : fs.length = m
  nd : fs.Nodup
  nf : f ∉ fs
  new : ∀ a ∈ fs, H0 a = none
  newf : H0 f = none
  tab : ∀ p a, fs[p]? = some a → ∃ kvs ks, H a = some (.dK kvs) ∧ Rep (t p) kvs ks m
theorem DictsAt.go {H0 H H1 : Hp} {f : Addr} {fs : List Addr} {t : Tab} {m : Nat} (d : DictsAt H0 H f fs t m) (e : Ex H H1) : DictsAt H0 H1 f fs t m :=
  ⟨d.ex.trans e, e f _ d.lst, d.len, d.nd, d.nf, d.new, d.newf, fun p a h => (d.tab p a h).elim fun kvs z => z.elim fun ks y => ⟨kvs, ks, e a _ y.1, y.2⟩⟩
theorem DictsAt.at {H0 H : Hp} {f : Addr} {fs : List Addr} {t : Tab} {m p : Nat} (d : DictsAt H0 H f fs t m) (hp : p < m) : ∃ a, fs[p]? = some a ∧ a ∈ fs := by
  have h : p < fs.length := by
    rw [d.len]
    exact hp
  exact ⟨fs[p], List.getElem?_eq_getElem h, List.getElem_mem h⟩
theorem DictsAt.put {H0 H : Hp} {f : Addr} {fs : List Addr} {t : Tab} {m q l v : Nat} {a : Addr} {kvs : List (Key × V)} {ks : List Nat} (d : DictsAt H0 H f fs t m) (ha : fs[q]? = some a) (hk : H a = some (.dK kvs)) (r : Rep (t q) kvs ks m) (hl : l < m) :
    DictsAt H0 (upd H a (.dK (putK kvs (Sum.inl (l : Int)) (vN (t q l + v))))) f fs (addT t q l v) m := by
  have ham : a ∈ fs := List.mem_of_getElem? ha
  refine ⟨Ex.mut d.ex (d.new a ham), ?_, d.len, d.nd, d.nf, d.new, d.newf, fun p b hb => ?_⟩
  · rw [upd_ne (fun z => d.nf (by rw [z]; exact ham))]
    exact d.lst
  · by_cases e : p = q
    · subst e
      have eb : b = a := Option.some.inj (hb.symm.trans ha)
      subst eb
      obtain ⟨ks2, r2⟩ := r.put (v := v) hl
      refine ⟨_, ks2, upd_same, ?_⟩
      have e2 : addT t p l v p = fun n => if n = l then t p n + v else t p n := by
        funext n
        unfold addT
        by_cases h : n = l
        · rw [if_pos ⟨rfl, h⟩, if_pos h]
        · rw [if_neg (fun z => h z.2), if_neg h]
      rw [e2]
      exact r2
    · have nb : b ≠ a := fun z => by
        subst z
        exact e (nd_ix d.nd hb ha)
      obtain ⟨kv, k2, h1, h2⟩ := d.tab p b hb
      refine ⟨kv, k2, by rw [upd_ne nb]; exact h1, ?_⟩
      have e2 : addT t q l v p = t p := by
        funext n
        unfold addT
        rw [if_neg (fun z => e z.1)]
      rw [e2]
      exact h2
section
variable {K : PySem.W.Frag} {σ : L2.St} {H : Hp} {ta tb td te ty : TE} {x v : V} {D : Ends} {tz : TS}
/-- found[p], a list of dicts -/
theorem ev_dict {H0 : Hp} {f : Addr} {fs : List Addr} {t : Tab} {m p : Nat} {a : Addr} (d : DictsAt H0 H f fs t m) (ha : fs[p]? = some a) (h1 : Ev ta σ H (.ref f)) (h2 : Ev tb σ H (vN p)) : Ev (tOp (rIxL K) ta tb) σ H (.ref a) :=
  ev_op h1 h2 (rv_ixL (sq_of d.lst) (atI_nat (by rw [List.getElem?_map, ha]; rfl)))
theorem q_dput {a : Addr} {kvs : List (Key × V)} {k : Key} (ha : H a = some (.dK kvs)) (hv : Ev te σ H v) (hd : Ev td σ H (.ref a)) (hk : Ev ty σ H (kV k)) (hl : kvs.length < 100000) (q : ∀ H1, Ex H H1 → tz D σ (upd H1 a (.dK (putK kvs k v)))) : tSeq (sDPut td ty te) tz D σ H := s_dput (D := { D with nx := tz D }) ha hv hd hk hl q
/-- found = [{} for p in range(n)] -/
theorem q_dicts {ta : TA} {i j n : Nat} {vs : List Nat} (h : EvA ta σ H [vN n]) (hn : n ≤ 40000) (k : ∀ f fs H1, DictsAt H H1 f fs (fun _ _ => 0) n → tz D (σ.set i (some (.ref f))) H1) (hw : ∀ x, wipe ((wipe σ vs).set j (some x)) vs = wipe σ vs := by intro _; rfl) :
    tSeq (tAsg (tLc (iRng1 ta) (gName j) tYes tDNewK vs) (gName i)) tz D σ H :=
  h H (Ex.refl H) _ fun H1 e1 => ⟨(n : Int), rfl, by omega, by omega, fun L hL =>
    lc_range (lo := 0) (n := (n : Int).toNat) (fun c H' => Ex H1 H' ∧ ∃ fs : List Addr, H' L = some (.lst (fs.map V.ref)) ∧ fs.length = c ∧ fs.Nodup ∧ L ∉ fs ∧ ∀ a ∈ fs, H1 a = none ∧ H' a = some (.dK []))
      ⟨Ex.new hL, [], upd_same, rfl, List.nodup_nil, (fun z => by cases z), (fun a z => by cases z)⟩
      (fun c H' hc ⟨x1, fs, x2, x3, x4, x5, x6⟩ => ⟨hw _, fun p hp => by
        have npL : p ≠ L := fun z => by
          rw [z, x2] at hp
          cases hp
        have npf : p ∉ fs := fun z => by
          rw [(x6 p z).2] at hp
          cases hp
        refine ⟨fs.map V.ref, by rw [upd_ne (Ne.symm npL)]; exact x2, sz_lt (by rw [List.length_map]; omega), Ex.mut (x1.trans (Ex.new hp)) hL, fs ++ [p], ?_, ?_, nd_snoc x4 npf, ?_, ?_⟩
        · rw [upd_same, List.map_append]
          rfl
        · rw [List.length_append, x3]
          rfl
        · rw [List.mem_append, List.mem_singleton]
          exact fun z => z.elim x5 fun z => npL z.symm
        · intro a ha
          rcases List.mem_append.mp ha with h1 | h1
          · have naL : a ≠ L := fun z => x5 (by rw [← z]; exact h1)
            have nap : a ≠ p := fun z => npf (by rw [← z]; exact h1)
            rw [upd_ne naL, upd_ne nap]
            exact x6 a h1
          · rw [List.mem_singleton.mp h1, upd_ne npL, upd_same]
            exact ⟨fresh_back x1 hp, rfl⟩⟩)
      (fun H' ⟨x1, fs, x2, x3, x4, x5, x6⟩ => k L fs H' ⟨e1.trans x1, x2, by rw [Int.toNat_natCast] at x3; exact x3, x4, x5, fun a ha => fresh_back e1 (x6 a ha).1, fresh_back e1 hL, fun p a ha => ⟨[], [], (x6 a (List.mem_of_getElem? ha)).2, Rep.nil n⟩⟩)⟩
def rAbs : List V → Hp → VK → Prop := fun xs H Q => ∃ i, xs = [.int i] ∧ Q (.int (if i < 0 then -i else i)) H
theorem ev_abs {i : Int} (h : Ev ta σ H (.int i)) : Ev (tCB rAbs (tCons ta tNil)) σ H (.int (if i < 0 then -i else i)) := fun H1 e Q q => h H1 e _ fun H2 e2 => ⟨i, rfl, q H2 e2⟩
theorem vNs_sum (l : List Nat) : (l.map fun n : Nat => (n : Int)).sum = ((l.sum : Nat) : Int) := by
  induction l with
  | nil => rfl
  | cons n r ih => rw [List.map_cons, List.sum_cons, List.sum_cons, ih, Int.natCast_add]
/-- sum(a new list) -/
theorem ev_sumN {l : List Nat} (h : EvL ta σ H (vNs l)) : Ev (tCB (rSum K) (tCons ta tNil)) σ H (vN l.sum) := fun H1 e Q q =>
  h H1 e _ fun p H2 np e2 hp => ⟨p, l.map fun n : Nat => (n : Int), rfl, sq_of (by rw [hp, List.map_map]; rfl), by
    rw [vNs_sum]
    exact q H2 e2⟩
theorem ev_sum {l : List Nat} {a : Addr} (h : Ev ta σ H (.ref a)) (ha : SqL K H a (vNs l)) : Ev (tCB (rSum K) (tCons ta tNil)) σ H (vN l.sum) := fun H1 e Q q =>
  h H1 e _ fun H2 e2 => ⟨a, l.map fun n : Nat => (n : Int), rfl, by rw [List.map_map]; exact ex_l (e.trans e2) ha, by
    rw [vNs_sum]
    exact q H2 e2⟩
end
/-- a def that tells a new tuple -/
def RetU (xs : List V) (H : Hp) (Q : VK) : Prop := ∀ p H2, H p = none → Ex H H2 → H2 p = some (.tup xs) → Q (.ref p) H2
def SpU (sp : Sp) (vs : List V) (H : Hp) (xs : List V) : Prop := ∀ H1, Ex H H1 → ∀ Q : VK, RetU xs H1 Q → ∀ E : XK, sp vs H1 Q E
theorem eu_call {σ : L2.St} {H : Hp} {sp : Sp} {dvs vs xs : List V} {E : XK} {ta : TA} (h : EvA ta σ H vs) (hs : SpU sp (vs ++ dvs) H xs) : EvU (tCall sp dvs E ta) σ H xs := fun H1 e Q q =>
  h H1 e _ fun H2 e2 => hs H2 (e.trans e2) Q (fun p H3 hp e3 h3 => q p H3 (fresh_back e2 hp) (e2.trans e3) h3) E
end Rt

/-! All rows counted, and the table of states against any weights that go back by the cards. Plain Lean. -/
namespace Rt
def sumN : Nat → (Nat → Nat) → Nat
  | 0, _ => 0
  | n + 1, f => sumN n f + f n
theorem sumN_congr {f g : Nat → Nat} : ∀ {n}, (∀ i, i < n → f i = g i) → sumN n f = sumN n g
  | 0, _ => rfl
  | n + 1, h => by
    show sumN n f + f n = sumN n g + g n
    rw [sumN_congr fun i hi => h i (by omega), h n (by omega)]
theorem sumN_zero : ∀ n, sumN n (fun _ => 0) = 0
  | 0 => rfl
  | n + 1 => by
    show sumN n _ + 0 = 0
    rw [sumN_zero n]
theorem sumN_nil {f : Nat → Nat} {n : Nat} (h : ∀ i, i < n → f i = 0) : sumN n f = 0 := (sumN_congr h).trans (sumN_zero n)
theorem sumN_add (f g : Nat → Nat) : ∀ n, sumN n (fun i => f i + g i) = sumN n f + sumN n g
  | 0 => rfl
  | n + 1 => by
    show sumN n _ + (f n + g n) = (sumN n f + f n) + (sumN n g + g n)
    rw [sumN_add f g n]
    omega
theorem sumN_mul (v : Nat) (f : Nat → Nat) : ∀ n, sumN n (fun i => v * f i) = v * sumN n f
  | 0 => rfl
  | n + 1 => by
    show sumN n _ + _ = v * (sumN n f + f n)
    rw [sumN_mul v f n, Nat.mul_add]
/-- one place of a sum -/
theorem sumN_one {f g : Nat → Nat} {j v : Nat} : ∀ {n}, j < n → f j = g j + v → (∀ i, i < n → i ≠ j → f i = g i) → sumN n f = sumN n g + v
  | 0, h, _, _ => by omega
  | n + 1, h, h1, h2 => by
    show sumN n f + f n = sumN n g + g n + v
    by_cases e : j = n
    · subst e
      rw [sumN_congr fun i hi => h2 i (by omega) (by omega), h1]
      omega
    · rw [sumN_one (n := n) (by omega) h1 fun i hi hn => h2 i (by omega) hn, h2 n (by omega) (by omega)]
      omega
theorem sumN_range (f : Nat → Nat) : ∀ n, ((List.range n).map f).sum = sumN n f
  | 0 => rfl
  | n + 1 => by
    rw [List.range_succ, List.map_append, List.sum_append, sumN_range f n]
    show _ + (f n + 0) = _ + f n
    rfl
def pairT (m : Nat) (t W : Tab) : Nat := sumN m fun q => sumN m fun l => t q l * W q l
theorem pair_put {m : Nat} {t t2 W W2 : Tab} {q l v : Nat} (hq : q < m) (hl : l < m) (h : t2 q l * W2 q l = t q l * W q l + v) (hn : ∀ q2 l2, ¬ (q2 = q ∧ l2 = l) → t2 q2 l2 * W2 q2 l2 = t q2 l2 * W q2 l2) : pairT m t2 W2 = pairT m t W + v := by
  unfold pairT
  refine sumN_one hq (sumN_one hl h fun i hi hne => hn q i fun z => hne z.2) fun i hi hne => ?_
  exact sumN_congr fun j hj => hn i j fun z => hne z.1
theorem pair_addT {m : Nat} {t W : Tab} {q l v : Nat} (hq : q < m) (hl : l < m) : pairT m (addT t q l v) W = pairT m t W + v * W q l := by
  refine pair_put hq hl ?_ fun q2 l2 hn => ?_
  · unfold addT
    rw [if_pos ⟨rfl, rfl⟩, Nat.add_mul]
  · unfold addT
    rw [if_neg hn]
/-- what a card from a state with weight one brings -/
def goW (c m p a : Nat) (W : Tab) (k : Nat) : Nat := if 0 < a ∧ (p + min k a) + gap a k < m then c ^ (min k a - 1) * W (p + min k a) (gap a k) else 0
theorem pair_card {c m p a w : Nat} {t W : Tab} {k : Nat} : pairT m (cardS c m p a w t k) W = pairT m t W + w * goW c m p a W k := by
  unfold cardS goW
  split
  · rename_i h
    rw [pair_addT (by omega) (by omega), Nat.mul_assoc]
  · rw [Nat.mul_zero, Nat.add_zero]
theorem pair_cards {c m p a w : Nat} {t W : Tab} : ∀ n, pairT m (cardsS c m p a w t n) W = pairT m t W + w * sumN n fun i => goW c m p a W (i + 1)
  | 0 => by
    show pairT m t W = pairT m t W + w * 0
    rw [Nat.mul_zero, Nat.add_zero]
  | n + 1 => by
    rw [cardsS_succ, pair_card, pair_cards n]
    show _ = _ + w * (sumN n _ + _)
    rw [Nat.mul_add, Nat.add_assoc]
/-- weights that go back by the cards -/
def Back (c m : Nat) (W : Tab) : Prop := ∀ p a, p < m → 0 < a → a < m → W p a = sumN c fun i => goW c m p a W (i + 1)
def doneW (p a : Nat) (W : Tab) : Tab := fun q l => if 0 < l ∧ (q < p ∨ (q = p ∧ l < a)) then 0 else W q l
theorem pair_ahead {c m p a : Nat} {t W : Tab} (hb : Back c m W) (hp : p < m) (ha : a < m) : pairT m (aheadS c m p t a) (doneW p (a + 1) W) = pairT m t (doneW p a W) := by
  unfold aheadS
  rw [pair_cards]
  by_cases h0 : 0 < a
  · have e : (sumN c fun i => goW c m p a (doneW p (a + 1) W) (i + 1)) = W p a := by
      rw [hb p a hp h0 ha]
      refine sumN_congr fun i hi => ?_
      unfold goW
      split
      · rename_i h
        unfold doneW
        rw [if_neg (by omega)]
      · rfl
    rw [e]
    refine (pair_put hp ha ?_ fun q2 l2 hn => ?_).symm
    · unfold doneW
      rw [if_neg (by omega), if_pos (by omega), Nat.mul_zero, Nat.zero_add]
    · congr 1
      unfold doneW
      by_cases h : 0 < l2 ∧ (q2 < p ∨ q2 = p ∧ l2 < a)
      · rw [if_pos h, if_pos (by omega)]
      · rw [if_neg h, if_neg (by omega)]
  · have ea : a = 0 := by omega
    subst ea
    have e : (sumN c fun i => goW c m p 0 (doneW p (0 + 1) W) (i + 1)) = 0 := by
      refine sumN_nil fun i hi => ?_
      unfold goW
      rw [if_neg (by omega)]
    rw [e, Nat.mul_zero, Nat.add_zero]
    congr 1
    funext q l
    unfold doneW
    by_cases h : 0 < l ∧ (q < p ∨ q = p ∧ l < 0)
    · rw [if_pos h, if_pos (by omega)]
    · rw [if_neg h, if_neg (by omega)]
theorem pair_aheads {c m p : Nat} {t W : Tab} (hb : Back c m W) (hp : p < m) : ∀ n, n ≤ m → pairT m ((List.range n).foldl (aheadS c m p) t) (doneW p n W) = pairT m t (doneW p 0 W)
  | 0, _ => rfl
  | n + 1, h => by
    rw [List.range_succ, List.foldl_append]
    show pairT m (aheadS c m p _ n) _ = _
    rw [pair_ahead hb hp (by omega), pair_aheads hb hp n (by omega)]
theorem pair_cong {m : Nat} {t W W2 : Tab} (h : ∀ q l, q < m → l < m → W q l = W2 q l) : pairT m t W = pairT m t W2 :=
  sumN_congr fun q hq => sumN_congr fun l hl => by rw [h q l hq hl]
theorem pair_place {c m p : Nat} {t W : Tab} (hb : Back c m W) (hp : p < m) : pairT m (placeS c m t p) (doneW (p + 1) 0 W) = pairT m t (doneW p 0 W) := by
  unfold placeS
  rw [← pair_aheads hb hp m (Nat.le_refl _)]
  refine pair_cong fun q l hq hl => ?_
  unfold doneW
  by_cases h : 0 < l ∧ (q < p + 1 ∨ q = p + 1 ∧ l < 0)
  · rw [if_pos h, if_pos (by omega)]
  · rw [if_neg h, if_neg (by omega)]
theorem pair_places {c m far : Nat} {W : Tab} (hb : Back c m W) : ∀ n, n ≤ m → pairT m (tabS c m far n) (doneW n 0 W) = pairT m (initT far) (doneW 0 0 W)
  | 0, _ => rfl
  | n + 1, h => by
    rw [tabS_succ, pair_place hb (by omega), pair_places hb n (by omega)]
/-- all that the table has at distance 0, weighed, is the weight of the beginning -/
theorem table_back {c m far : Nat} {W : Tab} (hb : Back c m W) (hf : far < m) : (sumN m fun q => tabS c m far m q 0 * W q 0) = W 0 far := by
  have h1 : pairT m (tabS c m far m) (doneW m 0 W) = sumN m fun q => tabS c m far m q 0 * W q 0 := by
    unfold pairT
    refine sumN_congr fun q hq => ?_
    have : (sumN m fun l => tabS c m far m q l * doneW m 0 W q l) = sumN m (fun _ => 0) + tabS c m far m q 0 * W q 0 := by
      refine sumN_one (j := 0) (by omega) ?_ fun i hi hn => ?_
      · unfold doneW
        rw [if_neg (by omega), Nat.zero_add]
      · unfold doneW
        rw [if_pos (by omega), Nat.mul_zero]
    rw [this, sumN_zero, Nat.zero_add]
  have h2 : pairT m (initT far) (doneW 0 0 W) = W 0 far := by
    have : pairT m (initT far) (doneW 0 0 W) = pairT m (fun _ _ => 0) (fun _ _ => 0) + W 0 far := by
      refine pair_put (q := 0) (l := far) (by omega) hf ?_ fun q2 l2 hn => ?_
      · unfold initT doneW
        rw [if_pos ⟨rfl, rfl⟩, if_neg (by omega), Nat.one_mul, Nat.zero_mul, Nat.zero_add]
      · unfold initT
        rw [if_neg hn, Nat.zero_mul, Nat.zero_mul]
    rw [this]
    have z : pairT m (fun _ _ => 0) (fun _ _ => 0) = 0 := by
      exact sumN_nil fun q _ => sumN_nil fun l _ => rfl
    rw [z, Nat.zero_add]
  rw [← h1, pair_places hb m (Nat.le_refl _), h2]
/-! all rows -/
def allN (c : Nat) : Nat → (List Nat → Nat) → Nat
  | 0, g => g []
  | n + 1, g => sumN c fun k => allN c n fun r => g ((k + 1) :: r)
theorem allN_congr {c : Nat} : ∀ {n : Nat} {g h : List Nat → Nat}, (∀ r, r.length = n → (∀ x ∈ r, 1 ≤ x ∧ x ≤ c) → g r = h r) → allN c n g = allN c n h
  | 0, g, h, e => e [] rfl (fun x hx => absurd hx List.not_mem_nil)
  | n + 1, g, h, e => by
    unfold allN
    refine sumN_congr fun k hk => allN_congr fun r hr hx => e _ (by rw [List.length_cons, hr]) fun x hm => ?_
    rcases List.mem_cons.mp hm with z | z
    · omega
    · exact hx x z
theorem allN_const (c v : Nat) : ∀ n, allN c n (fun _ => v) = c ^ n * v
  | 0 => by
    show v = 1 * v
    omega
  | n + 1 => by
    show (sumN c fun k => allN c n fun _ => v) = _
    rw [sumN_congr (g := fun _ => (c ^ n * v) * 1) fun k _ => by rw [allN_const c v n, Nat.mul_one], sumN_mul]
    have : ∀ c, sumN c (fun _ => 1) = c := fun c => by
      induction c with
      | zero => rfl
      | succ c ih =>
        show sumN c _ + 1 = c + 1
        rw [ih]
    rw [this, Nat.pow_succ, Nat.mul_assoc, Nat.mul_comm v c, ← Nat.mul_assoc]
theorem allN_drop {c : Nat} (g : List Nat → Nat) : ∀ j n, j ≤ n → allN c n (fun r => g (r.drop j)) = c ^ j * allN c (n - j) g
  | 0, n, _ => by
    show allN c n (fun r => g r) = 1 * allN c n g
    rw [Nat.one_mul]
  | j + 1, 0, h => by omega
  | j + 1, n + 1, h => by
    show (sumN c fun k => allN c n fun r => g (r.drop j)) = _
    rw [sumN_congr (g := fun _ => (c ^ j * allN c (n - j) g) * 1) fun k _ => by rw [allN_drop g j n (by omega), Nat.mul_one], sumN_mul]
    have : ∀ c, sumN c (fun _ => 1) = c := fun c => by
      induction c with
      | zero => rfl
      | succ c ih =>
        show sumN c _ + 1 = c + 1
        rw [ih]
    rw [this, Nat.pow_succ, show n + 1 - (j + 1) = n - j by omega, Nat.mul_assoc, Nat.mul_comm _ c, ← Nat.mul_assoc]
theorem allN_end {c : Nat} : ∀ (n : Nat) (g : List Nat → Nat), allN c (n + 1) g = allN c n fun r => sumN c fun k => g (r ++ [k + 1])
  | 0, g => rfl
  | n + 1, g => by
    show (sumN c fun j => allN c (n + 1) fun r => g ((j + 1) :: r)) = sumN c fun j => allN c n fun r => sumN c fun k => g ((j + 1) :: (r ++ [k + 1]))
    exact sumN_congr fun j _ => allN_end n _
def rowsL (c : Nat) : Nat → List (List Nat)
  | 0 => [[]]
  | n + 1 => (rowsL c n).flatMap fun r => (List.range c).map fun k => r ++ [k + 1]
theorem sum_flat {α β : Type} (f : α → List β) (g : β → Nat) : ∀ l : List α, ((l.flatMap f).map g).sum = (l.map fun a => ((f a).map g).sum).sum
  | [] => rfl
  | a :: l => by
    rw [List.flatMap_cons, List.map_append, List.sum_append, sum_flat f g l, List.map_cons, List.sum_cons]
theorem rowsL_sum {c : Nat} : ∀ (n : Nat) (g : List Nat → Nat), ((rowsL c n).map g).sum = allN c n g
  | 0, g => by
    show g [] + 0 = g []
    rfl
  | n + 1, g => by
    rw [allN_end, ← rowsL_sum n]
    show (((rowsL c n).flatMap _).map g).sum = _
    rw [sum_flat]
    congr 1
    refine List.map_congr_left fun r _ => ?_
    rw [List.map_map, ← sumN_range]
    rfl
theorem rowsL_len (c : Nat) (n : Nat) : (rowsL c n).length = c ^ n := by
  have h := rowsL_sum (c := c) n (fun _ => 1)
  rw [allN_const, Nat.mul_one] at h
  rw [← h]
  clear h
  induction rowsL c n with
  | nil => rfl
  | cons a l ih => rw [List.length_cons, List.map_cons, List.sum_cons, ih, Nat.add_comm]
theorem rowsL_mem {c : Nat} : ∀ {n : Nat} {r : List Nat}, r ∈ rowsL c n → r.length = n ∧ ∀ x ∈ r, 1 ≤ x ∧ x ≤ c
  | 0, r, h => by
    rw [List.mem_singleton.mp h]
    exact ⟨rfl, fun x hx => absurd hx List.not_mem_nil⟩
  | n + 1, r, h => by
    obtain ⟨r2, h2, h3⟩ := List.mem_flatMap.mp h
    obtain ⟨k, hk, rfl⟩ := List.mem_map.mp h3
    obtain ⟨i1, i2⟩ := rowsL_mem h2
    refine ⟨by rw [List.length_append, i1]; rfl, fun x hx => ?_⟩
    rcases List.mem_append.mp hx with z | z
    · exact i2 x z
    · have := List.mem_singleton.mp z
      have := List.mem_range.mp hk
      omega
end Rt

/-! Where two ways first meet, by the first card: plain Lean. -/
namespace Rt
theorem getD_drop (row : List Nat) (j p : Nat) : (row.drop j).getD p 0 = row.getD (j + p) 0 := by
  rw [List.getD_eq_getElem?_getD, List.getD_eq_getElem?_getD, List.getElem?_drop]
theorem wayF_drop {row : List Nat} {j : Nat} (hj : j ≤ row.length) : ∀ f p, wayF row f (j + p) = (wayF (row.drop j) f p).map (j + ·)
  | 0, p => rfl
  | f + 1, p => by
    rw [wayF_succ, wayF_succ, getD_drop, List.length_drop]
    by_cases h : j + p + row.getD (j + p) 0 < row.length
    · rw [if_pos h, if_pos (by omega), List.map_cons, Nat.add_assoc, wayF_drop hj f]
    · rw [if_neg h, if_neg (by omega)]
      rfl
theorem way_drop {row : List Nat} {j p : Nat} (hc : ∀ c ∈ row, 1 ≤ c) (h : j + p < row.length) : way row (j + p) = (way (row.drop j) p).map (j + ·) := by
  unfold way
  rw [wayF_drop (by omega), wayF_same (row := row.drop j) (fun c hm => hc c (List.mem_of_mem_drop hm)) row.length (row.drop j).length p (by rw [List.length_drop]; omega) (by rw [List.length_drop]; omega) (by omega)]
theorem first_drop {row : List Nat} {j x y : Nat} (hc : ∀ c ∈ row, 1 ≤ c) (hx : j + x < row.length) (hy : j + y < row.length) : firstC row (j + x) (j + y) = (firstC (row.drop j) x y).map (j + ·) := by
  unfold firstC bothL
  rw [way_drop hc hx, way_drop hc hy, List.filter_map, List.head?_map]
  congr 2
  refine List.filter_congr fun q _ => ?_
  show decide (j + q ∈ _) = decide (q ∈ _)
  refine decide_eq_decide.mpr ⟨fun h => ?_, fun h => List.mem_map.mpr ⟨q, h, rfl⟩⟩
  obtain ⟨q2, h2, h3⟩ := List.mem_map.mp h
  have : q2 = q := by omega
  rw [← this]
  exact h2
theorem first_sym {row : List Nat} (hc : ∀ c ∈ row, 1 ≤ c) {p q : Nat} (hp : p < row.length) (hq : q < row.length) : firstC row p q = firstC row q p := by
  unfold firstC
  rw [both_sym hc hp hq]
theorem first_same {row : List Nat} (hc : ∀ c ∈ row, 1 ≤ c) {p : Nat} (hp : p < row.length) : firstC row p p = some p := by
  unfold firstC bothL
  rw [List.filter_eq_self.mpr fun q hq => decide_eq_true hq, way_eq hc hp]
  split <;> rfl
theorem first_go {row : List Nat} {k : Nat} {r : List Nat} (e : row = k :: r) (hc : ∀ c ∈ row, 1 ≤ c) {a : Nat} (h0 : 0 < a) : firstC row 0 a = if k < row.length then firstC row k a else none := by
  have hl : 0 < row.length := by rw [e]; exact Nat.succ_pos _
  have hk : row.getD 0 0 = k := by rw [e]; rfl
  unfold firstC bothL
  rw [way_eq (p := 0) hc hl, hk, Nat.zero_add]
  split
  · congr 1
    refine List.filter_congr fun q hq => decide_eq_decide.mpr ⟨fun h => ?_, fun h => List.mem_cons_of_mem _ h⟩
    have := wayF_ge row _ a q hq
    rcases List.mem_cons.mp h with z | z
    · omega
    · exact z
  · rw [List.head?_eq_none_iff, List.filter_eq_nil_iff]
    intro q hq
    have := wayF_ge row _ a q hq
    rw [decide_eq_true_iff, List.mem_singleton]
    omega
/-- where the ways from the first place and from so far on first meet -/
def firstF (row : List Nat) (a : Nat) : Option Nat := if a < row.length then firstC row 0 a else none
theorem firstF_go {row : List Nat} {k : Nat} {r : List Nat} (e : row = k :: r) (hc : ∀ c ∈ row, 1 ≤ c) {a : Nat} (h0 : 0 < a) :
    firstF row a = if min k a + gap a k < row.length then (firstF (row.drop (min k a)) (gap a k)).map (min k a + ·) else none := by
  unfold firstF
  have hg : min k a + gap a k = max k a := by
    unfold gap
    omega
  rw [List.length_drop, hg]
  by_cases ha : a < row.length
  · rw [if_pos ha, first_go e hc h0]
    by_cases hk : k < row.length
    · rw [if_pos hk, if_pos (by omega), if_pos (by omega)]
      by_cases h : k ≤ a
      · rw [show min k a = k by omega, show gap a k = a - k by unfold gap; omega]
        have := first_drop (row := row) (j := k) (x := 0) (y := a - k) hc (by omega) (by omega)
        rw [show k + 0 = k by omega, show k + (a - k) = a by omega] at this
        exact this
      · rw [show min k a = a by omega, show gap a k = k - a by unfold gap; omega, first_sym hc hk ha]
        have := first_drop (row := row) (j := a) (x := 0) (y := k - a) hc (by omega) (by omega)
        rw [show a + 0 = a by omega, show a + (k - a) = k by omega] at this
        exact this
    · rw [if_neg hk, if_neg (by omega)]
  · rw [if_neg ha, if_neg (by omega)]
theorem firstF_zero {row : List Nat} (hc : ∀ c ∈ row, 1 ≤ c) (h : 0 < row.length) : firstF row 0 = some 0 := by
  unfold firstF
  rw [if_pos h, first_same hc h]
/-- the rows from a place on, weighed by where the ways first meet -/
def rowW (c m : Nat) (G : Option Nat → Nat) : Tab := fun p a => allN c (m - p) fun row => G ((firstF row a).map (p + ·))
theorem rowW_back {c m : Nat} {G : Option Nat → Nat} (g0 : G none = 0) : Back c m (rowW c m G) := by
  intro p a hp ha _
  show allN c (m - p) _ = _
  obtain ⟨n, hn⟩ : ∃ n, m - p = n + 1 := ⟨m - p - 1, by omega⟩
  rw [hn]
  show sumN c _ = sumN c _
  refine sumN_congr fun i hi => ?_
  unfold goW
  by_cases h : p + min (i + 1) a + gap a (i + 1) < m
  · rw [if_pos ⟨ha, h⟩]
    have e : allN c n (fun r => G ((firstF ((i + 1) :: r) a).map (p + ·))) = allN c n fun r => (fun s => G ((firstF s (gap a (i + 1))).map (p + min (i + 1) a + ·))) (r.drop (min (i + 1) a - 1)) := by
      refine allN_congr fun r hr hx => ?_
      show _ = G ((firstF (r.drop (min (i + 1) a - 1)) (gap a (i + 1))).map (p + min (i + 1) a + ·))
      rw [firstF_go (row := (i + 1) :: r) rfl (fun x hm => ?_) ha, if_pos (by rw [List.length_cons, hr]; omega), Option.map_map]
      · obtain ⟨j, hj⟩ : ∃ j, min (i + 1) a = j + 1 := ⟨min (i + 1) a - 1, by omega⟩
        rw [hj]
        show G (Option.map _ (firstF (r.drop j) _)) = _
        congr 2
        funext z
        show p + (j + 1 + z) = p + (j + 1) + z
        omega
      · rcases List.mem_cons.mp hm with z | z
        · omega
        · exact (hx x z).1
    rw [e, allN_drop (fun s => G ((firstF s (gap a (i + 1))).map (p + min (i + 1) a + ·))) (min (i + 1) a - 1) n (by unfold gap at h; omega)]
    unfold rowW
    rw [show n - (min (i + 1) a - 1) = m - (p + min (i + 1) a) by omega]
  · rw [if_neg fun z => h z.2]
    have e : allN c n (fun r => G ((firstF ((i + 1) :: r) a).map (p + ·))) = allN c n fun _ => 0 := by
      refine allN_congr fun r hr hx => ?_
      rw [firstF_go (row := (i + 1) :: r) rfl (fun x hm => ?_) ha, if_neg (by rw [List.length_cons, hr]; omega)]
      · exact g0
      · rcases List.mem_cons.mp hm with z | z
        · omega
        · exact (hx x z).1
    rw [e, allN_const, Nat.mul_zero]
theorem rowW_end {c m q : Nat} {G : Option Nat → Nat} (hq : q < m) : rowW c m G q 0 = c ^ (m - q) * G (some q) := by
  unfold rowW
  rw [← allN_const]
  refine allN_congr fun r hr hx => ?_
  rw [firstF_zero (fun x hm => (hx x hm).1) (by omega)]
  rfl
/-- the table counts the rows -/
theorem table_rows {c m far : Nat} {G : Option Nat → Nat} (g0 : G none = 0) (hf : far < m) : (sumN m fun q => tabS c m far m q 0 * c ^ (m - q) * G (some q)) = allN c m fun row => G (firstF row far) := by
  have h := table_back (far := far) (rowW_back (c := c) (m := m) g0) hf
  have e : rowW c m G 0 far = allN c m fun row => G (firstF row far) := by
    unfold rowW
    refine allN_congr fun r _ _ => ?_
    congr 1
    cases firstF r far with
    | none => rfl
    | some z =>
      show some (0 + z) = some z
      rw [Nat.zero_add]
  rw [← e, ← h]
  refine sumN_congr fun q hq => ?_
  rw [rowW_end hq, Nat.mul_assoc]
theorem meetL_rows {c m far : Nat} (hf : far < m) : meetL c m far = (List.range m).map fun q => allN c m fun row => if firstF row far = some q then 1 else 0 := by
  unfold meetL
  refine List.map_congr_left fun q hq => ?_
  have hq := List.mem_range.mp hq
  rw [← table_rows (G := fun o => if o = some q then 1 else 0) rfl hf]
  have : (sumN m fun q2 => tabS c m far m q2 0 * c ^ (m - q2) * (if some q2 = some q then 1 else 0)) = sumN m (fun _ => 0) + tabS c m far m q 0 * c ^ (m - q) := by
    refine sumN_one hq ?_ fun i hi hn => ?_
    · rw [if_pos rfl, Nat.mul_one, Nat.zero_add]
    · rw [if_neg (fun z => hn (Option.some.inj z)), Nat.mul_zero]
  rw [this, sumN_zero, Nat.zero_add]
end Rt

/-! The law's own tally over all rows: plain Lean. -/
namespace Rt
def tallyL (m far : Nat) (rs : List (List Nat)) : List Nat := (List.range m).map fun q => rs.countP fun r => decide (firstF r far = some q)
theorem tally_len (m far : Nat) (rs : List (List Nat)) : (tallyL m far rs).length = m := by
  unfold tallyL
  rw [List.length_map, List.length_range]
theorem tally_at {m far q : Nat} {rs : List (List Nat)} (hq : q < m) : (tallyL m far rs)[q]? = some (rs.countP fun r => decide (firstF r far = some q)) := by
  unfold tallyL
  rw [List.getElem?_map, List.getElem?_range hq]
  rfl
theorem tally_put {m far q : Nat} {rs : List (List Nat)} {r : List Nat} (hr : firstF r far = some q) : tallyL m far (rs ++ [r]) = (tallyL m far rs).set q ((rs.countP fun r => decide (firstF r far = some q)) + 1) := by
  refine List.ext_getElem? fun i => ?_
  rw [List.getElem?_set]
  by_cases hi : i < m
  · rw [tally_at hi, List.countP_append, tally_len]
    by_cases e : q = i
    · subst e
      rw [if_pos rfl, if_pos hi, List.countP_singleton, hr, if_pos (decide_eq_true rfl)]
    · rw [if_neg e, tally_at hi, List.countP_singleton, hr, if_neg (by rw [decide_eq_true_iff]; exact fun z => e (Option.some.inj z))]
      rfl
  · rw [List.getElem?_eq_none (by rw [tally_len]; omega)]
    split
    · rename_i e
      rw [if_neg (by rw [tally_len]; omega)]
    · rw [List.getElem?_eq_none (by rw [tally_len]; omega)]
theorem tally_skip {m far : Nat} {rs : List (List Nat)} {r : List Nat} (hr : firstF r far = none) : tallyL m far (rs ++ [r]) = tallyL m far rs := by
  unfold tallyL
  refine List.map_congr_left fun q _ => ?_
  rw [List.countP_append, List.countP_singleton, hr, if_neg (by rw [decide_eq_true_iff]; exact fun z => nomatch z)]
  rfl
theorem tally_nil (m far : Nat) : tallyL m far [] = List.replicate m 0 := by
  unfold tallyL
  refine List.ext_getElem? fun i => ?_
  rw [List.getElem?_map, List.getElem?_replicate]
  by_cases hi : i < m
  · rw [List.getElem?_range hi, if_pos hi]
    rfl
  · rw [List.getElem?_eq_none (by rw [List.length_range]; omega), if_neg hi]
    rfl
theorem count_sum {α : Type} (p : α → Prop) [DecidablePred p] : ∀ l : List α, (l.map fun a => if p a then 1 else 0).sum = l.countP fun a => decide (p a)
  | [] => rfl
  | a :: l => by
    rw [List.map_cons, List.sum_cons, count_sum p l, List.countP_cons]
    by_cases h : p a
    · rw [if_pos h, if_pos (decide_eq_true h), Nat.add_comm]
    · rw [if_neg h, if_neg (by rw [decide_eq_true_iff]; exact h), Nat.zero_add, Nat.add_zero]
theorem tally_meet {c m far : Nat} (hf : far < m) : tallyL m far (rowsL c m) = meetL c m far := by
  rw [meetL_rows hf]
  unfold tallyL
  refine List.map_congr_left fun q _ => ?_
  rw [← rowsL_sum, count_sum]
theorem meetL_le {c m far : Nat} (hf : far < m) : ∀ n ∈ meetL c m far, n ≤ c ^ m := by
  intro n hn
  rw [← tally_meet hf] at hn
  obtain ⟨q, _, rfl⟩ := List.mem_map.mp hn
  rw [← rowsL_len c m]
  exact List.countP_le_length
theorem meetL_len (c m far : Nat) : (meetL c m far).length = m := by
  unfold meetL
  rw [List.length_map, List.length_range]
theorem allN_le {c : Nat} {g h : List Nat → Nat} : ∀ {n}, (∀ r, r.length = n → g r ≤ h r) → allN c n g ≤ allN c n h := by
  intro n
  induction n generalizing g h with
  | zero => exact fun e => e [] rfl
  | succ n ih =>
    intro e
    have : ∀ k, (sumN k fun k => allN c n fun r => g ((k + 1) :: r)) ≤ sumN k fun k => allN c n fun r => h ((k + 1) :: r) := fun k => by
      induction k with
      | zero => exact Nat.le_refl _
      | succ k ih2 => exact Nat.add_le_add ih2 (ih fun r hr => e _ (by rw [List.length_cons, hr]))
    exact this c
/-- of all rows no more than all -/
theorem meetL_sum {c m far : Nat} (hf : far < m) : (meetL c m far).sum = allN c m fun row => if (firstF row far).isSome then 1 else 0 := by
  have h := table_rows (c := c) (m := m) (far := far) (G := fun o => if o.isSome then 1 else 0) rfl hf
  rw [← h]
  unfold meetL
  rw [sumN_range]
  exact sumN_congr fun q _ => by
    show _ = _ * 1
    rw [Nat.mul_one]
theorem meetL_sum_le {c m far : Nat} (hf : far < m) : (meetL c m far).sum ≤ c ^ m := by
  rw [meetL_sum hf, show c ^ m = allN c m (fun _ => 1) by rw [allN_const, Nat.mul_one]]
  exact allN_le fun r _ => by split <;> omega
end Rt

/-! Lists of rows, as a law builds them. -/
namespace Rt
open PySem PySem.Spec PyProof.Rows L2 Evl
def RowsAt (H : Hp) (xs : List V) (rs : List (List Nat)) : Prop := xs.length = rs.length ∧ ∀ (i : Nat) (r : List Nat), rs[i]? = some r → ∃ a : Addr, xs[i]? = some (V.ref a) ∧ H a = some (.lst (vNs r))
theorem RowsAt.ex {H H' : Hp} {xs : List V} {rs : List (List Nat)} (h : RowsAt H xs rs) (e : Ex H H') : RowsAt H' xs rs := ⟨h.1, fun i r hr => by
  obtain ⟨a, h1, h2⟩ := h.2 i r hr
  exact ⟨a, h1, e a _ h2⟩⟩
theorem RowsAt.app {H : Hp} {xs ys : List V} {rs es : List (List Nat)} (h : RowsAt H xs rs) (g : RowsAt H ys es) : RowsAt H (xs ++ ys) (rs ++ es) := by
  refine ⟨by rw [List.length_append, List.length_append, h.1, g.1], fun i r hr => ?_⟩
  by_cases hi : i < rs.length
  · rw [List.getElem?_append_left hi] at hr
    obtain ⟨a, h1, h2⟩ := h.2 i r hr
    exact ⟨a, by rw [List.getElem?_append_left (by rw [h.1]; exact hi)]; exact h1, h2⟩
  · rw [List.getElem?_append_right (by omega)] at hr
    obtain ⟨a, h1, h2⟩ := g.2 _ r hr
    exact ⟨a, by rw [List.getElem?_append_right (by rw [h.1]; omega), h.1]; exact h1, h2⟩
theorem RowsAt.nil {H : Hp} : RowsAt H [] [] := ⟨rfl, fun i r h => by simp at h⟩
theorem RowsAt.one {H : Hp} {a : Addr} {r : List Nat} (h : H a = some (.lst (vNs r))) : RowsAt H [.ref a] [r] := ⟨rfl, fun i r2 h2 => by
  cases i with
  | zero =>
    have e := Option.some.inj h2
    subst e
    exact ⟨a, rfl, h⟩
  | succ i => simp at h2⟩
/-- the new list at L tells these rows -/
def Rw (H1 : Hp) (L : Addr) (rs : List (List Nat)) (H' : Hp) : Prop := H1 L = none ∧ Ex H1 H' ∧ ∃ acc, H' L = some (.lst acc) ∧ RowsAt (New (upd H1 L (.lst [])) H') acc rs
def EvR (te : TE) (σ : L2.St) (H : Hp) (rs : List (List Nat)) : Prop := ∀ H1, Ex H H1 → ∀ Q : VK, (∀ p xs H2, Ex H1 H2 → H1 p = none → H2 p = some (.lst xs) → RowsAt (New H1 H2) xs rs → Q (.ref p) H2) → te σ H1 Q
section
variable {K : PySem.W.Frag} {σ : L2.St} {H H' : Hp} {te ta : TE} {D : Ends} {tz : TS}
theorem rw_grow {H1 H4 : Hp} {L : Addr} {rs es : List (List Nat)} {ys : List V} (p : Rw H1 L rs H') (e4 : Ex H' H4) (hy : RowsAt (New H' H4) ys es) : ∃ acc, H4 L = some (.lst acc) ∧ acc.length = rs.length ∧ Rw H1 L (rs ++ es) (upd H4 L (.lst (acc ++ ys))) := by
  obtain ⟨p1, p2, acc, p3, p4⟩ := p
  refine ⟨acc, e4 L _ p3, p4.1, p1, Ex.mut (p2.trans e4) p1, acc ++ ys, upd_same, ?_⟩
  have ne : ∀ c : Addr, upd H1 L (.lst []) c = none → c ≠ L := fun c hc z => by
    rw [z, upd_same] at hc
    cases hc
  have ne2 : ∀ c : Addr, H' c = none → c ≠ L := fun c hc z => by
    rw [z, p3] at hc
    cases hc
  refine RowsAt.app (p4.ex (new_sub (fun _ h => h) fun c o hc ho => ?_)) (hy.ex (new_sub (fun c hc => ?_) fun c o hc ho => ?_))
  · rw [upd_ne (ne c hc)]
    exact e4 c o ho
  · rw [upd_ne (ne2 c hc)]
    exact fresh_back p2 hc
  · rw [upd_ne (ne2 c hc)]
    exact ho
theorem rw_start {H1 : Hp} {L : Addr} (hL : H1 L = none) : Rw H1 L [] (upd H1 L (.lst [])) := ⟨hL, Ex.new hL, [], upd_same, .nil⟩
theorem Rw.go {H1 H2 : Hp} {L : Addr} {rs : List (List Nat)} (p : Rw H1 L rs H') (e : Ex H' H2) : Rw H1 L rs H2 := by
  obtain ⟨p1, p2, acc, p3, p4⟩ := p
  exact ⟨p1, p2.trans e, acc, e L _ p3, p4.ex (new_mono (Ex.refl _) e)⟩
/-- [row for k in range(lo, hi)] -/
theorem er_mapR2 {tb : TA} {j : Nat} {vs : List Nat} {lo hi : Int} {n : Nat} (g : Nat → List Nat) (h : EvA tb σ H [.int lo, .int hi]) (hlo : 0 ≤ lo) (hh : hi ≤ 40000) (hn : (hi - lo).toNat = n) (hlh : lo ≤ hi)
    (he : ∀ i : Nat, i < n → ∀ H1, Ex H H1 → EvL te ((wipe σ vs).set j (some (.int (lo + (i : Int))))) H1 (vNs (g i))) (hw : ∀ x, wipe ((wipe σ vs).set j (some x)) vs = wipe σ vs := by intro _; rfl) :
    EvR (tLc (iRng2 tb) (gName j) tYes te vs) σ H ((List.range n).map g) := fun H0 e Q q =>
  h H0 e _ fun H1 e1 => ⟨lo, hi, rfl, by omega, fun L hL => lc_range (lo := lo) (n := (hi - lo).toNat) (fun i H' => Rw H1 L ((List.range i).map g) H') (rw_start hL) (fun i H' hi2 p => by
      refine ⟨hw _, he i (by omega) H' ((e.trans e1).trans p.2.1) H' (Ex.refl H') _ fun r H4 nr e4 hr => ?_⟩
      obtain ⟨acc, h1, h2, h3⟩ := rw_grow p e4 (RowsAt.one (a := r) (r := g i) (by rw [new_at nr]; exact hr))
      refine ⟨acc, h1, sz_lt (by rw [h2, List.length_map, List.length_range]; omega), ?_⟩
      rw [List.range_succ, List.map_append]
      exact h3)
    (fun H' p => by
      rw [hn] at p
      obtain ⟨p1, p2, acc, p3, p4⟩ := p
      refine q L acc H' (e1.trans p2) (fresh_back e1 p1) p3 (p4.ex (new_sub (fun c hc => ?_) fun _ _ _ h => h))
      refine fresh_back e1 ?_
      by_cases z : c = L
      · rw [z, upd_same] at hc
        cases hc
      · rw [upd_ne z] at hc
        exact hc)⟩
/-- xs.extend([..rows..]) -/
theorem s_extR {H1 : Hp} {L : Addr} {rs es : List (List Nat)} (p : Rw H1 L rs H) (ha : Ev ta σ H (.ref L)) (h : EvR te σ H es) (hz : rs.length + es.length ≤ 100000) (k : ∀ H2, Rw H1 L (rs ++ es) H2 → D.nx σ H2) :
    tDrop (tBM K "list" rExtend ta (tCons te tNil)) D σ H := ha H (Ex.refl H) _ fun H2 e2 => by
  have p2 := p.go e2
  obtain ⟨q1, q2, acc, q3, q4⟩ := p2
  exact ⟨Or.inl ⟨rfl, acc, sq_of q3⟩, h H2 e2 _ fun b xs H3 e3 nb hb hr => by
    obtain ⟨acc3, h1, h2, h3⟩ := rw_grow ⟨q1, q2, acc, q3, q4⟩ e3 hr
    exact ⟨L, b, acc3, xs, rfl, rfl, h1, hb, sz_of (by rw [h2, hr.1]; exact hz), k _ h3⟩⟩
/-- [row] -/
theorem er_one {r : List Nat} (h : EvL te σ H (vNs r)) : EvR (tLst (tCons te tNil)) σ H [r] := fun H1 e Q q => h H1 e _ fun a H2 na e2 ha =>
  ⟨sz_of (show 1 ≤ 100000 by decide), fun p hp => q p [.ref a] _ (e2.trans (Ex.new hp)) (fresh_back e2 hp) upd_same (RowsAt.one (by rw [new_at na]; exact Ex.new hp a _ ha))⟩
theorem q_asgR {i : Nat} {rs : List (List Nat)} (h : EvR te σ H rs) (k : ∀ p xs H1, Ex H H1 → H p = none → H1 p = some (.lst xs) → RowsAt (New H H1) xs rs → tz D (σ.set i (some (.ref p))) H1) : tSeq (tAsg te (gName i)) tz D σ H := h H (Ex.refl H) _ k
theorem ev_lenR {rs : List (List Nat)} (h : EvR te σ H rs) : Ev (tCB (Evl.rLenS K) (tCons te tNil)) σ H (vN rs.length) := fun H1 e Q q =>
  h H1 e _ fun p xs H2 e2 _ hp hr => ⟨p, xs, rfl, Or.inl (sq_of hp), by
    rw [hr.1]
    exact q H2 e2⟩
/-- for row in rows, new ones: these stand apart from what stood before -/
theorem s_forRw {tu : TS} {j : Nat} {rs : List (List Nat)} (h : EvR te σ H rs) (Pv : Nat → L2.St → Hp → Prop) (h0 : ∀ H1, Ex H H1 → Pv 0 σ H1)
    (hs : ∀ B i r a σ' H', (∀ c o, H c = some o → B c = none) → rs[i]? = some r → B a = some (HO.lst (vNs r)) → Ex B H' → Pv i σ' H' → tu { D with nx := fun σ3 H3 => Ex B H3 ∧ Pv (i + 1) σ3 H3, ct := fun σ3 H3 => Ex B H3 ∧ Pv (i + 1) σ3 H3, bk := D.nx } (σ'.set j (some (V.ref a))) H')
    (hd : ∀ σ' H', Pv rs.length σ' H' → D.nx σ' H') : tFor (iList K te) (gName j) tu D σ H :=
  h H (Ex.refl H) _ fun p xs H1 e np hp hr => ⟨p, rfl, ⟨xs, sq_of hp⟩, for_list (fun i σ' H' => Ex (New H H1) H' ∧ Pv i σ' H') ⟨new_ex H H1, h0 H1 e⟩ (fun i σ' H' _ w => sq_of (w.1 p _ (by rw [new_at np]; exact hp))) (fun i x σ' H' hi w => by
    have hi2 : i < rs.length := by
      rw [← hr.1]
      exact (List.getElem?_eq_some_iff.mp hi).1
    obtain ⟨a, h1, h2⟩ := hr.2 i _ (List.getElem?_eq_getElem hi2)
    have hx : x = .ref a := Option.some.inj (hi.symm.trans h1)
    subst hx
    exact hs (New H H1) i _ a σ' H' (fun c o hc => new_old hc) (List.getElem?_eq_getElem hi2) h2 w.1 w.2) fun σ' H' w => hd σ' H' (by rw [← hr.1]; exact w.2)⟩
theorem q_forRw {tu : TS} {j : Nat} {rs : List (List Nat)} (h : EvR te σ H rs) (Pv : Nat → L2.St → Hp → Prop) (h0 : ∀ H1, Ex H H1 → Pv 0 σ H1)
    (hs : ∀ B i r a σ' H', (∀ c o, H c = some o → B c = none) → rs[i]? = some r → B a = some (HO.lst (vNs r)) → Ex B H' → Pv i σ' H' → tu { D with nx := fun σ3 H3 => Ex B H3 ∧ Pv (i + 1) σ3 H3, ct := fun σ3 H3 => Ex B H3 ∧ Pv (i + 1) σ3 H3, bk := tz D } (σ'.set j (some (V.ref a))) H')
    (hd : ∀ σ' H', Pv rs.length σ' H' → tz D σ' H') : tSeq (tFor (iList K te) (gName j) tu) tz D σ H := s_forRw (D := { D with nx := tz D }) h Pv h0 hs hd
/-- a def that tells new rows -/
def RetR (rs : List (List Nat)) (H : Hp) (Q : VK) : Prop := ∀ p xs H2, Ex H H2 → H p = none → H2 p = some (.lst xs) → RowsAt (New H H2) xs rs → Q (.ref p) H2
def SpR (sp : Sp) (vs : List V) (H : Hp) (rs : List (List Nat)) : Prop := ∀ H1, Ex H H1 → ∀ Q : VK, RetR rs H1 Q → ∀ E : XK, sp vs H1 Q E
theorem er_call {sp : Sp} {dvs vs : List V} {E : XK} {tb : TA} {rs : List (List Nat)} (h : EvA tb σ H vs) (hs : SpR sp (vs ++ dvs) H rs) : EvR (tCall sp dvs E tb) σ H rs := fun H1 e Q q =>
  h H1 e _ fun H2 e2 => hs H2 (e.trans e2) Q (fun p xs H3 e3 np hp hall => q p xs H3 (e2.trans e3) (fresh_back e2 np) hp (hall.ex (new_mono e2 (Ex.refl H3)))) E
theorem q_forU {tu : TS} {tl : TE} {j : Nat} {xs : List V} (h : EvU tl σ H xs) (Pv : Hp → Nat → L2.St → Hp → Prop) (h0 : ∀ H1, Ex H H1 → Pv H1 0 σ H1) (hx : ∀ H1 i σ' H', Pv H1 i σ' H' → Ex H1 H')
    (hs : ∀ H1, Ex H H1 → ∀ i x σ' H', xs[i]? = some x → Pv H1 i σ' H' → tu { D with nx := Pv H1 (i + 1), ct := Pv H1 (i + 1), bk := tz D } (σ'.set j (some x)) H')
    (hd : ∀ H1, Ex H H1 → ∀ σ' H', Pv H1 xs.length σ' H' → tz D σ' H') : tSeq (tFor (iTup K tl) (gName j) tu) tz D σ H := s_forU (D := { D with nx := tz D }) h Pv h0 hx hs hd
end
theorem good_T2 {a b : Nat} (ha : a < 10 ^ 6) (hb : b < 10 ^ 6) : Good (.tuple [.int (a : Int), .int (b : Int)]) := by
  obtain ⟨h1, h2, h3, h4, h5⟩ := good_all [a, b] fun n hn => by
    simp only [List.mem_cons, List.not_mem_nil, or_false] at hn
    rcases hn with e | e
    · omega
    · omega
  refine ⟨?_, ?_, ?_, ?_, ?_⟩
  · exact h1
  · show (PyData.tuple _).depth ≤ 60
    rw [PyData.depth]
    have : PyData.depthAll [.int (a : Int), .int (b : Int)] = 0 := h2
    omega
  · exact h3
  · exact h4
  · rw [PyData.weight]
    have : PyData.weightAll [.int (a : Int), .int (b : Int)] ≤ 21 * 2 := h5
    omega
end Rt

/-! Dicts whose keys are pairs; slices; any() of numbers. -/
namespace Rt
open PySem PySem.Spec PyProof.Rows L2 Evl
def rAnyI (K : PySem.W.Frag) : List V → Hp → VK → Prop := fun vs H Q => ∃ (a : Addr) (ns : List Int), vs = [V.ref a] ∧ SqL K H a (ns.map V.int) ∧ Q (.bl ((List.range ns.length).any fun i => (ns.getD i 0 != 0))) H
section
variable {X : Cx}
theorem truth_ints {prog : Program} {w : World} {A : Around} {ns : List Int} {its : List Value} (r : Vals (ns.map V.int) its) : TruthOf prog w A (fun i v => its.toArray[i]? = some v) (fun i => (ns.getD i 0 != 0)) := fun i v s Q E hv hq => by
  have hv' : its[i]? = some v := by simpa using hv
  obtain ⟨n, t, rfl, hn⟩ := at_int r hv'
  have hg : ns.getD i 0 = n := by rw [List.getD_eq_getElem?_getD, hn]; rfl
  have hq' : Q (ns.getD i 0 != 0) s := hq
  rw [hg] at hq'
  exact PyProof.Rows.truthy_int hq'
where
  at_int {ns : List Int} {its : List Value} {i : Nat} {v : Value} (r : Vals (ns.map V.int) its) (h : its[i]? = some v) : ∃ n t, v = .int n t ∧ ns[i]? = some n := by
    have h2 := intsAre_of r
    clear r
    induction h2 generalizing i with
    | nil => simp at h
    | cons n t r ih =>
      cases i with
      | zero =>
        have e := Option.some.inj h
        subst e
        exact ⟨n, t, rfl, rfl⟩
      | succ i =>
        exact ih (i := i) h
theorem cr_anyI (hc : X.calm = true) : CallR X (.builtin "any") (rAnyI X.K) := by
  intro pins s σ H vs us Q I r h
  obtain ⟨a, ns, rfl, hs, q⟩ := h
  obtain ⟨its, rv, hl, _⟩ := I.list hs
  rw [Vals.ref1 r]
  have hb : its.length = ns.length := by
    have := rv.length
    rw [List.length_map] at this
    exact this.symm
  refine call_any_walk (iter_any hl.isList fun s₂ e2 st hne => ?_)
  subst e2
  refine ⟨_, _, _, _, _, _, _, rfl, Walks.list (A := X.A.in1) (I.ok.hd hc) _ a hne its.toArray, st, truth_ints rv, fun h' tk hk => ?_⟩
  refine ⟨.bl _, H, I.kept fun b o eo => hk b o (fun hmem => ?_) (Heap.get?_push_of_some _ eo), ?_, q⟩
  · rcases List.mem_cons.mp hmem with e1 | hmem
    · exact absurd (e1 ▸ Heap.lt_size eo) (Nat.lt_irrefl _)
    · cases hmem
  · show Value.bool _ = Value.bool _
    rw [List.size_toArray, hb]
end
section
variable {K : PySem.W.Frag} {σ : L2.St} {H H' : Hp} {ta tb tc td te tl tx ty : TE} {x y z v : V} {D : Ends} {tz : TS}
/-- any(xs), all of them 0 -/
theorem ev_anyZ {l : List Nat} (h : EvL ta σ H (vNs l)) (hz : ∀ n ∈ l, n = 0) : Ev (tCB (rAnyI K) (tCons ta tNil)) σ H (.bl false) := fun H1 e Q q =>
  h H1 e _ fun p H2 np e2 hp => ⟨p, l.map fun n : Nat => (n : Int), rfl, sq_of (by rw [hp, List.map_map]; rfl), by
    have e0 : ((List.range (l.map fun n : Nat => (n : Int)).length).any fun i => ((l.map fun n : Nat => (n : Int)).getD i 0 != 0)) = false := by
      rw [List.any_eq_false]
      intro i hi
      rw [List.getD_eq_getElem?_getD, List.getElem?_map]
      cases hl : l[i]? with
      | none => exact fun z => nomatch z
      | some n =>
        rw [hz n (List.mem_of_getElem? hl)]
        exact fun z => nomatch z
    rw [e0]
    exact q H2 e2⟩
theorem ev_get2T {a b : Addr} {kvs : List (List Key × V)} {k : List Key} (hd : Ev td σ H (.ref a)) (ha : H a = some (.dT kvs)) (hk : Ev ty σ H (.ref b)) (hb : H b = some (.tup (k.map kV))) (hz : Ev tx σ H z) : Ev (tDGet2 td ty tx) σ H ((valV kvs k).getD z) := fun H1 e Q q =>
  hd H1 e _ fun H2 e2 => ⟨a, rfl, .inr ⟨kvs, .inl ((e.trans e2) a _ ha)⟩, hk H2 (e.trans e2) _ fun H3 e3 => hz H3 ((e.trans e2).trans e3) _ fun H4 e4 =>
    ⟨valV kvs k, DGet.t ((((e.trans e2).trans e3).trans e4) a _ ha) ((((e.trans e2).trans e3).trans e4) b _ hb), q H4 ((e2.trans e3).trans e4)⟩⟩
theorem ev_dgetT {a : Addr} {kvs : List (List Key × V)} {k : List Key} (hd : Ev td σ H (.ref a)) (ha : H a = some (.dT kvs)) (hk : EvU ty σ H (k.map kV)) (hv : valV kvs k = some v) : Ev (tDGet td ty) σ H v := fun H1 e Q q =>
  hd H1 e _ fun H2 e2 => hk H2 (e.trans e2) _ fun b H3 nb e3 hb => ⟨a, v, rfl, by rw [← hv]; exact DGet.t (((e.trans e2).trans e3) a _ ha) hb, q H3 (e2.trans e3)⟩
theorem s_dputT {a : Addr} {kvs : List (List Key × V)} {k : List Key} (ha : H a = some (.dT kvs)) (hv : Ev te σ H v) (hd : Ev td σ H (.ref a)) (hk : EvU ty σ H (k.map kV)) (hl : kvs.length < 100000) (q : ∀ H1, Ex H H1 → D.nx σ (upd H1 a (.dT (putK kvs k v)))) : sDPut td ty te D σ H :=
  hv H (Ex.refl H) _ fun H1 e1 => hd H1 e1 _ fun H2 e2 => hk H2 (e1.trans e2) _ fun b H3 nb e3 hb => ⟨a, _, rfl, DPut.t (((e1.trans e2).trans e3) a _ ha) hb (sz_lt hl), q H3 ((e1.trans e2).trans e3)⟩
theorem q_dputT {a : Addr} {kvs : List (List Key × V)} {k : List Key} (ha : H a = some (.dT kvs)) (hv : Ev te σ H v) (hd : Ev td σ H (.ref a)) (hk : EvU ty σ H (k.map kV)) (hl : kvs.length < 100000) (q : ∀ H1, Ex H H1 → tz D σ (upd H1 a (.dT (putK kvs k v)))) : tSeq (sDPut td ty te) tz D σ H := s_dputT (D := { D with nx := tz D }) ha hv hd hk hl q
theorem q_dnewT {i : Nat} (q : ∀ p H1, H p = none → Ex H H1 → H1 p = some (.dT []) → tz D (σ.set i (some (.ref p))) H1) : tSeq (tAsg tDNewT (gName i)) tz D σ H := fun p hp => q p _ hp (Ex.new hp) upd_same
/-- xs[::-1], xs new -/
theorem el_rev {xs : List V} (h : EvL ta σ H xs) : EvL (tRevL K ta) σ H xs.reverse := fun H1 e Q q =>
  h H1 e _ fun p H2 np e2 hp => ⟨p, xs, rfl, sq_of hp, fun c hc => q c _ (fresh_back e2 hc) (e2.trans (Ex.new hc)) upd_same⟩
/-- xs[lo:hi], xs new -/
theorem el_slN {xs : List V} {tl th : TO} {lo hi : Option Int} (h : EvL te σ H xs) (h1 : Evl.EvO tl σ H lo) (h2 : Evl.EvO th σ H hi) : EvL (tSl (rSlL K) te tl th) σ H (cutV xs lo hi) := fun H1 e _ q =>
  h H1 e _ fun p H2 np e2 hp => h1 H2 (e.trans e2) _ fun H3 e3 => h2 H3 ((e.trans e2).trans e3) _ fun H4 e4 =>
    ⟨p, xs, rfl, sq_of (e4 p _ (e3 p _ hp)), fun c hc => q c _ (fresh_back ((e2.trans e3).trans e4) hc) (((e2.trans e3).trans e4).trans (Ex.new hc)) upd_same⟩
theorem cut_to (xs : List V) (k : Nat) : cutV xs none (some (k : Int)) = xs.take k := by
  unfold cutV
  rw [HT.sIx_none, HT.sIx_nat, List.drop_zero, Nat.sub_zero]
  by_cases h : k ≤ xs.length
  · rw [show min k xs.length = k by omega]
  · rw [show min k xs.length = xs.length by omega, List.take_length, List.take_of_length_le (by omega)]
theorem cut_from (xs : List V) (k : Nat) : cutV xs (some (k : Int)) none = xs.drop k := by
  unfold cutV
  rw [HT.sIx_none, HT.sIx_nat]
  by_cases h : k ≤ xs.length
  · rw [show min k xs.length = k by omega, List.take_of_length_le (by rw [List.length_drop]; exact Nat.le_refl _)]
  · rw [show min k xs.length = xs.length by omega, List.drop_eq_nil_of_le (Nat.le_refl _), List.drop_eq_nil_of_le (by omega)]
    exact List.take_nil
/-- a, b = [..], (..), two locals -/
theorem q_parLU {i j : Nat} {xs ys : List V} (h1 : EvL ta σ H xs) (h2 : EvU tb σ H ys) (k : ∀ p r H1, H p = none → Ex H H1 → H1 p = some (.lst xs) → H1 r = some (.tup ys) → tz D ((σ.set i (some (.ref p))).set j (some (.ref r))) H1) :
    tSeq (tPar i j (tCons ta (tCons tb tNil))) tz D σ H :=
  h1 H (Ex.refl H) _ fun p H1 np e1 hp => h2 H1 e1 _ fun r H2 nr e2 hr => ⟨.ref p, .ref r, rfl, k p r H2 np (e1.trans e2) (e2 p _ hp) hr⟩
end
theorem layN : ∀ l : List Nat, PyData.canLayAll0 (l.map fun n : Nat => PyData.int (n : Int)) = true ∧ PyData.depthAll (l.map fun n : Nat => PyData.int (n : Int)) = 0
  | [] => ⟨rfl, rfl⟩
  | n :: r => by
    obtain ⟨h1, h2⟩ := layN r
    rw [List.map_cons]
    refine ⟨?_, ?_⟩
    · rw [PyData.canLayAll0, h1]
      rfl
    · rw [PyData.depthAll, h2]
      rfl
theorem shN (l : List Nat) : SeqAt.shaped (pdN l) = true := by
  obtain ⟨h1, h2⟩ := layN l
  show ((pdN l).canLay0 && decide ((pdN l).depth ≤ 64)) = true
  have e1 : (pdN l).canLay0 = true := h1
  have e2 : (pdN l).depth ≤ 64 := by
    show (PyData.list _).depth ≤ 64
    rw [PyData.depth, h2]
    decide
  rw [e1, decide_eq_true e2]
  rfl
theorem reflN (l : List Nat) : PyData.eqv (pdN l) (pdN l) = true := SeqAt.eqv_refl _ (layN l).1
theorem shT2 (a b : Int) : SeqAt.shaped (.tuple [.int a, .int b]) = true := rfl
theorem reflT2 (a b : Int) : PyData.eqv (.tuple [.int a, .int b]) (.tuple [.int a, .int b]) = true := SeqAt.eqv_refl _ rfl
end Rt
namespace Rt
open PySem PySem.Spec PyProof.Rows L2 Evl
section
variable {K : PySem.W.Frag} {σ : L2.St} {H : Hp} {te : TE} {x : V} {D : Ends} {t u : TS}
theorem q_cut (Mid : L2.St → Hp → Prop) (h1 : t { D with nx := Mid } σ H) (h2 : ∀ σ' H', Mid σ' H' → u D σ' H') : tCut t u D σ H := ⟨Mid, h1, h2⟩
theorem en_u2 {a b : Nat} (h : EvU te σ H [vN a, vN b]) : EvN K te σ H (.tuple [.int (a : Int), .int (b : Int)]) := fun H1 e Q q =>
  h H1 e Q fun p H2 np e2 hp => q (.ref p) H2 e2 (.tup (st_of (by rw [new_at np]; exact hp)) (.cons (.int _) (.cons (.int _) .nil)))
/-- three numbers and a list taken apart -/
theorem g_four {i j k n : Nat} {a b c : Int} {l : List Nat} {Q : L2.St → Hp → Prop} (h : Dp K H x (.tuple [.int a, .int b, .int c, pdN l]))
    (kk : ∀ r, SqL K H r (vNs l) → Q ((((σ.set i (some (.int a))).set j (some (.int b))).set k (some (.int c))).set n (some (.ref r))) H) : gTup K 4 (gCons (gName i) (gCons (gName j) (gCons (gName k) (gCons (gName n) gNil)))) x σ H Q := by
  cases h with
  | tup hq hall =>
    cases hall with
    | cons h1 hr =>
      cases hr with
      | cons h2 hn =>
        cases hn with
        | cons h3 hm =>
          cases hm with
          | cons h4 ho =>
            cases ho
            cases h1
            cases h2
            cases h3
            obtain ⟨r, rfl, hs⟩ := dp_N_inv h4
            exact ⟨_, _, rfl, hq, rfl, _, _, rfl, _, _, rfl, _, _, rfl, _, _, rfl, rfl, kk r hs⟩
end
end Rt

/-! Great counts: with a card more; distance 0; one card; numbers told outright. Plain Lean. -/
namespace Rt
theorem first_ge {row : List Nat} {a z : Nat} (h : firstF row a = some z) : a ≤ z := by
  unfold firstF at h
  split at h
  · exact wayF_ge row _ a z (List.mem_filter.mp (List.mem_of_head? h)).1
  · cases h
theorem firstF_more (k : Nat) (hk : 1 ≤ k) : ∀ (n : Nat) (r : List Nat) (a q : Nat), r.length = n → (∀ x ∈ r, 1 ≤ x) → a < n → q < n → (firstF (r ++ [k]) a = some q ↔ firstF r a = some q) := by
  intro n
  induction n using Nat.strongRecOn with
  | _ n ih =>
    intro r a q hr hc ha hq
    have hc2 : ∀ x ∈ r ++ [k], 1 ≤ x := fun x hx => by
      rcases List.mem_append.mp hx with z | z
      · exact hc x z
      · rw [List.mem_singleton.mp z]
        exact hk
    by_cases h0 : 0 < a
    · obtain ⟨c, s, rfl⟩ : ∃ c s, r = c :: s := by
        cases r with
        | nil => exact absurd hr (by show ¬ 0 = n; omega)
        | cons c s => exact ⟨c, s, rfl⟩
      have c1 : 1 ≤ c := hc c List.mem_cons_self
      rw [firstF_go (row := (c :: s) ++ [k]) (r := s ++ [k]) rfl hc2 h0, firstF_go rfl hc h0]
      have hg : min c a + gap a c = max c a := by
        unfold gap
        omega
      rw [List.length_append, hr, hg]
      show (if max c a < n + 1 then _ else _) = _ ↔ _
      by_cases hm : max c a < n
      · rw [if_pos (by omega), if_pos hm, List.drop_append_of_le_length (by rw [hr]; omega)]
        have := ih (n - min c a) (by omega) ((c :: s).drop (min c a)) (gap a c)
        constructor
        · intro h
          obtain ⟨z, hz, e⟩ := Option.map_eq_some_iff.mp h
          refine Option.map_eq_some_iff.mpr ⟨z, (this z (by rw [List.length_drop, hr]) (fun x hx => hc x (List.mem_of_mem_drop hx)) (by omega) (by omega)).mp hz, e⟩
        · intro h
          obtain ⟨z, hz, e⟩ := Option.map_eq_some_iff.mp h
          refine Option.map_eq_some_iff.mpr ⟨z, (this z (by rw [List.length_drop, hr]) (fun x hx => hc x (List.mem_of_mem_drop hx)) (by omega) (by omega)).mpr hz, e⟩
      · rw [if_neg hm]
        constructor
        · intro h
          split at h
          · obtain ⟨z, hz, e⟩ := Option.map_eq_some_iff.mp h
            have := first_ge hz
            omega
          · cases h
        · intro h
          cases h
    · have e : a = 0 := by omega
      subst e
      rw [firstF_zero hc2 (by rw [List.length_append]; omega), firstF_zero hc (by omega)]
theorem allN_mul {c : Nat} (v : Nat) : ∀ (n : Nat) (g : List Nat → Nat), allN c n (fun r => v * g r) = v * allN c n g
  | 0, g => rfl
  | n + 1, g => by
    show (sumN c fun k => allN c n fun r => v * g ((k + 1) :: r)) = v * sumN c fun k => allN c n fun r => g ((k + 1) :: r)
    rw [← sumN_mul]
    exact sumN_congr fun k _ => allN_mul v n _
theorem sumN_const (v : Nat) : ∀ c, sumN c (fun _ => v) = c * v
  | 0 => (Nat.zero_mul v).symm
  | c + 1 => by
    show sumN c _ + v = _
    rw [sumN_const v c, Nat.add_mul, Nat.one_mul]
/-- rows whose ways first meet there -/
def meetN (c m far q : Nat) : Nat := allN c m fun row => if firstF row far = some q then 1 else 0
theorem meetL_N {c m far : Nat} (hf : far < m) : meetL c m far = (List.range m).map (meetN c m far) := meetL_rows hf
theorem meetN_more {c m far q : Nat} (hf : far < m) (hq : q < m) : meetN c (m + 1) far q = c * meetN c m far q := by
  unfold meetN
  rw [allN_end, ← allN_mul]
  refine allN_congr fun r hr hx => ?_
  rw [← sumN_const]
  refine sumN_congr fun k _ => ?_
  have h := firstF_more (k + 1) (by omega) m r far q hr (fun x hm => (hx x hm).1) hf hq
  by_cases z : firstF r far = some q
  · rw [if_pos z, if_pos (h.mpr z)]
  · rw [if_neg z, if_neg fun y => z (h.mp y)]
theorem meetN_low {c m far q : Nat} (hq : q < far) : meetN c m far q = 0 := by
  unfold meetN
  have : allN c m (fun row => if firstF row far = some q then 1 else 0) = allN c m fun _ => 0 := allN_congr fun r _ _ => by
    rw [if_neg fun z => by have := first_ge z; omega]
  rw [this, allN_const, Nat.mul_zero]
theorem meetN_zero {c m q : Nat} (hm : 0 < m) : meetN c m 0 q = if q = 0 then c ^ m else 0 := by
  unfold meetN
  have : allN c m (fun row => if firstF row 0 = some q then 1 else 0) = allN c m fun _ => if q = 0 then 1 else 0 := allN_congr fun r hr hx => by
    rw [firstF_zero (fun x h => (hx x h).1) (by omega)]
    by_cases e : q = 0
    · subst e
      rfl
    · rw [if_neg e, if_neg fun z => e (Option.some.inj z).symm]
  rw [this, allN_const]
  split
  · rw [Nat.mul_one]
  · rw [Nat.mul_zero]
theorem meetL_more {c m far : Nat} (hf : far < m) : (meetL c (m + 1) far).take m = (meetL c m far).map (· * c) := by
  rw [meetL_N (show far < m + 1 by omega), meetL_N hf, List.range_succ, List.map_append, List.take_left' (by rw [List.length_map, List.length_range]), List.map_map]
  refine List.map_congr_left fun q hq => ?_
  show _ = meetN c m far q * c
  rw [meetN_more hf (List.mem_range.mp hq), Nat.mul_comm]
theorem sum_more {c m far : Nat} (hf : far < m) : c * (meetL c m far).sum ≤ (meetL c (m + 1) far).sum := by
  rw [meetL_N (show far < m + 1 by omega), meetL_N hf, sumN_range, sumN_range, ← sumN_mul]
  show _ ≤ sumN m _ + _
  rw [sumN_congr (f := meetN c (m + 1) far) (g := fun q => c * meetN c m far q) fun q hq => meetN_more hf hq]
  exact Nat.le_add_right _ _
theorem sum_mores {c m far : Nat} (hf : far < m) : ∀ j, c ^ j * (meetL c m far).sum ≤ (meetL c (m + j) far).sum
  | 0 => by
    rw [Nat.pow_zero, Nat.one_mul]
    exact Nat.le_refl _
  | j + 1 => by
    have h1 := sum_mores (c := c) hf j
    have h2 := sum_more (c := c) (m := m + j) (far := far) (by omega)
    have h3 : c * (c ^ j * (meetL c m far).sum) ≤ c * (meetL c (m + j) far).sum := Nat.mul_le_mul_left c h1
    rw [Nat.pow_succ, Nat.mul_comm (c ^ j) c, Nat.mul_assoc]
    exact Nat.le_trans h3 h2
theorem meetL_low {c m far : Nat} (hf : far < m) : ∀ n ∈ (meetL c m far).take far, n = 0 := by
  intro n hn
  obtain ⟨i, hi, rfl⟩ := List.getElem_of_mem hn
  rw [List.getElem_take]
  rw [List.length_take] at hi
  have e : (meetL c m far)[i]? = some (meetN c m far i) := by
    rw [meetL_N hf, List.getElem?_map, List.getElem?_range (by omega)]
    rfl
  rw [List.getElem?_eq_getElem (by rw [meetL_len]; omega)] at e
  rw [Option.some.inj e]
  exact meetN_low (by omega)
theorem meetL_zero {c m : Nat} : meetL c (m + 1) 0 = c ^ (m + 1) :: List.replicate m 0 := by
  rw [meetL_N (by omega), List.range_succ_eq_map, List.map_cons, meetN_zero (by omega), if_pos rfl, List.map_map]
  congr 1
  refine List.ext_getElem? fun i => ?_
  rw [List.getElem?_map, List.getElem?_replicate]
  by_cases hi : i < m
  · rw [List.getElem?_range hi, if_pos hi]
    show some (meetN c (m + 1) 0 (i + 1)) = some 0
    rw [meetN_zero (by omega), if_neg (by omega)]
  · rw [List.getElem?_eq_none (by rw [List.length_range]; omega), if_neg hi]
    rfl
theorem sum_zero {c m : Nat} (hm : 0 < m) : (meetL c m 0).sum = c ^ m := by
  obtain ⟨n, rfl⟩ : ∃ n, m = n + 1 := ⟨m - 1, by omega⟩
  rw [meetL_zero, List.sum_cons, List.sum_replicate_nat, Nat.mul_zero, Nat.add_zero]
theorem first_ones : ∀ (n : Nat) (r : List Nat) (a : Nat), r.length = n → (∀ x ∈ r, x = 1) → a < n → (firstF r a).isSome = true
  | 0, _, _, _, _, h => by omega
  | n + 1, [], _, hr, _, _ => by cases hr
  | n + 1, c :: s, a, hr, hx, ha => by
    have hc : ∀ x ∈ c :: s, 1 ≤ x := fun x h => by rw [hx x h]; exact Nat.le_refl _
    by_cases h0 : 0 < a
    · have e : c = 1 := hx c List.mem_cons_self
      subst e
      rw [firstF_go rfl hc h0, hr, if_pos (by unfold gap; omega), Option.isSome_map, show min 1 a = 1 by omega]
      exact first_ones n s _ (by rw [List.length_cons] at hr; omega) (fun x h => hx x (List.mem_cons_of_mem _ h)) (by unfold gap; omega)
    · have e : a = 0 := by omega
      subst e
      rw [firstF_zero hc (by omega)]
      rfl
theorem sum_ones {m far : Nat} (hf : far < m) : (meetL 1 m far).sum = 1 := by
  rw [meetL_sum hf]
  have : allN 1 m (fun row => if (firstF row far).isSome then 1 else 0) = allN 1 m fun _ => 1 := allN_congr fun r hr hx => by
    rw [if_pos (first_ones m r far hr (fun x h => by have := hx x h; omega) hf)]
  rw [this, allN_const, Nat.one_pow]
/-! the share, in lowest terms -/
def topOf (S B : Nat) : Nat := S / Nat.gcd S B
def botOf (S B : Nat) : Nat := B / Nat.gcd S B
theorem low_terms {S B : Nat} (hB : 0 < B) : ∃ g, 0 < g ∧ S = topOf S B * g ∧ B = botOf S B * g := by
  refine ⟨Nat.gcd S B, Nat.gcd_pos_of_pos_right _ hB, ?_, ?_⟩
  · exact (Nat.div_mul_cancel (Nat.gcd_dvd_left S B)).symm
  · exact (Nat.div_mul_cancel (Nat.gcd_dvd_right S B)).symm
theorem low_cross {S B : Nat} (hB : 0 < B) : topOf S B * B = botOf S B * S := by
  obtain ⟨g, hg, h1, h2⟩ := low_terms (S := S) hB
  generalize topOf S B = s at *
  generalize botOf S B = b at *
  rw [h1, h2, Nat.mul_left_comm]
theorem low_le {S B : Nat} (h : S ≤ B) : topOf S B ≤ botOf S B := Nat.div_le_div_right h
theorem low_gcd {S B : Nat} (hB : 0 < B) : Nat.gcd (topOf S B) (botOf S B) = 1 := by
  have hg : 0 < Nat.gcd S B := Nat.gcd_pos_of_pos_right _ hB
  have h1 : topOf S B * Nat.gcd S B = S := Nat.div_mul_cancel (Nat.gcd_dvd_left S B)
  have h2 : botOf S B * Nat.gcd S B = B := Nat.div_mul_cancel (Nat.gcd_dvd_right S B)
  have h3 : Nat.gcd (topOf S B * Nat.gcd S B) (botOf S B * Nat.gcd S B) = Nat.gcd S B := by
    conv => lhs; rw [h1, h2]
  rw [Nat.gcd_mul_right] at h3
  exact Nat.eq_of_mul_eq_mul_right hg (by rw [h3, Nat.one_mul])
theorem low_grow {S B S2 B2 c : Nat} (hB : 0 < B) (hB2 : 0 < B2) (hc : B2 = c * B) (h : c * S ≤ S2) : topOf S B * botOf S2 B2 ≤ topOf S2 B2 * botOf S B := by
  obtain ⟨g, hg, h1, h2⟩ := low_terms (S := S) hB
  obtain ⟨g2, hg2, h3, h4⟩ := low_terms (S := S2) hB2
  generalize topOf S B = s at *
  generalize botOf S B = b at *
  generalize topOf S2 B2 = s2 at *
  generalize botOf S2 B2 = b2 at *
  have hk : S * B2 ≤ S2 * B := by
    rw [hc, ← Nat.mul_assoc, Nat.mul_comm S c]
    exact Nat.mul_le_mul_right B h
  rw [h1, h4, h3, h2, Nat.mul_mul_mul_comm, Nat.mul_mul_mul_comm s2 g2 b g, Nat.mul_comm g2 g] at hk
  exact Nat.le_of_mul_le_mul_right hk (Nat.mul_pos hg hg2)
theorem low_same {B : Nat} (hB : 0 < B) : topOf B B = 1 ∧ botOf B B = 1 := by
  unfold topOf botOf
  rw [Nat.gcd_self, Nat.div_self hB]
  exact ⟨rfl, rfl⟩
theorem low_half {S B : Nat} (hB : 0 < B) (h : B < S * 2) : botOf S B < topOf S B * 2 := by
  obtain ⟨g, hg, h1, h2⟩ := low_terms (S := S) hB
  generalize topOf S B = s at *
  generalize botOf S B = b at *
  rw [h1, h2, Nat.mul_right_comm] at h
  exact Nat.lt_of_mul_lt_mul_right h
/-! numbers outright -/
def evW (c m : Nat) (g : Nat → Nat) : Nat → Nat → Nat → Nat
  | 0, _, _ => 0
  | f + 1, p, a => if a = 0 then c ^ (m - p) * g p else sumN c fun i => if p + min (i + 1) a + gap a (i + 1) < m then c ^ (min (i + 1) a - 1) * evW c m g f (p + min (i + 1) a) (gap a (i + 1)) else 0
theorem evW_is {c m : Nat} {G : Option Nat → Nat} (g0 : G none = 0) : ∀ f p a, p < m → a < m → m - p ≤ f → rowW c m G p a = evW c m (fun q => G (some q)) f p a
  | 0, p, a, hp, ha, hf => by omega
  | f + 1, p, a, hp, ha, hf => by
    show _ = if a = 0 then _ else _
    by_cases h0 : a = 0
    · subst h0
      rw [if_pos rfl, rowW_end hp]
    · rw [if_neg h0, rowW_back g0 p a hp (by omega) ha]
      refine sumN_congr fun i _ => ?_
      unfold goW
      by_cases h : p + min (i + 1) a + gap a (i + 1) < m
      · rw [if_pos ⟨by omega, h⟩, if_pos h, evW_is g0 f _ _ (by omega) (by omega) (by omega)]
      · rw [if_neg fun z => h z.2, if_neg h]
theorem rowW_first {c m far : Nat} {G : Option Nat → Nat} : rowW c m G 0 far = allN c m fun row => G (firstF row far) := by
  unfold rowW
  refine allN_congr fun r _ _ => ?_
  congr 1
  cases firstF r far with
  | none => rfl
  | some z =>
    show some (0 + z) = some z
    rw [Nat.zero_add]
theorem meetL_ev {c m far : Nat} (hf : far < m) : meetL c m far = (List.range m).map fun q => evW c m (fun p => if p = q then 1 else 0) m 0 far := by
  rw [meetL_N hf]
  refine List.map_congr_left fun q _ => ?_
  unfold meetN
  rw [← rowW_first (G := fun o => if o = some q then 1 else 0), evW_is rfl m 0 far (by omega) hf (by omega)]
  congr 1
  funext p
  by_cases e : p = q
  · subst e
    rw [if_pos rfl, if_pos rfl]
  · rw [if_neg e, if_neg fun z => e (Option.some.inj z)]
def tab21 : List (List Nat) := [[1000000000000000000000, 515761768261103352780, 506591310176239278320, 497387812641576643600, 488329685282400846720, 479565484433181329920, 471217222631004835040, 463383134767144518960, 456139948152571687400, 449544695777288550010, 443636104698619700010, 359342457543320439660, 337411874803886810280, 316501870617080097840, 296447780719698215520, 277070614677204622560, 258175728325487245680, 239551136657024276040, 220965453858138400620, 202165441774145462910, 182873142484145462910],
  [100000000000000000000, 49723864041741665720, 48761862613938293600, 47815442168792191520, 46899478381058902720, 46026260457237348640, 45205770767145865360, 44445916616470153400, 43752718082117140910, 43130455132601790910, 41758405231210949060, 33082814509444255480, 31064487728825463440, 29142089447245292320, 27298671297927692960, 25516001556862476880, 23774408459729479640, 22052590732558036420, 20327393624922314810, 18573548234922314810],
  [10000000000000000000, 4775522926957908400, 4676454965972736320, 4580663804634107520, 4489360169659286240, 4403533263873987760, 4323974019304559400, 4251294148447012810, 4185941314600162810, 4037119428291904460, 3916619500858568680, 3032370738984133040, 2848580058840481120, 2673554990720699360, 2505589305169316080, 2342858259975407240, 2183401175687094220, 2025100974992937710, 1865660484992937710],
  [1000000000000000000, 457075168649543520, 447048581344608320, 437500996428247840, 428528282753126160, 420207544433505400, 412599020062455710, 405747613909105710, 389926761117445860, 376888958259869880, 366579158089466640, 277079932621861920, 260492053701881760, 244685645924483280, 229491514543218840, 214729215971554020, 200205188635721610, 185710598635721610],
  [100000000000000000, 43617982921800320, 42619074947625440, 41681023059840560, 40811164444791400, 40015264175859610, 39297667039009610, 37640178574313260, 36255624569079080, 35137188917224240, 34279993874714720, 25266695791080160, 23780949629498480, 22363264958474440, 20997037815595820, 19664571694156510, 18346881694156510],
  [10000000000000000, 4152126090588640, 4054006397906960, 3963053570777400, 3879803754314510, 3804662881364510, 3632877775846660, 3487823469916280, 3368705901565840, 3274923079519520, 3206063253734560, 2301613602681680, 2169424087134040, 2043021619599620, 1920788335832410, 1800998335832410],
  [1000000000000000, 394478820566160, 384961946791400, 376249749890410, 368378732560410, 350716423986060, 335670140901480, 323150791051440, 313088279956320, 305431204884960, 300146691152880, 209620371557640, 197929238145420, 186717121439310, 175827121439310],
  [100000000000000, 37423590741800, 36510931921310, 35685711327310, 33880343671460, 32330951354680, 31027784641040, 29962970905120, 29130473171360, 28526062832080, 28147306505240, 19102658013220, 18074283767210, 17084283767210],
  [10000000000000, 3546919115410, 3460286017210, 3276513462860, 3117797595880, 2983089694640, 2871526445920, 2782424833760, 2715278439280, 2669755136840, 2645696183020, 1743116706110, 1653116706110],
  [1000000000000, 336007344210, 317352031260, 301151755080, 287295072240, 275688858720, 266257712160, 258943494480, 253705012440, 250517834820, 249374246010, 159374246010],
  [100000000000, 30798901760, 29148993280, 27728243840, 26526723520, 25536246560, 24750317680, 24164092040, 23774348620, 23579476910, 23579476910],
  [10000000000, 2649908480, 2520749440, 2411520320, 2321476960, 2250028880, 2196735640, 2161304420, 2143588810, 2143588810],
  [1000000000, 229159040, 219229120, 211043360, 204548080, 199703240, 196482220, 194871710, 194871710],
  [100000000, 19929920, 19185760, 18595280, 18154840, 17862020, 17715610, 17715610],
  [10000000, 1744160, 1690480, 1650440, 1623820, 1610510, 1610510],
  [1000000, 153680, 150040, 147620, 146410, 146410],
  [100000, 13640, 13420, 13310, 13310],
  [10000, 1220, 1210, 1210],
  [1000, 110, 110],
  [100, 10],
  [10]]
def tabW : Tab := fun p a => (tab21.getD p []).getD a 0
theorem tab_back : Back 10 21 tabW := by
  have h : ∀ p, p < 21 → ∀ a, a < 21 → 0 < a → tabW p a = sumN 10 fun i => goW 10 21 p a tabW (i + 1) := by decide +kernel
  exact fun p a hp h0 ha => h p hp a ha h0
theorem tab_end : ∀ q, q < 21 → tabW q 0 = 10 ^ (21 - q) := by decide +kernel
theorem sum_21 : (meetL 10 21 1).sum = tabW 0 1 := by
  rw [← table_back tab_back (show 1 < 21 by decide)]
  unfold meetL
  rw [sumN_range]
  exact sumN_congr fun q hq => by rw [tab_end q hq]
theorem half_52 : 10 ^ 52 < (meetL 10 52 1).sum * 2 := by
  have h := sum_mores (c := 10) (m := 21) (far := 1) (by decide) 31
  rw [sum_21] at h
  have h2 : 10 ^ 52 < 10 ^ 31 * tabW 0 1 * 2 := by decide +kernel
  have h3 : (meetL 10 (21 + 31) 1).sum = (meetL 10 52 1).sum := rfl
  rw [h3] at h
  generalize (meetL 10 52 1).sum = S at *
  omega
end Rt

namespace Rt
open PySem PySem.Spec PyProof.Rows L2 Evl
def topS (i : Nat) : Stmt := PySem.Challenge.pw_runtogether_k06_whole_great_shares.main.body.getD i (.Pass ⟨0, 0, 0, 0⟩)
abbrev s_is_whole : Stmt := topS 7
abbrev s_check_count : Stmt := topS 8
abbrev s_check_far : Stmt := topS 10
abbrev s_power : Stmt := topS 11
abbrev s_states : Stmt := topS 12
abbrev s_meetings_of : Stmt := topS 13
abbrev s_check_all : Stmt := topS 14
abbrev s_meetings : Stmt := topS 15
abbrev s_common : Stmt := topS 16
abbrev s_share : Stmt := topS 17
abbrev s__law_cell_at : Stmt := topS 19
abbrev s__law_draw : Stmt := topS 20
abbrev s__law_number : Stmt := topS 21
abbrev s__law_whole : Stmt := topS 22
abbrev s__law_step : Stmt := topS 23
abbrev s__law_outright : Stmt := topS 24
abbrev s_law : Stmt := topS 25
theorem sc_is_whole : FnScope ["thing"] ["thing"] (defScope s_is_whole) := ⟨rfl, rfl, rfl, by decide +kernel, rfl, by decide +kernel, by decide +kernel⟩
theorem sc_check_count : FnScope ["count", "least", "most"] ["count", "least", "most"] (defScope s_check_count) := ⟨rfl, rfl, rfl, by decide +kernel, rfl, by decide +kernel, by decide +kernel⟩
theorem sc_check_far : FnScope ["many", "far"] ["many", "far"] (defScope s_check_far) := ⟨rfl, rfl, rfl, by decide +kernel, rfl, by decide +kernel, by decide +kernel⟩
theorem sc_power : FnScope ["number", "many", "found", "turn"] ["number", "many"] (defScope s_power) := ⟨rfl, rfl, rfl, by decide +kernel, rfl, by decide +kernel, by decide +kernel⟩
theorem sc_states : FnScope ["cards", "many", "far", "found", "place", "ahead", "often", "card", "there", "left", "free"] ["cards", "many", "far"] (defScope s_states) := ⟨rfl, rfl, rfl, by decide +kernel, rfl, by decide +kernel, by decide +kernel⟩
theorem sc_meetings_of : FnScope ["cards", "many", "far", "found", "place"] ["cards", "many", "far"] (defScope s_meetings_of) := ⟨rfl, rfl, rfl, by decide +kernel, rfl, by decide +kernel, by decide +kernel⟩
theorem sc_check_all : FnScope ["cards", "many", "far"] ["cards", "many", "far"] (defScope s_check_all) := ⟨rfl, rfl, rfl, by decide +kernel, rfl, by decide +kernel, by decide +kernel⟩
theorem sc_meetings : FnScope ["cards", "many", "far"] ["cards", "many", "far"] (defScope s_meetings) := ⟨rfl, rfl, rfl, by decide +kernel, rfl, by decide +kernel, by decide +kernel⟩
theorem sc_common : FnScope ["one", "other"] ["one", "other"] (defScope s_common) := ⟨rfl, rfl, rfl, by decide +kernel, rfl, by decide +kernel, by decide +kernel⟩
theorem sc_share : FnScope ["cards", "many", "far", "top", "bottom", "both"] ["cards", "many", "far"] (defScope s_share) := ⟨rfl, rfl, rfl, by decide +kernel, rfl, by decide +kernel, by decide +kernel⟩
theorem sc__law_cell_at : FnScope ["_law_script", "_law_k"] ["_law_script", "_law_k"] (defScope s__law_cell_at) := ⟨rfl, rfl, rfl, by decide +kernel, rfl, by decide +kernel, by decide +kernel⟩
theorem sc__law_draw : FnScope ["_law_cell", "_law_k", "_law_most", "_law_primes"] ["_law_cell", "_law_k", "_law_most"] (defScope s__law_draw) := ⟨rfl, rfl, rfl, by decide +kernel, rfl, by decide +kernel, by decide +kernel⟩
theorem sc__law_number : FnScope ["_law_cell", "_law_k", "_law_limit"] ["_law_cell", "_law_k", "_law_limit"] (defScope s__law_number) := ⟨rfl, rfl, rfl, by decide +kernel, rfl, by decide +kernel, by decide +kernel⟩
theorem sc__law_whole : FnScope ["_law_found"] ["_law_found"] (defScope s__law_whole) := ⟨rfl, rfl, rfl, by decide +kernel, rfl, by decide +kernel, by decide +kernel⟩
theorem sc__law_step : FnScope ["_law_cards", "_law_many", "_law_far", "_law_table", "_law_powers", "_law_turn", "_law_place", "_law_ahead", "_law_total", "_law_card", "_law_there"] ["_law_cards", "_law_many", "_law_far"] (defScope s__law_step) := ⟨rfl, rfl, rfl, by decide +kernel, rfl, by decide +kernel, by decide +kernel⟩
theorem sc__law_outright : FnScope ["_law_told", "_law_rows", "_law_cards", "_law_many", "_law_far", "_law_due", "_law_top", "_law_bottom"] [] (defScope s__law_outright) := ⟨rfl, rfl, rfl, by decide +kernel, rfl, by decide +kernel, by decide +kernel⟩
theorem sc_law : FnScope ["_law_script", "_law_by", "_law_cell", "_law_cards", "_law_many", "_law_far", "_law_found", "_law_due", "_law_one", "_law_top", "_law_bottom", "_law_other", "_law_kept", "_law_more", "_law_first", "_law_second"] ["_law_script"] (defScope s_law) := ⟨rfl, rfl, rfl, by decide +kernel, rfl, by decide +kernel, by decide +kernel⟩
structure Tx (K : PySem.W.Frag) (mg : Str → Option Value) where
  f_is_whole : Addr
  d_is_whole : FuncData
  F_is_whole : Fun K "is_whole" "is_whole" s_is_whole f_is_whole d_is_whole
  b_is_whole : Binds K d_is_whole ["thing"] []
  m_is_whole : mg "is_whole" = some (.ref f_is_whole)
  f_check_count : Addr
  d_check_count : FuncData
  F_check_count : Fun K "check_count" "check_count" s_check_count f_check_count d_check_count
  b_check_count : Binds K d_check_count ["count", "least", "most"] []
  m_check_count : mg "check_count" = some (.ref f_check_count)
  f_check_far : Addr
  d_check_far : FuncData
  F_check_far : Fun K "check_far" "check_far" s_check_far f_check_far d_check_far
  b_check_far : Binds K d_check_far ["many", "far"] []
  m_check_far : mg "check_far" = some (.ref f_check_far)
  f_power : Addr
  d_power : FuncData
  F_power : Fun K "power" "power" s_power f_power d_power
  b_power : Binds K d_power ["number", "many"] []
  m_power : mg "power" = some (.ref f_power)
  f_states : Addr
  d_states : FuncData
  F_states : Fun K "states" "states" s_states f_states d_states
  b_states : Binds K d_states ["cards", "many", "far"] []
  m_states : mg "states" = some (.ref f_states)
  f_meetings_of : Addr
  d_meetings_of : FuncData
  F_meetings_of : Fun K "meetings_of" "meetings_of" s_meetings_of f_meetings_of d_meetings_of
  b_meetings_of : Binds K d_meetings_of ["cards", "many", "far"] []
  m_meetings_of : mg "meetings_of" = some (.ref f_meetings_of)
  f_check_all : Addr
  d_check_all : FuncData
  F_check_all : Fun K "check_all" "check_all" s_check_all f_check_all d_check_all
  b_check_all : Binds K d_check_all ["cards", "many", "far"] []
  m_check_all : mg "check_all" = some (.ref f_check_all)
  f_meetings : Addr
  d_meetings : FuncData
  F_meetings : Fun K "meetings" "meetings" s_meetings f_meetings d_meetings
  b_meetings : Binds K d_meetings ["cards", "many", "far"] []
  m_meetings : mg "meetings" = some (.ref f_meetings)
  f_common : Addr
  d_common : FuncData
  F_common : Fun K "common" "common" s_common f_common d_common
  b_common : Binds K d_common ["one", "other"] []
  m_common : mg "common" = some (.ref f_common)
  f_share : Addr
  d_share : FuncData
  F_share : Fun K "share" "share" s_share f_share d_share
  b_share : Binds K d_share ["cards", "many", "far"] []
  m_share : mg "share" = some (.ref f_share)
  f__law_cell_at : Addr
  d__law_cell_at : FuncData
  F__law_cell_at : Fun K "_law_cell_at" "_law_cell_at" s__law_cell_at f__law_cell_at d__law_cell_at
  b__law_cell_at : Binds K d__law_cell_at ["_law_script", "_law_k"] []
  m__law_cell_at : mg "_law_cell_at" = some (.ref f__law_cell_at)
  f__law_draw : Addr
  d__law_draw : FuncData
  F__law_draw : Fun K "_law_draw" "_law_draw" s__law_draw f__law_draw d__law_draw
  b__law_draw : Binds K d__law_draw ["_law_cell", "_law_k", "_law_most"] []
  m__law_draw : mg "_law_draw" = some (.ref f__law_draw)
  f__law_number : Addr
  d__law_number : FuncData
  F__law_number : Fun K "_law_number" "_law_number" s__law_number f__law_number d__law_number
  b__law_number : Binds K d__law_number ["_law_cell", "_law_k", "_law_limit"] []
  m__law_number : mg "_law_number" = some (.ref f__law_number)
  f__law_whole : Addr
  d__law_whole : FuncData
  F__law_whole : Fun K "_law_whole" "_law_whole" s__law_whole f__law_whole d__law_whole
  b__law_whole : Binds K d__law_whole ["_law_found"] []
  m__law_whole : mg "_law_whole" = some (.ref f__law_whole)
  f__law_step : Addr
  d__law_step : FuncData
  F__law_step : Fun K "_law_step" "_law_step" s__law_step f__law_step d__law_step
  b__law_step : Binds K d__law_step ["_law_cards", "_law_many", "_law_far"] []
  m__law_step : mg "_law_step" = some (.ref f__law_step)
  f__law_outright : Addr
  d__law_outright : FuncData
  F__law_outright : Fun K "_law_outright" "_law_outright" s__law_outright f__law_outright d__law_outright
  b__law_outright : Binds K d__law_outright [] []
  m__law_outright : mg "_law_outright" = some (.ref f__law_outright)
  f_law : Addr
  d_law : FuncData
  F_law : Fun K "law" "law" s_law f_law d_law
  b_law : Binds K d_law ["_law_script"] []
  m_law : mg "law" = some (.ref f_law)
  c_LONGEST : PSigma fun t : Tok => mg "LONGEST" = some (.int 60 t)
  c_GREATEST : PSigma fun t : Tok => mg "GREATEST" = some (.int 20 t)
  z_abs : mg "abs" = none
  z_all : mg "all" = none
  z_any : mg "any" = none
  z_bool : mg "bool" = none
  z_int : mg "int" = none
  z_isinstance : mg "isinstance" = none
  z_len : mg "len" = none
  z_list : mg "list" = none
  z_max : mg "max" = none
  z_min : mg "min" = none
  z_range : mg "range" = none
  z_sorted : mg "sorted" = none
  z_sum : mg "sum" = none
def sp_is_whole : Sp := fun vs H Q _ => ∃ i : Int, vs = [.int i] ∧ RetV (.bl true) H Q
theorem sv_is_whole {H : Hp} {i : Int} : SpV sp_is_whole ([.int i] ++ []) H (.bl true) := fun H1 _ Q q E => ⟨i, rfl, q⟩

/-! ### the program: rows -/
section
variable {P : Program} {w : World} {K : PySem.W.Frag} {mg : Str → Option Value} {base : Heap}
theorem ok_is_whole (T : Tx K mg) : FnOk P w K mg base CX0 1 T.f_is_whole T.d_is_whole ["thing"] sp_is_whole := by
  refine T.F_is_whole.ok sc_is_whole (fun vs H Q E h => ?_) (fun cdv A outer s H vs Q E hr h => ?_)
  · obtain ⟨i, rfl, _⟩ := h
    rfl
  · obtain ⟨i, rfl, k⟩ := h
    refine ⟨_, (pss_one (ps_ret (pe_and (pe_callB (r := rIsi K) call_isi (by rfl) T.z_isinstance (by decide +kernel) (pa_cons (pv 0) (pa_cons (pe_bltn (v := .ty "int") (by rfl) T.z_int (by decide +kernel) rfl) pa_nil))) (pe_one (pe_not (pe_callB (r := rIsi K) call_isi (by rfl) T.z_isinstance (by decide +kernel) (pa_cons (pv 0) (pa_cons (pe_bltn (v := .ty "bool") (by rfl) T.z_bool (by decide +kernel) rfl) pa_nil)))))))), ?_⟩
    refine s_ret (ev_andV (ev_isiB (K := K) (b := true) (ev_var rfl) (fun _ _ => tyx_int i) (by decide +kernel)) fun _ => ev_notV (ev_isiB (K := K) (b := false) (ev_var rfl) (fun _ _ => tyx_int i) (by decide +kernel))) ?_
    exact fun H1 e => k H1 e
end

section
variable {P : Program} {w : World} {K : PySem.W.Frag} {mg : Str → Option Value} {base : Heap}
def sp_check_count : Sp := fun vs H Q _ => ∃ c lo hi : Int, vs = [.int c, .int lo, .int hi] ∧ lo ≤ c ∧ c ≤ hi ∧ RetV .non H Q
theorem ok_check_count (T : Tx K mg) : FnOk P w K mg base CX0 2 T.f_check_count T.d_check_count ["count", "least", "most"] sp_check_count := by
  refine T.F_check_count.ok sc_check_count (fun vs H Q E h => ?_) (fun cdv A outer s H vs Q E hr h => ?_)
  · obtain ⟨c, lo, hi, rfl, _⟩ := h
    rfl
  · obtain ⟨c, lo, hi, rfl, h1, h2, k⟩ := h
    refine ⟨_, (pss_one (ps_if (PW.pt (pw_or (pt_not (pt_val (pe_call (ok_is_whole T) hr (by rfl) T.m_is_whole T.F_is_whole.kp T.b_is_whole .nil pass0 (pa_cons (pv 0) pa_nil)))) (pw_or1 (pt_not (pt_chain op_le op_le (pv 1) (pv 0) (pv 2)))))) (pss_one ps_never) pss_nil)), ?_⟩
    refine s_when (b := false) (evT_to (et_or (et_not (et_B (ev_call (ea_cons (ev_var rfl) ea_nil) sv_is_whole))) fun _ =>
      et_not (et_test (ev_chain (ev_var rfl) (ev_var rfl) rv_I0 (fun _ => ev_var rfl) fun _ => rv_I0))) ?_) (fun z => nomatch z) fun _ H1 e1 => k H1 e1
    rw [decide_eq_true h1, decide_eq_true h2]
    rfl
theorem sv_check_count {H : Hp} {c lo hi : Int} (h1 : lo ≤ c) (h2 : c ≤ hi) : SpV sp_check_count ([.int c, .int lo, .int hi] ++ []) H .non := fun H1 e Q q E => ⟨c, lo, hi, rfl, h1, h2, q⟩
end

/-! ### the program: shares -/
section
variable {P : Program} {w : World} {K : PySem.W.Frag} {mg : Str → Option Value} {base : Heap}
def sp_power : Sp := fun vs H Q _ => ∃ b n : Nat, vs = [vN b, vN n] ∧ b ≤ 20 ∧ n ≤ 60 ∧ RetV (vN (b ^ n)) H Q
theorem ok_power (T : Tx K mg) : FnOk P w K mg base CX0 1 T.f_power T.d_power ["number", "many"] sp_power := by
  refine T.F_power.ok sc_power (fun vs H Q E h => ?_) (fun cdv A outer s H vs Q E hr h => ?_)
  · obtain ⟨b, n, rfl, _⟩ := h
    rfl
  · obtain ⟨b, n, rfl, hb, hn, k⟩ := h
    refine ⟨_, (pss_cons (ps_set (i := 2) sc_power.nd rfl (by first | exact Or.inl rfl | exact Or.inr rfl) pe_int)
      (pss_cons (ps_for PassesOwn.never rfl (pi_range1 (by rfl) T.z_range (pa_cons (pv 1) pa_nil)) (pg_name (i := 3) sc_power.nd rfl (by first | exact Or.inl rfl | exact Or.inr rfl))
      (pss_one (ps_set (i := 2) sc_power.nd rfl (by first | exact Or.inl rfl | exact Or.inr rfl) (pe_op op_mulX (pv 2) (pv 0)))))
      (pss_one (ps_ret (pv 2))))), ?_⟩
    refine q_asg (v := vN 1) ev_c fun H1 e1 => ?_
    refine q_forR1 (n := (n : Int)) (ea_cons (ev_var rfl) ea_nil) ⟨by omega, by omega⟩ (fun i σ' H' => ∃ y3, σ' = [some (vN b), some (vN n), some (vN (b ^ i)), y3] ∧ Ex H H') (fun H2 e2 => ⟨none, rfl, e1.trans e2⟩) ?_ ?_
    · rintro i σ' H2 hi ⟨y3, rfl, e2⟩
      refine s_asg (v := vN (b ^ (i + 1))) (ev_to (ev_op (ev_var rfl) (ev_var rfl) (rv_I (mulok_right (by omega) (by omega)))) ?_) fun H3 e3 => ⟨_, rfl, e2.trans e3⟩
      show V.int _ = V.int _
      rw [Nat.pow_succ, Int.natCast_mul]
    · rintro σ' H2 ⟨y3, rfl, e2⟩
      rw [Int.toNat_natCast]
      exact s_ret (ev_var rfl) fun H3 e3 => k H3 (e2.trans e3)
theorem sv_power {H : Hp} {b n : Nat} (hb : b ≤ 20) (hn : n ≤ 60) : SpV sp_power ([vN b, vN n] ++ []) H (vN (b ^ n)) := fun H1 e Q q E => ⟨b, n, rfl, hb, hn, q⟩
def sp_check_far : Sp := fun vs H Q _ => ∃ m far : Nat, vs = [vN m, vN far] ∧ far < m ∧ RetV .non H Q
theorem ok_check_far (T : Tx K mg) : FnOk P w K mg base CX0 2 T.f_check_far T.d_check_far ["many", "far"] sp_check_far := by
  refine T.F_check_far.ok sc_check_far (fun vs H Q E h => ?_) (fun cdv A outer s H vs Q E hr h => ?_)
  · obtain ⟨m, far, rfl, _⟩ := h
    rfl
  · obtain ⟨m, far, rfl, hf, k⟩ := h
    refine ⟨_, (pss_one (ps_if (PW.pt (pw_or (pt_not (pt_val (pe_call (ok_is_whole T) hr (by rfl) T.m_is_whole T.F_is_whole.kp T.b_is_whole .nil pass0 (pa_cons (pv 1) pa_nil)))) (pw_or1 (pt_not (pt_chain op_le op_lt pe_int (pv 1) (pv 0)))))) (pss_one ps_never) pss_nil)), ?_⟩
    refine s_when (b := false) (evT_to (et_or (et_not (et_B (ev_call (ea_cons (ev_var rfl) ea_nil) sv_is_whole))) fun _ =>
      et_not (et_test (ev_chain ev_c (ev_var rfl) rv_I0 (fun _ => ev_var rfl) fun _ => rv_I0))) ?_) (fun z => nomatch z) fun _ H1 e1 => k H1 e1
    rw [decide_eq_true (show (0 : Int) ≤ (far : Int) by omega), decide_eq_true (show (far : Int) < (m : Int) by omega)]
    rfl
theorem sv_check_far {H : Hp} {m far : Nat} (h : far < m) : SpV sp_check_far ([vN m, vN far] ++ []) H .non := fun H1 e Q q E => ⟨m, far, rfl, h, q⟩
structure ShOk (c m far : Nat) : Prop where
  c1 : 1 ≤ c
  c20 : c ≤ 20
  m1 : 1 ≤ m
  m60 : m ≤ 60
  fl : far < m
def sp_check_all : Sp := fun vs H Q _ => ∃ c m far : Nat, vs = [vN c, vN m, vN far] ∧ ShOk c m far ∧ RetV .non H Q
theorem ok_check_all (T : Tx K mg) : FnOk P w K mg base CX0 3 T.f_check_all T.d_check_all ["cards", "many", "far"] sp_check_all := by
  refine T.F_check_all.ok sc_check_all (fun vs H Q E h => ?_) (fun cdv A outer s H vs Q E hr h => ?_)
  · obtain ⟨c, m, far, rfl, _⟩ := h
    rfl
  · obtain ⟨c, m, far, rfl, ok, k⟩ := h
    refine ⟨_, (pss_cons (ps_expr (pe_call (ok_check_count T) hr (by rfl) T.m_check_count T.F_check_count.kp T.b_check_count .nil pass0 (pa_cons (pv 0) (pa_cons pe_int (pa_cons (pe_glob (v := .int 20) (by rfl) T.c_GREATEST.2 ⟨_, rfl⟩) pa_nil)))))
      (pss_cons (ps_expr (pe_call (ok_check_count T) hr (by rfl) T.m_check_count T.F_check_count.kp T.b_check_count .nil pass0 (pa_cons (pv 1) (pa_cons pe_int (pa_cons (pe_glob (v := .int 60) (by rfl) T.c_LONGEST.2 ⟨_, rfl⟩) pa_nil)))))
      (pss_one (ps_expr (pe_call (ok_check_far T) hr (by rfl) T.m_check_far T.F_check_far.kp T.b_check_far .nil pass0 (pa_cons (pv 1) (pa_cons (pv 2) pa_nil))))))), ?_⟩
    have h1 := ok.c1
    have h2 := ok.c20
    have h3 := ok.m1
    have h4 := ok.m60
    refine q_drop (ev_call (ea_cons (ev_var rfl) (ea_cons ev_c (ea_cons ev_c ea_nil))) (sv_check_count (c := (c : Int)) (by omega) (by omega))) fun H1 e1 => ?_
    refine q_drop (ev_call (ea_cons (ev_var rfl) (ea_cons ev_c (ea_cons ev_c ea_nil))) (sv_check_count (c := (m : Int)) (by omega) (by omega))) fun H2 e2 => ?_
    refine s_drop (ev_call (ea_cons (ev_var rfl) (ea_cons (ev_var rfl) ea_nil)) (sv_check_far ok.fl)) fun H3 e3 => k H3 ((e1.trans e2).trans e3)
theorem sv_check_all {H : Hp} {c m far : Nat} (ok : ShOk c m far) : SpV sp_check_all ([vN c, vN m, vN far] ++ []) H .non := fun H1 e Q q E => ⟨c, m, far, rfl, ok, q⟩
/-! the table of states -/
theorem min_int (a k : Nat) : V.int (if (a : Int) < (k : Int) then (a : Int) else (k : Int)) = vN (min k a) := by
  show V.int _ = V.int _
  congr 1
  split <;> omega
theorem gap_int (a k : Nat) : V.int (if (a : Int) - (k : Int) < 0 then -((a : Int) - (k : Int)) else (a : Int) - (k : Int)) = vN (gap a k) := by
  show V.int _ = V.int _
  congr 1
  unfold gap
  split <;> omega
def sp_states : Sp := fun vs H Q _ => ∃ c m far : Nat, vs = [vN c, vN m, vN far] ∧ ShOk c m far ∧ ∀ f fs H2, DictsAt H H2 f fs (tabS c m far m) m → Bd (tabS c m far m) (m * 1200) → Q (.ref f) H2
theorem ok_states (T : Tx K mg) : FnOk P w K mg base CX0 2 T.f_states T.d_states ["cards", "many", "far"] sp_states := by
  refine T.F_states.ok sc_states (fun vs H Q E h => ?_) (fun cdv A outer s H vs Q E hr h => ?_)
  · obtain ⟨c, m, far, rfl, _⟩ := h
    rfl
  · obtain ⟨c, m, far, rfl, ok, k⟩ := h
    refine ⟨_, (pss_cons (ps_setLc (i := 3) (own := [("place", 4)]) (by rfl) sc_states.nd rfl rfl (sw_true rfl rfl rfl (by decide +kernel)) (pi_range1 (by rfl) T.z_range (pa_cons (pv 1) pa_nil)) (blkOk_by (own := [("place", 4)]) (N := ["cards", "many", "far", "found", "place", "ahead", "often", "card", "there", "left", "free"]) (sc := defScope s_states) (by decide +kernel)) (fun _ _ _ _ _ => (pg_name (i := 4) sc_states.nd rfl (by first | exact Or.inl rfl | exact Or.inr rfl))) (fun _ _ _ _ _ => pts_nil) (fun _ _ _ _ _ => pe_dnewK))
      (pss_cons (ps_dput (hu_of hr) (pe_ix (r := rIxL K) ix_list (pv 3) pe_int (fun _ _ => rfl)) (pv 2) pe_int rfl)
      (pss_cons (ps_for PassesOwn.never rfl (pi_range1 (by rfl) T.z_range (pa_cons (pv 1) pa_nil)) (pg_name (i := 4) sc_states.nd rfl (by first | exact Or.inl rfl | exact Or.inr rfl))
      (pss_one (ps_for PassesOwn.never rfl (pi_list (pe_callB (r := rSortDI) (call_sortedDI rfl) (by rfl) T.z_sorted (by decide +kernel) (pa_cons (pe_ix (r := rIxL K) ix_list (pv 3) (pv 4) (fun _ _ => rfl)) pa_nil))) (pg_name (i := 5) sc_states.nd rfl (by first | exact Or.inl rfl | exact Or.inr rfl))
      (pss_cons (ps_set (i := 6) sc_states.nd rfl (by first | exact Or.inl rfl | exact Or.inr rfl) (pe_dget (hu_of hr) (pe_ix (r := rIxL K) ix_list (pv 3) (pv 4) (fun _ _ => rfl)) (pv 5) (fun _ _ => rfl)))
      (pss_one (ps_for PassesOwn.never rfl (pi_range2 (by rfl) T.z_range (pa_cons pe_int (pa_cons (pe_op op_add (pv 0) pe_int) pa_nil))) (pg_name (i := 7) sc_states.nd rfl (by first | exact Or.inl rfl | exact Or.inr rfl))
      (pss_cons (ps_par (i := 8) (j := 9) (by rfl) sc_states.nd rfl rfl (by decide) rfl rfl (pa_cons (pe_op op_add (pv 4) (pe_callB (call_min2 rfl) (by rfl) T.z_min (by decide +kernel) (pa_cons (pv 7) (pa_cons (pv 5) pa_nil)))) (pa_cons (pe_callB call_abs (by rfl) T.z_abs (by decide +kernel) (pa_cons (pe_op op_sub (pv 5) (pv 7)) pa_nil)) pa_nil)) (by rfl))
      (pss_one (ps_if (PW.pt (pw_and (pt_cmpR op_gt (pv 5) pe_int (nomark _)) (pw_and1 (pt_cmpR op_lt (pe_op op_add (pv 8) (pv 9)) (pv 1) (nomark _))))) (pss_cons (ps_set (i := 10) sc_states.nd rfl (by first | exact Or.inl rfl | exact Or.inr rfl) (pe_call (ok_power T) hr (by rfl) T.m_power T.F_power.kp T.b_power .nil pass0 (pa_cons (pv 0) (pa_cons (pe_op op_sub (pe_callB (call_min2 rfl) (by rfl) T.z_min (by decide +kernel) (pa_cons (pv 7) (pa_cons (pv 5) pa_nil))) pe_int) pa_nil))))
      (pss_one (ps_dput (hu_of hr) (pe_ix (r := rIxL K) ix_list (pv 3) (pv 8) (fun _ _ => rfl)) (pv 9) (pe_op op_add (pe_dget2 (hu_of hr) (pe_ix (r := rIxL K) ix_list (pv 3) (pv 8) (fun _ _ => rfl)) (pv 9) pe_int ⟨by rfl, by rfl, by rfl, by rfl⟩) (pe_op op_mulX (pv 6) (pv 10))) rfl))) pss_nil)))))))))
      (pss_one (ps_ret (pv 3)))))), ?_⟩
    have hc1 := ok.c1
    have hc20 := ok.c20
    have hm1 := ok.m1
    have hm60 := ok.m60
    have hfl := ok.fl
    refine q_dicts (n := m) (ea_cons (ev_var rfl) ea_nil) (by omega) fun f fs H1 d1 => ?_
    obtain ⟨a0, ha0, _⟩ := d1.at (p := 0) hm1
    obtain ⟨kv0, ks0, hk0, rp0⟩ := d1.tab 0 a0 ha0
    refine q_dput (k := Sum.inl (far : Int)) (v := vN 1) hk0 ev_c (ev_dict (K := K) d1 ha0 (ev_var rfl) ev_c) (ev_var rfl) (by have := rp0.len; omega) fun H2 e2 => ?_
    have d2 : DictsAt H (upd H2 a0 (.dK (putK kv0 (Sum.inl (far : Int)) (vN 1)))) f fs (initT far) m := by
      have := (d1.go e2).put (v := 1) ha0 (e2 a0 _ hk0) rp0 hfl
      have e : addT (fun _ _ => 0) 0 far 1 = initT far := by
        funext q l
        unfold addT initT
        split <;> rfl
      rw [e] at this
      exact this
    generalize upd H2 a0 (.dK (putK kv0 (Sum.inl (far : Int)) (vN 1))) = H3 at d2
    refine q_forR1 (n := (m : Int)) (ea_cons (ev_var rfl) ea_nil) ⟨by omega, by omega⟩
      (fun i σ' H' => ∃ y4 y5 y6 y7 y8 y9 y10, σ' = [some (vN c), some (vN m), some (vN far), some (.ref f), y4, y5, y6, y7, y8, y9, y10] ∧ DictsAt H H' f fs (tabS c m far i) m ∧ Bd (tabS c m far i) (i * 1200))
      (fun H4 e4 => ⟨none, none, none, none, none, none, none, rfl, d2.go e4, Bd.init far⟩) ?_ ?_
    · -- a place
      rintro p σ' H4 hp ⟨y4, y5, y6, y7, y8, y9, y10, rfl, d4, b4⟩
      have hp' : p < m := by omega
      obtain ⟨ap, hap, hapm⟩ := d4.at hp'
      obtain ⟨kv, ks, hkv, rp⟩ := d4.tab p ap hap
      generalize ht0 : tabS c m far p = t0 at d4 b4 rp
      have hks := nodup_len m ks rp.nd rp.lt
      generalize hrs : (List.range m).filter (fun a => decide (a ∈ ks)) = rs
      have rsr : rs.Pairwise (· < ·) := by
        rw [← hrs]
        exact List.pairwise_lt_range.filter _
      have rsm : ∀ n, n ∈ ks ↔ n ∈ rs := fun n => by
        rw [← hrs, List.mem_filter, decide_eq_true_iff, List.mem_range]
        exact ⟨fun z => ⟨rp.lt n z, z⟩, fun z => z.2⟩
      have rsl : rs.length ≤ m := by
        rw [← hrs]
        have := List.length_filter_le (fun a => decide (a ∈ ks)) (List.range m)
        rw [List.length_range] at this
        exact this
      refine s_forNL (K := K) (xs := vNs rs) (el_sortD (ev_dict (K := K) d4 hap (ev_var rfl) (ev_var rfl)) hkv rp.keys (by omega) rp.nd rsr rsm)
        (fun L i σ' H' => ∃ y5 y6 y7 y8 y9 y10, σ' = [some (vN c), some (vN m), some (vN far), some (.ref f), some (vN p), y5, y6, y7, y8, y9, y10] ∧ H' L = some (.lst (vNs rs)) ∧ L ∉ fs ∧ H' ap = some (.dK kv) ∧ DictsAt H H' f fs ((rs.take i).foldl (aheadS c m p) t0) m ∧ Bd ((rs.take i).foldl (aheadS c m p) t0) (p * 1200 + i * 20))
        (fun L H5 nL e5 hL => ⟨_, _, _, _, _, _, rfl, hL, ?_, e5 ap _ hkv, d4.go e5, b4⟩) (fun L i σ' H' _ ⟨_, _, _, _, _, _, _, h, _⟩ => sq_of h) ?_ ?_
      · intro z
        obtain ⟨ix, hix, hix2⟩ := List.getElem_of_mem z
        obtain ⟨kv2, ks2, h2, _⟩ := d4.tab ix L (by rw [List.getElem?_eq_getElem hix, hix2])
        rw [h2] at nL
        cases nL
      · -- a distance
        rintro L i x σ' H5 hx ⟨y5, y6, y7, y8, y9, y10, rfl, hL, nLf, hap5, d5, b5⟩
        obtain ⟨a, har, rfl⟩ := List.mem_map.mp (List.mem_of_getElem? hx)
        have hra : rs[i]? = some a := by
          unfold vNs at hx
          rw [List.getElem?_map] at hx
          cases e : rs[i]? with
          | none => rw [e] at hx; cases hx
          | some z =>
            rw [e] at hx
            have e2 : (z : Int) = (a : Int) := V.int.inj (Option.some.inj hx)
            rw [show z = a by omega]
        have hak : a ∈ ks := (rsm a).mpr har
        have ham : a < m := rp.lt a hak
        have hil : i < rs.length := (List.getElem?_eq_some_iff.mp hra).1
        generalize ht1 : (rs.take i).foldl (aheadS c m p) t0 = t1 at d5 b5
        have hta : t1 p a = t0 p a := by
          rw [← ht1]
          exact aheadF_old (Nat.le_refl p) _ _
        show tSeq _ _ _ _ _
        refine q_asg (v := vN (t1 p a)) (ev_dget (k := Sum.inl (a : Int)) (ev_dict (K := K) d5 hap (ev_var rfl) (ev_var rfl)) hap5 (ev_var rfl) (by rw [rp.vals, if_pos hak, hta])) fun H6 e6 => ?_
        have d6 := d5.go e6
        refine s_forR2 (lo := 1) (n := (c : Int) + 1) (ea_cons ev_c (ea_cons (ev_op (ev_var rfl) ev_c rv_I0) ea_nil)) ⟨by decide, by decide, by omega, by omega⟩
          (fun n σ' H' => ∃ y7 y8 y9 y10, σ' = [some (vN c), some (vN m), some (vN far), some (.ref f), some (vN p), some (vN a), some (vN (t1 p a)), y7, y8, y9, y10] ∧ H' L = some (.lst (vNs rs)) ∧ H' ap = some (.dK kv) ∧ DictsAt H H' f fs (cardsS c m p a (t1 p a) t1 n) m ∧ Bd (cardsS c m p a (t1 p a) t1 n) (p * 1200 + i * 20 + n))
          (fun H7 e7 => ⟨_, _, _, _, rfl, e7 L _ (e6 L _ hL), e7 ap _ (e6 ap _ hap5), d6.go e7, b5⟩) ?_ ?_
        · -- a card
          rintro n σ' H7 hn ⟨y7, y8, y9, y10, rfl, hL7, hap7, d7, b7⟩
          have hb : ((1 : Int) + (n : Int)) = ((n + 1 : Nat) : Int) := by omega
          rw [hb]
          generalize ht2 : cardsS c m p a (t1 p a) t1 n = t2 at d7 b7
          have hwb : t1 p a < 2 ^ (90 * (p * 1200 + i * 20 + n) + 1) := (b5.mono (by omega)) p a
          have b8 : Bd (cardS c m p a (t1 p a) t2 (n + 1)) (p * 1200 + i * 20 + n + 1) := b7.card hwb hc20 (by omega)
          have hnx : cardsS c m p a (t1 p a) t1 (n + 1) = cardS c m p a (t1 p a) t2 (n + 1) := by rw [cardsS_succ, ht2]
          refine q_par (x := vN (p + min (n + 1) a)) (y := vN (gap a (n + 1))) (ea_cons (ev_to (ev_op (ev_var rfl) (ev_to (ev_min2 (ev_var rfl) (ev_var rfl)) (min_int a (n + 1))) rv_I0) ?_) (ea_cons (ev_to (ev_abs (ev_op (ev_var rfl) (ev_var rfl) rv_I0)) (gap_int a (n + 1))) ea_nil)) fun H8 e8 => ?_
          · show V.int _ = V.int _
            rw [Int.natCast_add]
          have d8 := d7.go e8
          refine s_when (b := decide (0 < a ∧ (p + min (n + 1) a) + gap a (n + 1) < m)) (evT_to (et_and (et_test (ev_op (ev_var rfl) ev_c rv_I0)) fun _ => et_test (ev_op (ev_op (ev_var rfl) (ev_var rfl) rv_I0) (ev_var rfl) rv_I0)) ?_) (fun hbb H9 e9 => ?_) fun hbb H9 e9 => ?_
          · rw [Bool.eq_iff_iff, Bool.and_eq_true, decide_eq_true_iff, decide_eq_true_iff, decide_eq_true_iff]
            constructor
            · rintro ⟨h1, h2⟩
              exact ⟨by omega, by omega⟩
            · rintro ⟨h1, h2⟩
              exact ⟨by omega, by omega⟩
          · obtain ⟨ha0', hqm⟩ := of_decide_eq_true hbb
            have d9 := d8.go e9
            have e29 := e8.trans e9
            refine q_asg (v := vN (c ^ (min (n + 1) a - 1))) (ev_call (ea_cons (ev_var rfl) (ea_cons (ev_to (ev_op (ev_to (ev_min2 (ev_var rfl) (ev_var rfl)) (min_int a (n + 1))) ev_c rv_I0) (w := vN (min (n + 1) a - 1)) ?_) ea_nil)) (sv_power hc20 (by omega))) fun H10 e10 => ?_
            · show V.int _ = V.int _
              rw [show ((min (n + 1) a : Nat) : Int) - 1 = ((min (n + 1) a - 1 : Nat) : Int) by omega]
            have d10 := d9.go e10
            obtain ⟨aq, haq, haqm⟩ := d10.at (p := p + min (n + 1) a) (by omega)
            obtain ⟨kvq, ksq, hkq, rpq⟩ := d10.tab _ aq haq
            have hne : aq ≠ ap := fun z => by
              subst z
              have := nd_ix d10.nd haq hap
              omega
            have hlm : gap a (n + 1) < m := by omega
            refine s_dput (k := Sum.inl ((gap a (n + 1) : Nat) : Int)) (v := vN (t2 (p + min (n + 1) a) (gap a (n + 1)) + t1 p a * c ^ (min (n + 1) a - 1))) hkq (ev_to (ev_op (ev_to (ev_get2 (k := Sum.inl ((gap a (n + 1) : Nat) : Int)) (ev_dict (K := K) d10 haq (ev_var rfl) (ev_var rfl)) hkq (ev_var rfl) ev_c) (rpq.get _)) (ev_op (ev_var rfl) (ev_var rfl) (rv_I (mulok_bits ?_))) rv_I0) ?_) (ev_dict (K := K) d10 haq (ev_var rfl) (ev_var rfl)) (ev_var rfl) (by have := rpq.len; omega) fun H11 e11 => ?_
            · have w1 : Builtin.Int.intBits ((t1 p a : Nat) : Int) ≤ 90 * (p * 1200 + i * 20 + n) + 1 := bits_of_lt (by rw [Int.natAbs_natCast]; exact hwb)
              have w2 : Builtin.Int.intBits ((c ^ (min (n + 1) a - 1) : Nat) : Int) ≤ 83 := bits_of_lt (by rw [Int.natAbs_natCast]; exact pow_bd hc20 (by omega))
              omega
            · show V.int _ = V.int _
              rw [Int.natCast_add, Int.natCast_mul]
            · have dN := (d10.go e11).put (v := t1 p a * c ^ (min (n + 1) a - 1)) haq (e11 aq _ hkq) rpq hlm
              have nLq : L ≠ aq := fun z => nLf (by rw [z]; exact haqm)
              refine ⟨_, _, _, _, rfl, ?_, ?_, ?_, ?_⟩
              · rw [upd_ne nLq]
                exact e11 L _ (e10 L _ (e29 L _ hL7))
              · rw [upd_ne (Ne.symm hne)]
                exact e11 ap _ (e10 ap _ (e29 ap _ hap7))
              · rw [hnx]
                unfold cardS
                rw [if_pos ⟨ha0', hqm⟩]
                exact dN
              · rw [hnx]
                exact b8
          · have hno := of_decide_eq_false hbb
            have e29 := e8.trans e9
            refine ⟨_, _, _, _, rfl, e29 L _ hL7, e29 ap _ hap7, ?_, ?_⟩
            · rw [hnx]
              unfold cardS
              rw [if_neg hno]
              exact d7.go e29
            · rw [hnx]
              exact b8
        · rintro σ' H7 ⟨y7, y8, y9, y10, rfl, hL7, hap7, d7, b7⟩
          have ec : ((c : Int) + 1 - 1).toNat = c := by omega
          rw [ec] at d7 b7
          refine ⟨_, _, _, _, _, _, rfl, hL7, nLf, hap7, ?_, ?_⟩
          · rw [foldl_take (aheadS c m p) t0 hra, ht1]
            exact d7
          · rw [foldl_take (aheadS c m p) t0 hra, ht1]
            exact b7.mono (by omega)
      · rintro L σ' H5 ⟨y5, y6, y7, y8, y9, y10, rfl, hL, nLf, hap5, d5, b5⟩
        rw [vNs_len, List.take_length] at d5 b5
        have ef : rs.foldl (aheadS c m p) t0 = tabS c m far (p + 1) := by
          rw [tabS_succ, ht0, ← hrs]
          exact aheadF_keys (fun a => decide (a ∈ ks)) (List.range m) t0 fun a ha => rp.zero a (of_decide_eq_false ha)
        rw [ef] at d5 b5
        exact ⟨_, _, _, _, _, _, _, rfl, d5, b5.mono (by omega)⟩
    · rintro σ' H4 ⟨y4, y5, y6, y7, y8, y9, y10, rfl, d4, b4⟩
      rw [Int.toNat_natCast] at d4 b4
      exact s_ret (ev_var rfl) fun H5 e5 => k f fs H5 (d4.go e5) b4
end

section
variable {P : Program} {w : World} {K : PySem.W.Frag} {mg : Str → Option Value} {base : Heap}
theorem pow260 {c n : Nat} (hc : c ≤ 20) (hn : n ≤ 60) : c ^ n < 2 ^ 260 := by
  have h1 : c ^ n ≤ 20 ^ n := Nat.pow_le_pow_left hc n
  have h2 : 20 ^ n ≤ 20 ^ 60 := Nat.pow_le_pow_right (by decide) hn
  have h3 : (20 : Nat) ^ 60 < 2 ^ 260 := by decide
  omega
def sp_meetings : Sp := fun vs H Q _ => ∃ c m far : Nat, vs = [vN c, vN m, vN far] ∧ ShOk c m far ∧ RetL (vNs (meetL c m far)) H Q
theorem ok_meetings_of (T : Tx K mg) : FnOk P w K mg base CX0 3 T.f_meetings_of T.d_meetings_of ["cards", "many", "far"] sp_meetings := by
  refine T.F_meetings_of.ok sc_meetings_of (fun vs H Q E h => ?_) (fun cdv A outer s H vs Q E hr h => ?_)
  · obtain ⟨c, m, far, rfl, _⟩ := h
    rfl
  · obtain ⟨c, m, far, rfl, ok, k⟩ := h
    refine ⟨_, (pss_cons (ps_set (i := 3) sc_meetings_of.nd rfl (by first | exact Or.inl rfl | exact Or.inr rfl) (pe_call (ok_states T) hr (by rfl) T.m_states T.F_states.kp T.b_states .nil pass0 (pa_cons (pv 0) (pa_cons (pv 1) (pa_cons (pv 2) pa_nil)))))
      (pss_one (ps_ret (pe_lc (own := [("place", 4)]) (by rfl) sc_meetings_of.nd (pi_range1 (by rfl) T.z_range (pa_cons (pv 1) pa_nil)) (blkOk_by (own := [("place", 4)]) (N := ["cards", "many", "far", "found", "place"]) (sc := defScope s_meetings_of) (by decide +kernel)) (fun _ _ _ _ _ => (pg_name (i := 4) sc_meetings_of.nd rfl (by first | exact Or.inl rfl | exact Or.inr rfl))) (fun _ _ _ _ _ => pts_nil) (fun _ _ _ _ _ => (pe_op op_mulX (pe_dget2 (hu_of hr) (pe_ix (r := rIxL K) ix_list (pv 3) (pv 4) (fun _ _ => rfl)) pe_int pe_int ⟨by rfl, by rfl, by rfl, by rfl⟩) (pe_call (ok_power T) (hr.mono (by decide)) (by rfl) T.m_power T.F_power.kp T.b_power .nil pass0 (pa_cons (pv 0) (pa_cons (pe_op op_sub (pv 1) (pv 4)) pa_nil))))))))), ?_⟩
    have hm60 := ok.m60
    refine ⟨vN c, rfl, vN m, rfl, vN far, rfl, c, m, far, rfl, ok, fun f fs H1 d1 b1 => ?_⟩
    refine s_retL (xs := vNs (meetL c m far)) (el_to (el_mapR (n := m) (fun q => vN (tabS c m far m q 0 * c ^ (m - q))) (ea_cons (ev_var rfl) ea_nil) (by omega) ?_) ?_) fun p H2 np e2 hp => k p H2 (fresh_back d1.ex np) (d1.ex.trans e2) hp
    · intro q hq H2 e2
      have d2 := d1.go e2
      obtain ⟨a, ha, _⟩ := d2.at hq
      obtain ⟨kv, ks, hk, rp⟩ := d2.tab q a ha
      refine ev_to (ev_op (ev_to (ev_get2 (k := Sum.inl ((0 : Nat) : Int)) (ev_dict (K := K) d2 ha (ev_var rfl) (ev_var rfl)) hk ev_c ev_c) (rp.get 0)) (ev_call (ea_cons (ev_var rfl) (ea_cons (ev_to (ev_op (ev_var rfl) (ev_var rfl) rv_I0) (w := vN (m - q)) ?_) ea_nil)) (sv_power ok.c20 (by omega))) (rv_I (mulok_bits ?_))) ?_
      · show V.int _ = V.int _
        rw [show ((m : Int) - (q : Int)) = ((m - q : Nat) : Int) by omega]
      · have w1 : Builtin.Int.intBits ((tabS c m far m q 0 : Nat) : Int) ≤ 90 * (m * 1200) + 1 := bits_of_lt (by rw [Int.natAbs_natCast]; exact b1 q 0)
        have w2 : Builtin.Int.intBits ((c ^ (m - q) : Nat) : Int) ≤ 260 := bits_of_lt (by rw [Int.natAbs_natCast]; exact pow260 ok.c20 (by omega))
        omega
      · show V.int _ = V.int _
        rw [Int.natCast_mul]
    · unfold meetL vNs
      rw [List.map_map]
      rfl
theorem sl_meetings {H : Hp} {c m far : Nat} (ok : ShOk c m far) : SpL sp_meetings ([vN c, vN m, vN far] ++ []) H (vNs (meetL c m far)) := fun H1 e Q q E => ⟨c, m, far, rfl, ok, q⟩
theorem ok_meetings (T : Tx K mg) : FnOk P w K mg base CX0 4 T.f_meetings T.d_meetings ["cards", "many", "far"] sp_meetings := by
  refine T.F_meetings.ok sc_meetings (fun vs H Q E h => ?_) (fun cdv A outer s H vs Q E hr h => ?_)
  · obtain ⟨c, m, far, rfl, _⟩ := h
    rfl
  · obtain ⟨c, m, far, rfl, ok, k⟩ := h
    refine ⟨_, (pss_cons (ps_expr (pe_call (ok_check_all T) hr (by rfl) T.m_check_all T.F_check_all.kp T.b_check_all .nil pass0 (pa_cons (pv 0) (pa_cons (pv 1) (pa_cons (pv 2) pa_nil)))))
      (pss_one (ps_ret (pe_call (ok_meetings_of T) hr (by rfl) T.m_meetings_of T.F_meetings_of.kp T.b_meetings_of .nil pass0 (pa_cons (pv 0) (pa_cons (pv 1) (pa_cons (pv 2) pa_nil))))))), ?_⟩
    refine q_drop (ev_call (ea_cons (ev_var rfl) (ea_cons (ev_var rfl) (ea_cons (ev_var rfl) ea_nil))) (sv_check_all ok)) fun H1 e1 => ?_
    exact s_retL (el_call (ea_cons (ev_var rfl) (ea_cons (ev_var rfl) (ea_cons (ev_var rfl) ea_nil))) (sl_meetings ok)) fun p H2 np e2 hp => k p H2 (fresh_back e1 np) (e1.trans e2) hp
end

section
variable {P : Program} {w : World} {K : PySem.W.Frag} {mg : Str → Option Value} {base : Heap}
def sp_common : Sp := fun vs H Q _ => ∃ a b : Nat, vs = [vN a, vN b] ∧ RetV (vN (Nat.gcd a b)) H Q
theorem gcd_turn (x y : Nat) : Nat.gcd y (x % y) = Nat.gcd x y := by
  rw [Nat.gcd_comm x y, Nat.gcd_rec y x, Nat.gcd_comm]
theorem ok_common (T : Tx K mg) : FnOk P w K mg base CX0 1 T.f_common T.d_common ["one", "other"] sp_common := by
  refine T.F_common.ok sc_common (fun vs H Q E h => ?_) (fun cdv A outer s H vs Q E hr h => ?_)
  · obtain ⟨a, b, rfl, _⟩ := h
    rfl
  · obtain ⟨a, b, rfl, k⟩ := h
    refine ⟨_, (pss_cons (ps_while PassesOwn.never (pt_cmpR op_gt (pv 1) pe_int (nomark _))
      (pss_one (ps_par (i := 0) (j := 1) (by rfl) sc_common.nd rfl rfl (by decide) rfl rfl (pa_cons (pv 1) (pa_cons (pe_op op_mod (pv 0) (pv 1)) pa_nil)) (by rfl))))
      (pss_one (ps_ret (pv 0)))), ?_⟩
    refine q_while (fun n σ H' => ∃ x y : Nat, σ = [some (vN x), some (vN y)] ∧ Nat.gcd x y = Nat.gcd a b ∧ Ex H H' ∧ n = y) b ⟨a, b, rfl, rfl, Ex.refl H, rfl⟩ ?_
    rintro n σ' H' ⟨x, y, rfl, hg, ex, rfl⟩
    refine ⟨decide ((0 : Int) < (n : Int)), et_test (ev_op (ev_var rfl) ev_c rv_I0), fun hb H2 e2 => ?_, fun hb H2 e2 => ?_⟩
    · have hn : 0 < n := by
        have := of_decide_eq_true hb
        omega
      refine ⟨fun σ3 H3 => σ3 = [some (vN n), some (vN (x % n))] ∧ Ex H H3, fun σ3 H3 ⟨e3, x3⟩ => ⟨x % n, Nat.mod_lt _ hn, n, x % n, e3, by rw [gcd_turn]; exact hg, x3, rfl⟩, ?_⟩
      refine s_par (x := vN n) (y := vN (x % n)) (ea_cons (ev_var rfl) (ea_cons (ev_to (ev_op (ev_var rfl) (ev_var rfl) (rv_I (show (0 : Int) < (n : Int) by omega))) ?_) ea_nil)) fun H3 e3 => ⟨rfl, (ex.trans e2).trans e3⟩
      show V.int _ = V.int _
      rw [Int.natCast_emod]
    · have hn : n = 0 := by
        have := of_decide_eq_false hb
        omega
      subst hn
      rw [Nat.gcd_zero_right] at hg
      subst hg
      exact s_ret (ev_var rfl) fun H3 e3 => k H3 ((ex.trans e2).trans e3)
theorem sv_common {H : Hp} {a b : Nat} : SpV sp_common ([vN a, vN b] ++ []) H (vN (Nat.gcd a b)) := fun H1 e Q q E => ⟨a, b, rfl, q⟩
def shTop (c m far : Nat) : Nat := (meetL c m far).sum / Nat.gcd (meetL c m far).sum (c ^ m)
def shBot (c m far : Nat) : Nat := c ^ m / Nat.gcd (meetL c m far).sum (c ^ m)
def sp_share : Sp := fun vs H Q _ => ∃ c m far : Nat, vs = [vN c, vN m, vN far] ∧ ShOk c m far ∧ RetU [vN (shTop c m far), vN (shBot c m far)] H Q
theorem vN_div (a b : Nat) : V.int ((a : Int) / (b : Int)) = vN (a / b) := by
  show V.int _ = V.int _
  rw [Int.natCast_ediv]
theorem ok_share (T : Tx K mg) : FnOk P w K mg base CX0 4 T.f_share T.d_share ["cards", "many", "far"] sp_share := by
  refine T.F_share.ok sc_share (fun vs H Q E h => ?_) (fun cdv A outer s H vs Q E hr h => ?_)
  · obtain ⟨c, m, far, rfl, _⟩ := h
    rfl
  · obtain ⟨c, m, far, rfl, ok, k⟩ := h
    refine ⟨_, (pss_cons (ps_expr (pe_call (ok_check_all T) hr (by rfl) T.m_check_all T.F_check_all.kp T.b_check_all .nil pass0 (pa_cons (pv 0) (pa_cons (pv 1) (pa_cons (pv 2) pa_nil)))))
      (pss_cons (ps_par (i := 3) (j := 4) (by rfl) sc_share.nd rfl rfl (by decide) rfl rfl (pa_cons (pe_callB (r := rSum K) (cr_sum rfl) (by rfl) T.z_sum (by decide +kernel) (pa_cons (pe_call (ok_meetings_of T) hr (by rfl) T.m_meetings_of T.F_meetings_of.kp T.b_meetings_of .nil pass0 (pa_cons (pv 0) (pa_cons (pv 1) (pa_cons (pv 2) pa_nil)))) pa_nil)) (pa_cons (pe_call (ok_power T) (hr.mono (by decide)) (by rfl) T.m_power T.F_power.kp T.b_power .nil pass0 (pa_cons (pv 0) (pa_cons (pv 1) pa_nil))) pa_nil)) (by rfl))
      (pss_cons (ps_set (i := 5) sc_share.nd rfl (by first | exact Or.inl rfl | exact Or.inr rfl) (pe_call (ok_common T) (hr.mono (by decide)) (by rfl) T.m_common T.F_common.kp T.b_common .nil pass0 (pa_cons (pv 3) (pa_cons (pv 4) pa_nil))))
      (pss_one (ps_ret (pe_tup (pa_cons (pe_op op_fdivW (pv 3) (pv 5)) (pa_cons (pe_op op_fdivW (pv 4) (pv 5)) pa_nil)))))))), ?_⟩
    refine q_drop (ev_call (ea_cons (ev_var rfl) (ea_cons (ev_var rfl) (ea_cons (ev_var rfl) ea_nil))) (sv_check_all ok)) fun H1 e1 => ?_
    refine q_par (ea_cons (ev_sumN (K := K) (el_call (ea_cons (ev_var rfl) (ea_cons (ev_var rfl) (ea_cons (ev_var rfl) ea_nil))) (sl_meetings ok))) (ea_cons (ev_call (ea_cons (ev_var rfl) (ea_cons (ev_var rfl) ea_nil)) (sv_power ok.c20 ok.m60)) ea_nil)) fun H2 e2 => ?_
    refine q_asg (ev_call (ea_cons (ev_var rfl) (ea_cons (ev_var rfl) ea_nil)) sv_common) fun H3 e3 => ?_
    have hpos : 0 < c ^ m := Nat.pow_pos ok.c1
    have hg0 : 0 < Nat.gcd (meetL c m far).sum (c ^ m) := Nat.gcd_pos_of_pos_right _ hpos
    have hgl : Nat.gcd (meetL c m far).sum (c ^ m) < 2 ^ 260 := Nat.lt_of_le_of_lt (Nat.le_of_dvd hpos (Nat.gcd_dvd_right _ _)) (pow260 ok.c20 ok.m60)
    have hdv : ∀ i : Int, CDivW i ((Nat.gcd (meetL c m far).sum (c ^ m) : Nat) : Int) := fun i => wide_div (b := 260) (by omega) (by rw [Int.natAbs_natCast]; exact hgl) (by decide) (by decide)
    refine s_retU (xs := [vN (shTop c m far), vN (shBot c m far)]) (eu_tup (ea_cons (ev_to (ev_op (ev_var rfl) (ev_var rfl) (rv_I (hdv _))) (vN_div _ _)) (ea_cons (ev_to (ev_op (ev_var rfl) (ev_var rfl) (rv_I (hdv _))) (vN_div _ _)) ea_nil)) (show 2 ≤ 100000 by decide)) fun p H4 np e4 hp => k p H4 (fresh_back ((e1.trans e2).trans e3) np) (((e1.trans e2).trans e3).trans e4) hp
theorem su_share {H : Hp} {c m far : Nat} (ok : ShOk c m far) : SpU sp_share ([vN c, vN m, vN far] ++ []) H [vN (shTop c m far), vN (shBot c m far)] := fun H1 e Q q E => ⟨c, m, far, rfl, ok, q⟩
end

/-! ### the law's own draws -/
section
variable {P : Program} {w : World} {K : PySem.W.Frag} {mg : Str → Option Value} {base : Heap}
def sp_cell_at (K : PySem.W.Frag) : Sp := fun vs H Q _ => ∃ (a : Addr) (ns : List Int) (k : Nat), vs = [.ref a, vN k] ∧ SqL K H a (ns.map V.int) ∧ RetV (.int (cellAt ns k)) H Q
theorem ok__law_cell_at (T : Tx K mg) : FnOk P w K mg base CX0 1 T.f__law_cell_at T.d__law_cell_at ["_law_script", "_law_k"] (sp_cell_at K) := by
  refine T.F__law_cell_at.ok sc__law_cell_at (fun vs H Q E h => ?_) (fun cdv A outer s H vs Q E hr h => ?_)
  · obtain ⟨a, ns, k, rfl, _⟩ := h
    rfl
  · obtain ⟨a, ns, k, rfl, hS, q⟩ := h
    refine ⟨_, (pss_cons (ps_if (pt_cmpR op_lt (pv 1) (pe_callB (r := Evl.rLenS K) call_len_seq (by rfl) T.z_len (by decide +kernel) (pa_cons (pv 0) pa_nil)) (nomark _)) (pss_one (ps_ret (pe_ix (r := rIxL K) ix_list (pv 0) (pv 1) (fun _ _ => rfl)))) pss_nil)
      (pss_one (ps_ret pe_int))), ?_⟩
    refine q_when (b := decide ((k : Int) < (ns.length : Int))) (et_test (ev_to (ev_op (ev_var rfl) (ev_len (K := K) (ev_var rfl) hS) rv_I0) (by rw [List.length_map]))) (fun hb H1 e1 => ?_) fun hb H1 e1 => ?_
    · have hlt : k < ns.length := by
        have := of_decide_eq_true hb
        omega
      refine s_ret (ev_op (ev_var rfl) (ev_var rfl) (rv_ixL (K := K) (ex_l e1 hS) (v := .int (cellAt ns k)) (atI_nat ?_))) fun H2 e2 => q H2 (e1.trans e2)
      unfold cellAt
      rw [List.getElem?_map, List.getElem?_eq_getElem hlt, List.getD_eq_getElem?_getD, List.getElem?_eq_getElem hlt]
      rfl
    · have hge : ns.length ≤ k := by
        have := of_decide_eq_false hb
        omega
      refine s_ret (v := .int (cellAt ns k)) (ev_to ev_c ?_) fun H2 e2 => q H2 (e1.trans e2)
      unfold cellAt
      rw [List.getD_eq_getElem?_getD, List.getElem?_eq_none hge]
      rfl
theorem sv_cell_at {H : Hp} {a : Addr} {ns : List Int} {k : Nat} (hS : SqL K H a (ns.map V.int)) : SpV (sp_cell_at K) ([.ref a, vN k] ++ []) H (.int (cellAt ns k)) := fun H1 e Q q E => ⟨a, ns, k, rfl, ex_l e hS, q⟩
def sp_draw : Sp := fun vs H Q _ => ∃ (c : Int) (k : Nat) (m : Int), vs = [.int c, vN k, .int m] ∧ 0 < m ∧ RetV (.int (drawV c k m)) H Q
theorem primes_at (k : Nat) : atI (primesL.map V.int) ((k : Int) % 16) = some (.int (primesL.getD (k % 16) 1)) := by
  have e : (k : Int) % 16 = ((k % 16 : Nat) : Int) := by omega
  have h : k % 16 < 16 := Nat.mod_lt _ (by decide)
  rw [e]
  generalize k % 16 = j at *
  refine atI_nat ?_
  rw [List.getElem?_map, List.getD_eq_getElem?_getD, List.getElem?_eq_getElem (show j < primesL.length from h)]
  rfl
theorem primes_pos : ∀ j, j < 16 → 0 < primesL.getD j 1 := by decide
theorem sevens_at (k : Nat) : atI (sevens.map V.int) ((k : Int) % 5) = some (.int (sevens.getD (k % 5) 1)) := by
  have e : (k : Int) % 5 = ((k % 5 : Nat) : Int) := by omega
  have h : k % 5 < 5 := Nat.mod_lt _ (by decide)
  rw [e]
  generalize k % 5 = j at *
  refine atI_nat ?_
  rw [List.getElem?_map, List.getD_eq_getElem?_getD, List.getElem?_eq_getElem (show j < sevens.length from h)]
  rfl
theorem sevens_ok : ∀ j, j < 5 → 0 < sevens.getD j 1 ∧ (sevens.getD j 1).natAbs < 2 ^ 12 := by decide
theorem ok__law_draw (T : Tx K mg) : FnOk P w K mg base CX0 1 T.f__law_draw T.d__law_draw ["_law_cell", "_law_k", "_law_most"] sp_draw := by
  refine T.F__law_draw.ok sc__law_draw (fun vs H Q E h => ?_) (fun cdv A outer s H vs Q E hr h => ?_)
  · obtain ⟨c, k, m, rfl, _⟩ := h
    rfl
  · obtain ⟨c, k, m, rfl, hm, q⟩ := h
    refine ⟨_, (pss_cons (ps_set (i := 3) sc__law_draw.nd rfl (by first | exact Or.inl rfl | exact Or.inr rfl) (pe_tup (pa_cons pe_int (pa_cons pe_int (pa_cons pe_int (pa_cons pe_int (pa_cons pe_int (pa_cons pe_int (pa_cons pe_int (pa_cons pe_int (pa_cons pe_int (pa_cons pe_int (pa_cons pe_int (pa_cons pe_int (pa_cons pe_int (pa_cons pe_int (pa_cons pe_int (pa_cons pe_int pa_nil))))))))))))))))))
      (pss_one (ps_ret (pe_op op_mod (pe_op op_mod (pe_op op_add (pe_op op_mulX (pv 0) pe_int) (pe_op op_mulX (pv 1) pe_int)) (pe_ix (r := rIxT K) ix_tup (pv 3) (pe_op op_mod (pv 1) pe_int) (fun _ _ => rfl))) (pv 2))))), ?_⟩
    refine q_asgU (xs := primesL.map V.int) (eu_tup (ea_cons ev_c (ea_cons ev_c (ea_cons ev_c (ea_cons ev_c (ea_cons ev_c (ea_cons ev_c (ea_cons ev_c (ea_cons ev_c (ea_cons ev_c (ea_cons ev_c (ea_cons ev_c (ea_cons ev_c (ea_cons ev_c (ea_cons ev_c (ea_cons ev_c (ea_cons ev_c ea_nil)))))))))))))))) (show 16 ≤ 100000 by decide)) fun p H1 np e1 hp => ?_
    refine s_ret (v := .int (drawV c k m)) (ev_op (ev_op (ev_op (ev_op (ev_var rfl) ev_c (rv_I (mulok_right (by decide) (by decide)))) (ev_op (ev_var rfl) ev_c (rv_I (mulok_right (by decide) (by decide)))) rv_I0)
      (ev_op (ev_var rfl) (ev_op (ev_var rfl) ev_c (rv_I (by decide))) (rv_ixT (K := K) (st_of hp) (primes_at k))) (rv_I (primes_pos _ (Nat.mod_lt _ (by decide))))) (ev_var rfl) (rv_I hm)) fun H2 e2 => q H2 (e1.trans e2)
theorem sv_draw {H : Hp} {c : Int} {k : Nat} {m : Int} (hm : 0 < m) : SpV sp_draw ([.int c, vN k, .int m] ++ []) H (.int (drawV c k m)) := fun H1 e Q q E => ⟨c, k, m, rfl, hm, q⟩
def sp_number : Sp := fun vs H Q _ => ∃ (c : Int) (k : Nat) (m : Int), vs = [.int c, vN k, .int m] ∧ 0 < m ∧ k ≤ 1000 ∧ Builtin.Int.intBits c ≤ 1048577 ∧ RetV (.int (numV c k m)) H Q
theorem ok__law_number (T : Tx K mg) : FnOk P w K mg base CX0 2 T.f__law_number T.d__law_number ["_law_cell", "_law_k", "_law_limit"] sp_number := by
  refine T.F__law_number.ok sc__law_number (fun vs H Q E h => ?_) (fun cdv A outer s H vs Q E hr h => ?_)
  · obtain ⟨c, k, m, rfl, _⟩ := h
    rfl
  · obtain ⟨c, k, m, rfl, hm, hk, hc, q⟩ := h
    refine ⟨_, (pss_cons (ps_if (pt_cmpR op_ge (pv 0) (pe_op op_pow pe_int pe_int) (nomark _)) (pss_one (ps_ret (pe_op op_mod (pe_op op_fdivW (pe_op op_sub (pv 0) (pe_op op_pow pe_int pe_int)) (pe_ix (r := rIxT K) ix_tup (pe_tup (pa_cons pe_int (pa_cons pe_int (pa_cons pe_int (pa_cons pe_int (pa_cons pe_int pa_nil)))))) (pe_op op_mod (pv 1) pe_int) (fun _ _ => rfl))) (pv 2)))) pss_nil)
      (pss_one (ps_ret (pe_op op_mod (pe_call (ok__law_draw T) hr (by rfl) T.m__law_draw T.F__law_draw.kp T.b__law_draw .nil pass0 (pa_cons (pe_op op_mulX (pe_op op_add (pv 0) (pe_op op_mulX pe_int (pv 1))) (pe_op op_add (pe_op op_add (pv 0) (pe_op op_mulX pe_int (pv 1))) pe_int)) (pa_cons (pe_op op_add (pe_op op_mod (pv 1) pe_int) pe_int) (pa_cons pe_int pa_nil)))) (pv 2))))), ?_⟩
    have ten : ∀ {σ : L2.St} {H : Hp}, Ev (tOp (rI CPow fun i j => .int (i ^ j.toNat)) (tC (.int 10)) (tC (.int 18))) σ H (.int (10 ^ 18)) := fun {σ H} => ev_op ev_c ev_c (rv_I (C := CPow) (g := fun i j => .int (i ^ j.toNat)) (i := 10) (j := 18) ⟨by decide, by decide, by decide⟩)
    refine q_when (b := decide ((10 : Int) ^ 18 ≤ c)) (et_test (ev_op (ev_var rfl) ten rv_I0)) (fun hb H1 e1 => ?_) fun hb H1 e1 => ?_
    · have hle := of_decide_eq_true hb
      have h7 := sevens_ok (k % 5) (Nat.mod_lt _ (by decide))
      refine s_ret (v := .int (numV c k m)) (ev_to (ev_op (ev_op (ev_op (ev_var rfl) ten rv_I0) (ev_ixU (K := K) (xs := sevens.map V.int) (eu_tup (ea_cons ev_c (ea_cons ev_c (ea_cons ev_c (ea_cons ev_c (ea_cons ev_c ea_nil))))) (show 5 ≤ 100000 by decide)) (ev_op (ev_var rfl) ev_c (rv_I (by decide))) (sevens_at k)) (rv_I (wide_div h7.1 h7.2 (by decide) (by decide)))) (ev_var rfl) (rv_I hm)) ?_) fun H2 e2 => q H2 (e1.trans e2)
      unfold numV
      rw [if_pos hle]
    · have hgt := of_decide_eq_false hb
      have b1 : Builtin.Int.intBits (c + 977 * (k : Int)) ≤ 1048578 := bits_add (n := 1048577) hc (Nat.le_trans (small_bits (by omega) (by omega)) (by decide))
      have b2 : Builtin.Int.intBits (c + 31 * (k : Int) + 5) ≤ 1048579 := bits_add (n := 1048578) (bits_add (n := 1048577) hc (Nat.le_trans (small_bits (by omega) (by omega)) (by decide))) (Nat.le_trans (small_bits (i := 5) (by decide) (by decide)) (by decide))
      have ek : ((k : Int) % 9 + 1) = ((k % 9 + 1 : Nat) : Int) := by omega
      refine s_ret (v := .int (numV c k m)) (ev_to (ev_op (ev_call (ea_cons (ev_op (ev_op (ev_var rfl) (ev_op ev_c (ev_var rfl) (rv_I (mulok_left (by decide) (by decide)))) rv_I0) (ev_op (ev_op (ev_var rfl) (ev_op ev_c (ev_var rfl) (rv_I (mulok_left (by decide) (by decide)))) rv_I0) ev_c rv_I0) (rv_I (mulok_bits (by omega))))
        (ea_cons (ev_to (ev_op (ev_op (ev_var rfl) ev_c (rv_I (by decide))) ev_c rv_I0) (congrArg V.int ek)) (ea_cons ev_c ea_nil))) (sv_draw (k := k % 9 + 1) (m := 999983) (by decide))) (ev_var rfl) (rv_I hm)) ?_) fun H2 e2 => q H2 (e1.trans e2)
      unfold numV
      rw [if_neg hgt]
theorem sv_number {H : Hp} {c : Int} {k m : Nat} (hm : 0 < m) (hk : k ≤ 1000) (hc : Builtin.Int.intBits c ≤ 1048577) : SpV sp_number ([.int c, vN k, vN m] ++ []) H (vN (numN c k m)) := fun H1 e Q q E =>
  ⟨c, k, (m : Int), rfl, by omega, hk, hc, by
    have e1 : vN (numN c k m) = .int (numV c k (m : Int)) := congrArg V.int (numN_is hm)
    rw [← e1]
    exact q⟩
end

section
variable {P : Program} {w : World} {K : PySem.W.Frag} {mg : Str → Option Value} {base : Heap}
theorem ok__law_whole (T : Tx K mg) : FnOk P w K mg base CX0 1 T.f__law_whole T.d__law_whole ["_law_found"] sp_is_whole := by
  refine T.F__law_whole.ok sc__law_whole (fun vs H Q E h => ?_) (fun cdv A outer s H vs Q E hr h => ?_)
  · obtain ⟨i, rfl, _⟩ := h
    rfl
  · obtain ⟨i, rfl, k⟩ := h
    refine ⟨_, (pss_one (ps_ret (pe_and (pe_callB (r := rIsi K) call_isi (by rfl) T.z_isinstance (by decide +kernel) (pa_cons (pv 0) (pa_cons (pe_bltn (v := .ty "int") (by rfl) T.z_int (by decide +kernel) rfl) pa_nil))) (pe_one (pe_not (pe_callB (r := rIsi K) call_isi (by rfl) T.z_isinstance (by decide +kernel) (pa_cons (pv 0) (pa_cons (pe_bltn (v := .ty "bool") (by rfl) T.z_bool (by decide +kernel) rfl) pa_nil)))))))), ?_⟩
    refine s_ret (ev_andV (ev_isiB (K := K) (b := true) (ev_var rfl) (fun _ _ => tyx_int i) (by decide +kernel)) fun _ => ev_notV (ev_isiB (K := K) (b := false) (ev_var rfl) (fun _ _ => tyx_int i) (by decide +kernel))) ?_
    exact fun H1 e => k H1 e
end

/-! ### the law's table from the end -/
section
variable {P : Program} {w : World} {K : PySem.W.Frag} {mg : Str → Option Value} {base : Heap}
def powL (c n : Nat) : List Nat := (List.range n).map (c ^ ·)
theorem powL_succ (c n : Nat) : powL c (n + 1) = powL c n ++ [c ^ n] := by
  unfold powL
  rw [List.range_succ, List.map_append]
  rfl
theorem powL_at {c n k : Nat} (h : k < n) : (powL c n)[k]? = some (c ^ k) := by
  unfold powL
  rw [List.getElem?_map, List.getElem?_range h]
  rfl
def anyG (o : Option Nat) : Nat := if o.isSome then 1 else 0
def TT (kvs : List (List Key × V)) (R : Nat → Nat → Bool) (W : Tab) : Prop := ∀ q l : Nat, valV kvs [Sum.inl (q : Int), Sum.inl (l : Int)] = if R q l = true then some (vN (W q l)) else none
theorem TT.same {kvs : List (List Key × V)} {R R2 : Nat → Nat → Bool} {W : Tab} (h : TT kvs R W) (e : ∀ q l, R q l = R2 q l) : TT kvs R2 W := fun q l => by
  rw [← e q l]
  exact h q l
theorem TT.put {kvs : List (List Key × V)} {R : Nat → Nat → Bool} {W : Tab} (h : TT kvs R W) (p a : Nat) : TT (putK kvs [Sum.inl (p : Int), Sum.inl (a : Int)] (vN (W p a))) (fun q l => R q l || (decide (q = p) && decide (l = a))) W := fun q l => by
  rw [valV_put]
  by_cases e : q = p ∧ l = a
  · obtain ⟨rfl, rfl⟩ := e
    show _ = if (R q l || (decide (q = q) && decide (l = l))) = true then _ else _
    rw [if_pos rfl, decide_eq_true rfl, decide_eq_true rfl, Bool.and_self, Bool.or_true, if_pos rfl]
  · have e2 : ¬ ([Sum.inl (q : Int), Sum.inl (l : Int)] : List Key) = [Sum.inl (p : Int), Sum.inl (a : Int)] := fun z => by
      injection z with z1 z2
      injection z2 with z2
      injection z1 with z1
      injection z2 with z2
      exact e ⟨by omega, by omega⟩
    have e3 : (decide (q = p) && decide (l = a)) = false := by
      rw [Bool.and_eq_false_iff, decide_eq_false_iff_not, decide_eq_false_iff_not]
      by_cases h1 : q = p
      · exact .inr fun h2 => e ⟨h1, h2⟩
      · exact .inl h1
    show (if [Sum.inl (q : Int), Sum.inl (l : Int)] = [Sum.inl (p : Int), Sum.inl (a : Int)] then _ else _) = if (R q l || (decide (q = p) && decide (l = a))) = true then _ else _
    rw [if_neg e2, e3, Bool.or_false]
    exact h q l
def regO (m i q l : Nat) : Bool := decide (q + l < m ∧ m ≤ q + i)
def regI (m i a q l : Nat) : Bool := decide (q + l < m ∧ (m ≤ q + i ∨ (q + i + 1 = m ∧ l < a)))
theorem reg_0 {m i p : Nat} (hp : p + i + 1 = m) (q l : Nat) : (regO m i q l || (decide (q = p) && decide (l = 0))) = regI m i 1 q l := by
  unfold regO regI
  rw [← Bool.decide_and, ← Bool.decide_or]
  exact decide_eq_decide.mpr (by omega)
theorem reg_1 {m i p a : Nat} (hp : p + i + 1 = m) (ha : p + a < m) (q l : Nat) : (regI m i a q l || (decide (q = p) && decide (l = a))) = regI m i (a + 1) q l := by
  unfold regI
  rw [← Bool.decide_and, ← Bool.decide_or]
  exact decide_eq_decide.mpr (by omega)
theorem reg_2 {m i : Nat} (q l : Nat) : regI m i (i + 1) q l = regO m (i + 1) q l := by
  unfold regI regO
  exact decide_eq_decide.mpr (by omega)
theorem rowW_le {c m p a : Nat} : rowW c m anyG p a ≤ c ^ (m - p) := by
  have h : c ^ (m - p) = allN c (m - p) (fun _ => 1) := by rw [allN_const, Nat.mul_one]
  rw [h]
  unfold rowW
  exact allN_le fun r _ => by
    unfold anyG
    split <;> omega
theorem rowW_sum {c m far : Nat} (hf : far < m) : rowW c m anyG 0 far = (meetL c m far).sum := by
  rw [rowW_first, meetL_sum hf]
  rfl
def sp_step : Sp := fun vs H Q _ => ∃ c m far : Nat, vs = [vN c, vN m, vN far] ∧ ShOk c m far ∧ RetU [vN (meetL c m far).sum, vN (c ^ m)] H Q
theorem ok__law_step (T : Tx K mg) : FnOk P w K mg base CX0 1 T.f__law_step T.d__law_step ["_law_cards", "_law_many", "_law_far"] sp_step := by
  refine T.F__law_step.ok sc__law_step (fun vs H Q E h => ?_) (fun cdv A outer s H vs Q E hr h => ?_)
  · obtain ⟨c, m, far, rfl, _⟩ := h
    rfl
  · obtain ⟨c, m, far, rfl, ok, k⟩ := h
    refine ⟨_, (pss_cons (ps_set (i := 3) sc__law_step.nd rfl (by first | exact Or.inl rfl | exact Or.inr rfl) pe_dnewT)
      (pss_cons (ps_set (i := 4) sc__law_step.nd rfl (by first | exact Or.inl rfl | exact Or.inr rfl) (pe_lst (pa_cons pe_int pa_nil)))
      (pss_cons (ps_for PassesOwn.never rfl (pi_range1 (by rfl) T.z_range (pa_cons (pe_op op_add (pv 1) pe_int) pa_nil)) (pg_name (i := 5) sc__law_step.nd rfl (by first | exact Or.inl rfl | exact Or.inr rfl))
      (pss_one (ps_expr (pe_bm PySem.F.plainAttrs_list PySem.F.slot_list_append PySem.F.type_list_append mt_append (pv 4) (pa_cons (pe_op op_mulX (pe_ix (r := rIxL K) ix_list (pv 4) (pe_un un_neg pe_int) (fun _ _ => rfl)) (pv 0)) pa_nil)))))
      (pss_cons (ps_for PassesOwn.never rfl (pi_list (show PE _ _ (tRevL K _) from pe_revL (pe_listRg rfl (by rfl) T.z_list (prg_1 (by rfl) T.z_range (pv 1))))) (pg_name (i := 6) sc__law_step.nd rfl (by first | exact Or.inl rfl | exact Or.inr rfl))
      (pss_cons (ps_dput (hu_of hr) (pv 3) (pe_tup (pa_cons (pv 6) (pa_cons pe_int pa_nil))) (pe_ix (r := rIxL K) ix_list (pv 4) (pe_op op_sub (pv 1) (pv 6)) (fun _ _ => rfl)) rfl)
      (pss_one (ps_for PassesOwn.never rfl (pi_range2 (by rfl) T.z_range (pa_cons pe_int (pa_cons (pe_op op_sub (pv 1) (pv 6)) pa_nil))) (pg_name (i := 7) sc__law_step.nd rfl (by first | exact Or.inl rfl | exact Or.inr rfl))
      (pss_cons (ps_set (i := 8) sc__law_step.nd rfl (by first | exact Or.inl rfl | exact Or.inr rfl) pe_int)
      (pss_cons (ps_for PassesOwn.never rfl (pi_range2 (by rfl) T.z_range (pa_cons pe_int (pa_cons (pe_op op_add (pv 0) pe_int) pa_nil))) (pg_name (i := 9) sc__law_step.nd rfl (by first | exact Or.inl rfl | exact Or.inr rfl))
      (pss_cons (ps_set (i := 10) sc__law_step.nd rfl (by first | exact Or.inl rfl | exact Or.inr rfl) (pe_tup (pa_cons (pe_op op_add (pv 6) (pe_callB (call_min2 rfl) (by rfl) T.z_min (by decide +kernel) (pa_cons (pv 9) (pa_cons (pv 7) pa_nil)))) (pa_cons (pe_callB call_abs (by rfl) T.z_abs (by decide +kernel) (pa_cons (pe_op op_sub (pv 7) (pv 9)) pa_nil)) pa_nil))))
      (pss_one (ps_set (i := 8) sc__law_step.nd rfl (by first | exact Or.inl rfl | exact Or.inr rfl) (pe_op op_add (pv 8) (pe_op op_mulX (pe_dget2 (hu_of hr) (pv 3) (pv 10) pe_int ⟨by rfl, by rfl, by rfl, by rfl⟩) (pe_ix (r := rIxL K) ix_list (pv 4) (pe_op op_sub (pe_callB (call_min2 rfl) (by rfl) T.z_min (by decide +kernel) (pa_cons (pv 9) (pa_cons (pv 7) pa_nil))) pe_int) (fun _ _ => rfl))))))))
      (pss_one (ps_dput (hu_of hr) (pv 3) (pe_tup (pa_cons (pv 6) (pa_cons (pv 7) pa_nil))) (pv 8) rfl))))))))
      (pss_one (ps_ret (pe_tup (pa_cons (pe_dget (hu_of hr) (pv 3) (pe_tup (pa_cons pe_int (pa_cons (pv 2) pa_nil))) (fun _ _ => rfl)) (pa_cons (pe_ix (r := rIxL K) ix_list (pv 4) (pv 1) (fun _ _ => rfl)) pa_nil))))))))), ?_⟩
    have hc1 := ok.c1
    have hc20 := ok.c20
    have hm1 := ok.m1
    have hm60 := ok.m60
    have hfl := ok.fl
    refine q_dnewT fun d H1 nd e1 hd => ?_
    refine q_asgL (xs := vNs (powL c 1)) (el_lst (ea_cons ev_c ea_nil) (show 1 ≤ 100000 by decide)) fun pw H2 npw e2 hpw => ?_
    have hpd : pw ≠ d := fun z => by
      rw [z, hd] at npw
      cases npw
    have npw0 : H pw = none := fresh_back e1 npw
    refine q_forR1 (n := ((m + 1 : Nat) : Int)) (ea_cons (ev_to (ev_op (ev_var rfl) ev_c rv_I0) ?_) ea_nil) ⟨by omega, by omega⟩
      (fun i σ' H' => ∃ y5, σ' = [some (vN c), some (vN m), some (vN far), some (.ref d), some (.ref pw), y5, none, none, none, none, none] ∧ Ex H H' ∧ H' d = some (.dT []) ∧ H' pw = some (.lst (vNs (powL c (i + 1)))))
      (fun H3 e3 => ⟨none, rfl, (e1.trans e2).trans e3, e3 d _ (e2 d _ hd), e3 pw _ hpw⟩) ?_ ?_
    · show V.int _ = V.int _
      rw [Int.natCast_add]
      rfl
    · rintro i σ' H3 hi ⟨y5, rfl, e3, hd3, hp3⟩
      refine s_app (v := vN (c ^ (i + 1))) hp3 (ev_var rfl) (ev_to (ev_op (ev_op (ev_var rfl) (ev_un ev_c ru_neg) (rv_ixL (K := K) (v := vN (c ^ i)) (sq_of hp3) (by rw [powL_succ, vNs_app]; exact atI_last _ _))) (ev_var rfl) (rv_I (mulok_right (by omega) (by omega)))) ?_) ?_ fun H4 e4 => ⟨_, rfl, Ex.mut (e3.trans e4) npw0, ?_, ?_⟩
      · show V.int _ = V.int _
        rw [Nat.pow_succ, Int.natCast_mul]
      · rw [vNs_len]
        unfold powL
        rw [List.length_map, List.length_range]
        omega
      · rw [upd_ne (fun z => hpd z.symm)]
        exact e4 d _ hd3
      · rw [upd_same, powL_succ c (i + 1), vNs_app]
        rfl
    rintro σ' H3 ⟨y5, rfl, e3, hd3, hp3⟩
    rw [Int.toNat_natCast] at hp3
    generalize hpl : powL c (m + 1 + 1) = pl at hp3
    have hpat : ∀ j, j ≤ m → atI (vNs pl) ((j : Nat) : Int) = some (vN (c ^ j)) := fun j hj => vNs_at (by rw [← hpl]; exact powL_at (by omega))
    generalize hW : rowW c m anyG = W
    have hWb : Back c m W := by
      rw [← hW]
      exact rowW_back rfl
    have hWe : ∀ q, q < m → W q 0 = c ^ (m - q) := fun q hq => by
      rw [← hW, rowW_end hq]
      exact Nat.mul_one _
    have hWl : ∀ q l, W q l < 2 ^ 260 := fun q l => by
      rw [← hW]
      exact Nat.lt_of_le_of_lt rowW_le (pow260 hc20 (by omega))
    have hWf : W 0 far = (meetL c m far).sum := by
      rw [← hW, rowW_sum hfl]
    clear hW
    refine q_forNLn (K := K) (xs := (vNs (List.range m)).reverse) (el_rev (el_listRg (ev_var rfl) (by omega)))
      (fun p i σ' H' => ∃ y6 y7 y8 y9 y10 kvs, σ' = [some (vN c), some (vN m), some (vN far), some (.ref d), some (.ref pw), y5, y6, y7, y8, y9, y10] ∧ Ex H H' ∧ H' pw = some (.lst (vNs pl)) ∧ H' d = some (.dT kvs) ∧ H' p = some (.lst (vNs (List.range m)).reverse) ∧ p ≠ d ∧ TT kvs (regO m i) W ∧ kvs.length ≤ 100 * i)
      (fun p H4 np e4 hp => ⟨none, none, none, none, none, [], rfl, e3.trans e4, e4 pw _ hp3, e4 d _ hd3, hp, (fun z => by rw [z, hd3] at np; cases np), (fun q l => by rw [valV_nil, show regO m 0 q l = false from decide_eq_false (by omega)]; rfl), Nat.zero_le _⟩)
      (fun p i σ' H' _ ⟨_, _, _, _, _, _, _, _, _, _, h, _⟩ => sq_of h) ?_ ?_
    · rintro p i x σ' H4 hx ⟨y6, y7, y8, y9, y10, kvs, rfl, e4, hp4, hd4, hl4, npd, tt, kl⟩
      have hi : i < m := by
        have := (List.getElem?_eq_some_iff.mp hx).1
        rw [List.length_reverse, vNs_len, List.length_range] at this
        exact this
      obtain ⟨pl0, hpi⟩ : ∃ q, q + i + 1 = m := ⟨m - 1 - i, by omega⟩
      have hxv : x = vN pl0 := by
        rw [List.getElem?_reverse (by rw [vNs_len, List.length_range]; exact hi), vNs_len, List.length_range, show m - 1 - i = pl0 by omega] at hx
        have : (vNs (List.range m))[pl0]? = some (vN pl0) := by
          unfold vNs
          rw [List.getElem?_map, List.getElem?_range (by omega)]
          rfl
        exact Option.some.inj (hx.symm.trans this)
      subst hxv
      refine q_dputT (k := [Sum.inl ((pl0 : Nat) : Int), Sum.inl ((0 : Nat) : Int)]) (v := vN (W pl0 0)) hd4 (ev_to (ev_op (ev_var rfl) (ev_to (ev_op (ev_var rfl) (ev_var rfl) rv_I0) (w := vN (m - pl0)) ?_) (rv_ixL (K := K) (sq_of hp4) (hpat (m - pl0) (by omega)))) ?_) (ev_var rfl) (eu_tup (ea_cons (ev_var rfl) (ea_cons ev_c ea_nil)) (show 2 ≤ 100000 by decide)) (by omega) fun H5 e5 => ?_
      · show V.int _ = V.int _
        rw [show ((m : Int) - (pl0 : Int)) = ((m - pl0 : Nat) : Int) by omega]
      · rw [hWe pl0 (by omega)]
      have tt5 := (tt.put pl0 0).same (reg_0 hpi)
      have kl5 := length_putK kvs [Sum.inl ((pl0 : Nat) : Int), Sum.inl ((0 : Nat) : Int)] (vN (W pl0 0))
      generalize putK kvs [Sum.inl ((pl0 : Nat) : Int), Sum.inl ((0 : Nat) : Int)] (vN (W pl0 0)) = kvs5 at tt5 kl5
      refine s_forR2 (lo := 1) (n := ((i + 1 : Nat) : Int)) (ea_cons ev_c (ea_cons (ev_to (ev_op (ev_var rfl) (ev_var rfl) rv_I0) ?_) ea_nil)) ⟨by decide, by decide, by omega, by omega⟩
        (fun i2 σ' H' => ∃ y7 y8 y9 y10 kvs, σ' = [some (vN c), some (vN m), some (vN far), some (.ref d), some (.ref pw), y5, some (vN pl0), y7, y8, y9, y10] ∧ Ex H H' ∧ H' pw = some (.lst (vNs pl)) ∧ H' d = some (.dT kvs) ∧ H' p = some (.lst (vNs (List.range m)).reverse) ∧ TT kvs (regI m i (i2 + 1)) W ∧ kvs.length ≤ 100 * i + 1 + i2)
        (fun H6 e6 => ⟨y7, y8, y9, y10, kvs5, rfl, (Ex.mut (e4.trans e5) nd).trans e6, e6 pw _ (by rw [upd_ne hpd]; exact e5 pw _ hp4), e6 d _ upd_same, e6 p _ (by rw [upd_ne npd]; exact e5 p _ hl4), tt5, by omega⟩) ?_ ?_
      · show V.int _ = V.int _
        rw [show ((m : Int) - (pl0 : Int)) = ((i + 1 : Nat) : Int) by omega]
      · rintro i2 σ' H6 hi2 ⟨y7, y8, y9, y10, kvs6, rfl, e6, hp6, hd6, hl6, tt6, kl6⟩
        rw [show (1 + (i2 : Int)) = ((i2 + 1 : Nat) : Int) by omega]
        have ha : pl0 + (i2 + 1) < m := by omega
        generalize hae : i2 + 1 = a at *
        have h0a : 0 < a := by omega
        refine q_asg (v := vN 0) ev_c fun H7 e7 => ?_
        refine q_forR2 (lo := 1) (n := ((c + 1 : Nat) : Int)) (ea_cons ev_c (ea_cons (ev_to (ev_op (ev_var rfl) ev_c rv_I0) ?_) ea_nil)) ⟨by decide, by decide, by omega, by omega⟩
          (fun i3 σ' H' => ∃ y9 y10, σ' = [some (vN c), some (vN m), some (vN far), some (.ref d), some (.ref pw), y5, some (vN pl0), some (vN a), some (vN (sumN i3 fun j => goW c m pl0 a W (j + 1))), y9, y10] ∧ Ex H7 H')
          (fun H8 e8 => ⟨_, _, rfl, e8⟩) ?_ ?_
        · show V.int _ = V.int _
          rw [Int.natCast_add]
          rfl
        · rintro i3 σ' H8 hi3 ⟨y9, y10, rfl, e8⟩
          rw [show (1 + (i3 : Int)) = ((i3 + 1 : Nat) : Int) by omega]
          generalize hke : i3 + 1 = kc
          have hkc : 1 ≤ kc := by omega
          refine q_asgU (xs := [vN (pl0 + min kc a), vN (gap a kc)]) (eu_tup (ea_cons (ev_to (ev_op (ev_var rfl) (ev_to (ev_min2 (ev_var rfl) (ev_var rfl)) (min_int a kc)) rv_I0) ?_) (ea_cons (ev_to (ev_abs (ev_op (ev_var rfl) (ev_var rfl) rv_I0)) (gap_int a kc)) ea_nil)) (show 2 ≤ 100000 by decide)) fun t H9 nt e9 ht => ?_
          · show V.int _ = V.int _
            rw [Int.natCast_add]
          have e79 := (e7.trans e8).trans e9
          have hget : (valV kvs6 [Sum.inl ((pl0 + min kc a : Nat) : Int), Sum.inl ((gap a kc : Nat) : Int)]).getD (.int 0) = vN (if pl0 + min kc a + gap a kc < m then W (pl0 + min kc a) (gap a kc) else 0) := by
            rw [tt6]
            by_cases hz : pl0 + min kc a + gap a kc < m
            · rw [if_pos (show regI m i a (pl0 + min kc a) (gap a kc) = true from decide_eq_true ⟨hz, .inl (by omega)⟩), if_pos hz]
              rfl
            · rw [if_neg (show ¬ regI m i a (pl0 + min kc a) (gap a kc) = true from fun z => hz (of_decide_eq_true z).1), if_neg hz]
              rfl
          refine s_asg (v := vN (sumN kc fun j => goW c m pl0 a W (j + 1))) (ev_to (ev_op (ev_var rfl) (ev_op (ev_to (ev_get2T (k := [Sum.inl ((pl0 + min kc a : Nat) : Int), Sum.inl ((gap a kc : Nat) : Int)]) (ev_var rfl) (e79 d _ hd6) (ev_var rfl) ht ev_c) hget) (ev_op (ev_var rfl) (ev_to (ev_op (ev_to (ev_min2 (ev_var rfl) (ev_var rfl)) (min_int a kc)) ev_c rv_I0) (w := vN (min kc a - 1)) ?_) (rv_ixL (K := K) (sq_of (e79 pw _ hp6)) (hpat (min kc a - 1) (by omega)))) (rv_I (mulok_bits ?_))) rv_I0) ?_) fun H10 e10 => ⟨_, _, rfl, (e8.trans e9).trans e10⟩
          · show V.int _ = V.int _
            rw [show ((min kc a : Nat) : Int) - 1 = ((min kc a - 1 : Nat) : Int) by omega]
          · have w1 : Builtin.Int.intBits (((if pl0 + min kc a + gap a kc < m then W (pl0 + min kc a) (gap a kc) else 0 : Nat)) : Int) ≤ 260 := bits_of_lt (by
              rw [Int.natAbs_natCast]
              split
              · exact hWl _ _
              · exact Nat.two_pow_pos _)
            have w2 : Builtin.Int.intBits ((c ^ (min kc a - 1) : Nat) : Int) ≤ 260 := bits_of_lt (by rw [Int.natAbs_natCast]; exact pow260 hc20 (by omega))
            omega
          · have hgo : goW c m pl0 a W kc = (if pl0 + min kc a + gap a kc < m then W (pl0 + min kc a) (gap a kc) else 0) * c ^ (min kc a - 1) := by
              unfold goW
              by_cases hz : pl0 + min kc a + gap a kc < m
              · rw [if_pos ⟨h0a, hz⟩, if_pos hz, Nat.mul_comm]
              · rw [if_neg fun z => hz z.2, if_neg hz, Nat.zero_mul]
            subst hke
            show V.int (((sumN i3 fun j => goW c m pl0 a W (j + 1)) : Nat) + _) = V.int (((sumN i3 fun j => goW c m pl0 a W (j + 1)) + goW c m pl0 a W (i3 + 1) : Nat) : Int)
            rw [hgo, Int.natCast_add, Int.natCast_mul]
        · rintro σ' H8 ⟨y9, y10, rfl, e8⟩
          rw [show (((c + 1 : Nat) : Int) - 1).toNat = c by omega, ← hWb pl0 a (by omega) h0a (by omega)]
          have e78 := e7.trans e8
          refine s_dputT (k := [Sum.inl ((pl0 : Nat) : Int), Sum.inl ((a : Nat) : Int)]) (v := vN (W pl0 a)) (e78 d _ hd6) (ev_var rfl) (ev_var rfl) (eu_tup (ea_cons (ev_var rfl) (ea_cons (ev_var rfl) ea_nil)) (show 2 ≤ 100000 by decide)) (by omega) fun H9 e9 => ⟨_, _, _, _, _, rfl, Ex.mut ((e6.trans e78).trans e9) nd, ?_, upd_same, ?_, (tt6.put pl0 a).same (reg_1 hpi ha), ?_⟩
          · rw [upd_ne hpd]
            exact e9 pw _ (e78 pw _ hp6)
          · rw [upd_ne npd]
            exact e9 p _ (e78 p _ hl6)
          · have := length_putK kvs6 [Sum.inl ((pl0 : Nat) : Int), Sum.inl ((a : Nat) : Int)] (vN (W pl0 a))
            omega
      · rintro σ' H6 ⟨y7, y8, y9, y10, kvs6, rfl, e6, hp6, hd6, hl6, tt6, kl6⟩
        rw [show (((i + 1 : Nat) : Int) - 1).toNat = i by omega] at tt6 kl6
        exact ⟨_, _, _, _, _, kvs6, rfl, e6, hp6, hd6, hl6, npd, tt6.same reg_2, by omega⟩
    · rintro p σ' H4 ⟨y6, y7, y8, y9, y10, kvs, rfl, e4, hp4, hd4, hl4, npd, tt, kl⟩
      rw [List.length_reverse, vNs_len, List.length_range] at tt
      have hget : valV kvs [Sum.inl ((0 : Nat) : Int), Sum.inl ((far : Nat) : Int)] = some (vN (meetL c m far).sum) := by
        rw [tt 0 far, if_pos (show regO m m 0 far = true from decide_eq_true (by omega)), hWf]
      refine s_retU (eu_tup (ea_cons (ev_dgetT (k := [Sum.inl ((0 : Nat) : Int), Sum.inl ((far : Nat) : Int)]) (ev_var rfl) hd4 (eu_tup (ea_cons ev_c (ea_cons (ev_var rfl) ea_nil)) (show 2 ≤ 100000 by decide)) hget) (ea_cons (ev_op (ev_var rfl) (ev_var rfl) (rv_ixL (K := K) (sq_of hp4) (hpat m (Nat.le_refl _)))) ea_nil)) (show 2 ≤ 100000 by decide)) fun q H5 nq e5 hq => k q H5 (fresh_back e4 nq) (e4.trans e5) hq
theorem su_step {H : Hp} {c m far : Nat} (ok : ShOk c m far) : SpU sp_step ([vN c, vN m, vN far] ++ []) H [vN (meetL c m far).sum, vN (c ^ m)] := fun H1 e Q q E => ⟨c, m, far, rfl, ok, q⟩
end

section
variable {P : Program} {w : World} {K : PySem.W.Frag} {mg : Str → Option Value} {base : Heap}
def outD : List (Nat × Nat × Nat × List Nat) := [(6, 4, 1, [0, 216, 36, 48]), (20, 4, 1, [0, 8000, 400, 440]), (6, 4, 2, [0, 0, 252, 42]), (1, 2, 0, [1, 0])]
def rowPd (r : Nat × Nat × Nat × List Nat) : PyData := .tuple [.int (r.1 : Int), .int (r.2.1 : Int), .int (r.2.2.1 : Int), pdN r.2.2.2]
theorem m_641 : meetL 6 4 1 = [0, 216, 36, 48] := by
  rw [meetL_ev (by decide)]
  decide +kernel
theorem m_2041 : meetL 20 4 1 = [0, 8000, 400, 440] := by
  rw [meetL_ev (by decide)]
  decide +kernel
theorem m_642 : meetL 6 4 2 = [0, 0, 252, 42] := by
  rw [meetL_ev (by decide)]
  decide +kernel
theorem m_120 : meetL 1 2 0 = [1, 0] := by
  rw [meetL_ev (by decide)]
  decide +kernel
theorem m_231 : meetL 2 3 1 = [0, 4, 2] := by
  rw [meetL_ev (by decide)]
  decide +kernel
theorem out_ok : ∀ r ∈ outD, ShOk r.1 r.2.1 r.2.2.1 ∧ meetL r.1 r.2.1 r.2.2.1 = r.2.2.2 := by
  intro r hr
  simp only [outD, List.mem_cons, List.not_mem_nil, or_false] at hr
  rcases hr with e | e | e | e
  · subst e
    exact ⟨⟨by decide, by decide, by decide, by decide, by decide⟩, m_641⟩
  · subst e
    exact ⟨⟨by decide, by decide, by decide, by decide, by decide⟩, m_2041⟩
  · subst e
    exact ⟨⟨by decide, by decide, by decide, by decide, by decide⟩, m_642⟩
  · subst e
    exact ⟨⟨by decide, by decide, by decide, by decide, by decide⟩, m_120⟩
theorem half_bl {t b : Nat} (h : b < t * 2) : V.bl (decide ((b : Int) < (t : Int) * 2)) = V.bl true := congrArg V.bl (decide_eq_true (by omega))
theorem sh_half {c m far : Nat} (hp : 0 < c ^ m) (h : c ^ m < (meetL c m far).sum * 2) : shBot c m far < shTop c m far * 2 := low_half hp h
def sp_outright : Sp := fun vs H Q _ => vs = [] ∧ RetV (.bl true) H Q
theorem ok__law_outright (T : Tx K mg) : FnOk P w K mg base CX0 5 T.f__law_outright T.d__law_outright [] sp_outright := by
  refine T.F__law_outright.ok sc__law_outright (fun vs H Q E h => ?_) (fun cdv A outer s H vs Q E hr h => ?_)
  · obtain ⟨rfl, _⟩ := h
    rfl
  · obtain ⟨rfl, k⟩ := h
    refine ⟨_, (pss_cons (ps_set (i := 0) sc__law_outright.nd rfl (by first | exact Or.inl rfl | exact Or.inr rfl) (pe_call (ok_meetings T) hr (by rfl) T.m_meetings T.F_meetings.kp T.b_meetings .nil pass0 (pa_cons pe_int (pa_cons pe_int (pa_cons pe_int pa_nil)))))
      (pss_cons (ps_set (i := 1) sc__law_outright.nd rfl (by first | exact Or.inl rfl | exact Or.inr rfl) (pe_lst (pa_cons (pe_tup (pa_cons pe_int (pa_cons pe_int (pa_cons pe_int (pa_cons (pe_lst (pa_cons pe_int (pa_cons pe_int (pa_cons pe_int (pa_cons pe_int pa_nil))))) pa_nil))))) (pa_cons (pe_tup (pa_cons pe_int (pa_cons pe_int (pa_cons pe_int (pa_cons (pe_lst (pa_cons pe_int (pa_cons pe_int (pa_cons pe_int (pa_cons pe_int pa_nil))))) pa_nil))))) (pa_cons (pe_tup (pa_cons pe_int (pa_cons pe_int (pa_cons pe_int (pa_cons (pe_lst (pa_cons pe_int (pa_cons pe_int (pa_cons pe_int (pa_cons pe_int pa_nil))))) pa_nil))))) (pa_cons (pe_tup (pa_cons pe_int (pa_cons pe_int (pa_cons pe_int (pa_cons (pe_lst (pa_cons pe_int (pa_cons pe_int pa_nil))) pa_nil))))) pa_nil))))))
      (pss_cons (ps_for PassesOwn.never rfl (pi_list (pv 1)) (pg_tup (by rfl) (pgs_cons (pg_name (i := 2) sc__law_outright.nd rfl (by first | exact Or.inl rfl | exact Or.inr rfl)) (pgs_cons (pg_name (i := 3) sc__law_outright.nd rfl (by first | exact Or.inl rfl | exact Or.inr rfl)) (pgs_cons (pg_name (i := 4) sc__law_outright.nd rfl (by first | exact Or.inl rfl | exact Or.inr rfl)) (pgs_cons (pg_name (i := 5) sc__law_outright.nd rfl (by first | exact Or.inl rfl | exact Or.inr rfl)) pgs_nil)))))
      (pss_one (ps_if (pt_cmpR (r := rNeD K) (op_neD hr.units) (pe_call (ok_meetings T) hr (by rfl) T.m_meetings T.F_meetings.kp T.b_meetings .nil pass0 (pa_cons (pv 2) (pa_cons (pv 3) (pa_cons (pv 4) pa_nil)))) (pv 5) (nomark _)) (pss_one (ps_ret pe_bl)) pss_nil)))
      (pss_cons (ps_if (PW.pt (pw_or (pt_cmpR (r := rNeD K) (op_neD hr.units) (pe_lst (pa_cons (pe_call (ok_share T) hr (by rfl) T.m_share T.F_share.kp T.b_share .nil pass0 (pa_cons pe_int (pa_cons pe_int (pa_cons pe_int pa_nil)))) (pa_cons (pe_call (ok_share T) hr (by rfl) T.m_share T.F_share.kp T.b_share .nil pass0 (pa_cons pe_int (pa_cons pe_int (pa_cons pe_int pa_nil)))) pa_nil))) (pe_lst (pa_cons (pe_tup (pa_cons pe_int (pa_cons pe_int pa_nil))) (pa_cons (pe_tup (pa_cons pe_int (pa_cons pe_int pa_nil))) pa_nil))) (nomark _)) (pw_or1 (pt_cmpR (r := rNeD K) (op_neD hr.units) (pv 0) (pe_lst (pa_cons pe_int (pa_cons pe_int (pa_cons pe_int pa_nil)))) (nomark _))))) (pss_one (ps_ret pe_bl)) pss_nil)
      (pss_cons (ps_asg (pe_call (ok_share T) hr (by rfl) T.m_share T.F_share.kp T.b_share .nil pass0 (pa_cons pe_int (pa_cons pe_int (pa_cons pe_int pa_nil)))) (pg_tup (by rfl) (pgs_cons (pg_name (i := 6) sc__law_outright.nd rfl (by first | exact Or.inl rfl | exact Or.inr rfl)) (pgs_cons (pg_name (i := 7) sc__law_outright.nd rfl (by first | exact Or.inl rfl | exact Or.inr rfl)) pgs_nil))))
      (pss_one (ps_ret (pe_and (pe_cmpR op_gt (pe_op op_mulX (pv 6) pe_int) (pv 7) (nomark _)) (pe_one (pe_cmpR (r := rEqD K) (op_eqD hr.units) (pe_slice (r := rSlL K) sl_list (pe_call (ok_meetings T) hr (by rfl) T.m_meetings T.F_meetings.kp T.b_meetings .nil pass0 (pa_cons pe_int (pa_cons pe_int (pa_cons pe_int pa_nil)))) po_none (po_some pe_int)) (pe_lst (pa_cons pe_int (pa_cons pe_int (pa_cons pe_int (pa_cons pe_int pa_nil))))) (nomark _))))))))))), ?_⟩
    have ok1 : ShOk 2 3 1 := ⟨by decide, by decide, by decide, by decide, by decide⟩
    have ok2 : ShOk 6 4 1 := ⟨by decide, by decide, by decide, by decide, by decide⟩
    have ok3 : ShOk 20 4 1 := ⟨by decide, by decide, by decide, by decide, by decide⟩
    have ok4 : ShOk 10 52 1 := ⟨by decide, by decide, by decide, by decide, by decide⟩
    have ok5 : ShOk 6 5 4 := ⟨by decide, by decide, by decide, by decide, by decide⟩
    refine q_asgL (xs := vNs [0, 4, 2]) (el_to (el_call (ea_cons ev_c (ea_cons ev_c (ea_cons ev_c ea_nil))) (sl_meetings ok1)) (by rw [m_231])) fun td H1 ntd e1 htd => ?_
    have row4 : ∀ {a b c x y z u : Nat} {σ : L2.St} {H : Hp}, EvN K (tTup (tCons (tC (vN a)) (tCons (tC (vN b)) (tCons (tC (vN c)) (tCons (tLst (tCons (tC (vN x)) (tCons (tC (vN y)) (tCons (tC (vN z)) (tCons (tC (vN u)) tNil))))) tNil))))) σ H (rowPd (a, b, c, [x, y, z, u])) := fun {a b c x y z u σ H} => en_tup (ena_cons (en_N ev_c) (ena_cons (en_N ev_c) (ena_cons (en_N ev_c) (ena_cons (en_Ns (l := [x, y, z, u]) (el_lst (ea_cons ev_c (ea_cons ev_c (ea_cons ev_c (ea_cons ev_c ea_nil)))) (show 4 ≤ 100000 by decide))) ena_nil)))) (show 4 ≤ 100000 by decide)
    refine q_asgN (K := K) (d := .list (outD.map rowPd)) (en_lst (ena_cons row4 (ena_cons row4 (ena_cons row4 (ena_cons (en_tup (ena_cons (en_N (n := 1) ev_c) (ena_cons (en_N (n := 2) ev_c) (ena_cons (en_N (n := 0) ev_c) (ena_cons (en_Ns (l := [1, 0]) (el_lst (ea_cons ev_c (ea_cons ev_c ea_nil)) (show 2 ≤ 100000 by decide))) ena_nil)))) (show 4 ≤ 100000 by decide)) ena_nil)))) (show 4 ≤ 100000 by decide)) fun v H2 e2 hv => ?_
    refine q_forD (K := K) (ed_var rfl (Dp.ex (new_ex H1 H2) hv))
      (fun Hb i σ' H' => ∃ y2 y3 y4 y5, σ' = [some (.ref td), some v, y2, y3, y4, y5, none, none] ∧ Ex Hb H') (fun H3 e3 => ⟨none, none, none, none, rfl, Ex.refl H3⟩) (fun Hb i σ' H' ⟨_, _, _, _, _, e⟩ => e) ?_ ?_
    · rintro H3 e3 i x d σ' H4 hd hx ⟨y2, y3, y4, y5, rfl, e4⟩
      obtain ⟨r, hr4, rfl⟩ := List.mem_map.mp (List.mem_of_getElem? hd)
      obtain ⟨okr, hmr⟩ := out_ok r hr4
      refine g_four hx fun l hl => ?_
      refine s_when (b := false) (evT_to (et_test (ev_neD (K := K) (en_Ns (l := r.2.2.2) (el_to (el_call (ea_cons (ev_var rfl) (ea_cons (ev_var rfl) (ea_cons (ev_var rfl) ea_nil))) (sl_meetings okr)) (by rw [hmr]))).toD (ed_var rfl (dp_N hl)) (shN _) (shN _))) (by rw [reflN]; rfl)) (fun z => nomatch z) fun _ H5 e5 => ⟨_, _, _, _, rfl, e4.trans e5⟩
    · rintro H3 e3 σ' H4 ⟨y2, y3, y4, y5, rfl, e4⟩
      have e14 := (e2.trans e3).trans e4
      have s2 : shTop 6 4 1 = 25 ∧ shBot 6 4 1 = 108 := by
        unfold shTop shBot
        rw [m_641]
        decide +kernel
      have s3 : shTop 20 4 1 = 221 ∧ shBot 20 4 1 = 4000 := by
        unfold shTop shBot
        rw [m_2041]
        decide +kernel
      refine q_when (b := false) (evT_to (et_or (a := false) (et_test (ev_to (ev_neD (K := K) (d := .list [.tuple [.int 25, .int 108], .tuple [.int 221, .int 4000]]) (d' := .list [.tuple [.int 25, .int 108], .tuple [.int 221, .int 4000]]) (en_lst (ena_cons (en_u2 (a := 25) (b := 108) (by
        have := eu_call (σ := [some (.ref td), some v, y2, y3, y4, y5, none, none]) (E := E) (ta := tCons (tC (vN 6)) (tCons (tC (vN 4)) (tCons (tC (vN 1)) tNil))) (ea_cons ev_c (ea_cons ev_c (ea_cons ev_c ea_nil))) (su_share (H := H4) ok2)
        rw [s2.1, s2.2] at this
        exact this)) (ena_cons (en_u2 (a := 221) (b := 4000) (by
        have := eu_call (σ := [some (.ref td), some v, y2, y3, y4, y5, none, none]) (E := E) (ta := tCons (tC (vN 20)) (tCons (tC (vN 4)) (tCons (tC (vN 1)) tNil))) (ea_cons ev_c (ea_cons ev_c (ea_cons ev_c ea_nil))) (su_share (H := H4) ok3)
        rw [s3.1, s3.2] at this
        exact this)) ena_nil)) (show 2 ≤ 100000 by decide)).toD
          (en_lst (ena_cons (en_tup (ena_cons (en_int ev_c) (ena_cons (en_int ev_c) ena_nil)) (show 2 ≤ 100000 by decide)) (ena_cons (en_tup (ena_cons (en_int ev_c) (ena_cons (en_int ev_c) ena_nil)) (show 2 ≤ 100000 by decide)) ena_nil)) (show 2 ≤ 100000 by decide)).toD (by decide +kernel) (by decide +kernel)) (w := V.bl false) (by decide +kernel))) fun _ =>
        et_test (ev_neD (K := K) (ed_var rfl (dp_N (sq_of (e14 td _ htd)))) (en_Ns (l := [0, 4, 2]) (el_lst (ea_cons ev_c (ea_cons ev_c (ea_cons ev_c ea_nil))) (show 3 ≤ 100000 by decide))).toD (shN _) (shN _))) (by rw [reflN]; rfl)) (fun z => nomatch z) fun _ H5 e5 => ?_
      obtain ⟨tp, bt, hsu, hh⟩ : ∃ t b : Nat, (∀ H : Hp, SpU sp_share ([vN 10, vN 52, vN 1] ++ []) H [vN t, vN b]) ∧ b < t * 2 := ⟨shTop 10 52 1, shBot 10 52 1, fun H => su_share ok4, sh_half (c := 10) (m := 52) (far := 1) (Nat.pow_pos (by decide)) half_52⟩
      refine q_asgT2 (K := K) (x := vN tp) (y := vN bt) (eu_call (ea_cons ev_c (ea_cons ev_c (ea_cons ev_c ea_nil))) (hsu _)) fun H6 e6 => ?_
      refine s_ret (v := .bl true) (ev_to (ev_andV (a := true) (b := true) (ev_to (ev_op (ev_op (ev_var rfl) ev_c (rv_I (mulok_right (by decide) (by decide)))) (ev_var rfl) rv_I0) (w := V.bl true) ?_) fun _ => ev_to (ev_eqD (K := K) (en_Ns (l := [0, 0, 0, 0]) (el_to (el_slN (K := K) (el_call (ea_cons ev_c (ea_cons ev_c (ea_cons ev_c ea_nil))) (sl_meetings ok5)) eo_none (eo_some ev_c)) ?_)).toD (en_Ns (l := [0, 0, 0, 0]) (el_lst (ea_cons ev_c (ea_cons ev_c (ea_cons ev_c (ea_cons ev_c ea_nil)))) (show 4 ≤ 100000 by decide))).toD (shN _) (shN _)) (w := V.bl true) (by rw [reflN])) rfl) fun H7 e7 => k H7 ((((e1.trans e14).trans e5).trans e6).trans e7)
      · exact half_bl hh
      · rw [show (4 : Int) = ((4 : Nat) : Int) from rfl, cut_to]
        show (vNs (meetL 6 5 4)).take 4 = vNs [0, 0, 0, 0]
        unfold vNs
        rw [← List.map_take]
        refine congrArg (List.map vN) ?_
        have h1 := meetL_low (c := 6) (m := 5) (far := 4) (by decide)
        have h2 : ((meetL 6 5 4).take 4).length = 4 := by
          rw [List.length_take, meetL_len]
          rfl
        have h3 := List.eq_replicate_of_mem h1
        rw [h3, h2]
        rfl
theorem sv_outright {H : Hp} : SpV sp_outright ([] ++ []) H (.bl true) := fun H1 e Q q E => ⟨rfl, q⟩
def limG : List Nat := [12, 30, 60]
def sp_law (K : PySem.W.Frag) : Sp := fun vs H Q _ => ∃ (a : Addr) (ns : List Int), vs = [.ref a] ∧ SqL K H a (ns.map V.int) ∧ ns.length ≤ 63 ∧ BitsOk ns ∧ ∀ H', Q (.bl true) H'
def mulV (c : Nat) : V → V
  | .int i => .int (i * (c : Int))
  | _ => .non
theorem mulV_N (c : Nat) (l : List Nat) : (vNs l).map (mulV c) = vNs (l.map (· * c)) := by
  unfold vNs
  rw [List.map_map, List.map_map]
  refine List.map_congr_left fun n _ => ?_
  show V.int _ = V.int _
  rw [Int.natCast_mul]
theorem ok_law (T : Tx K mg) : FnOk P w K mg base CX0 6 T.f_law T.d_law ["_law_script"] (sp_law K) := by
  refine T.F_law.ok sc_law (fun vs H Q E h => ?_) (fun cdv A outer s H vs Q E hr h => ?_)
  · obtain ⟨a, ns, rfl, _⟩ := h
    rfl
  · obtain ⟨a, ns, rfl, hS, hlen, hB, q⟩ := h
    refine ⟨_, (pss_cons (ps_for PassesOwn.never rfl (pi_range3 (by rfl) T.z_range (pa_cons pe_int (pa_cons (pe_callB (call_max2 rfl) (by rfl) T.z_max (by decide +kernel) (pa_cons pe_int (pa_cons (pe_callB (call_min2 rfl) (by rfl) T.z_min (by decide +kernel) (pa_cons pe_int (pa_cons (pe_callB (r := Evl.rLenS K) call_len_seq (by rfl) T.z_len (by decide +kernel) (pa_cons (pv 0) pa_nil)) pa_nil))) pa_nil))) (pa_cons pe_int pa_nil)))) (pg_name (i := 1) sc_law.nd rfl (by first | exact Or.inl rfl | exact Or.inr rfl))
      (pss_cons (ps_set (i := 2) sc_law.nd rfl (by first | exact Or.inl rfl | exact Or.inr rfl) (pe_call (ok__law_cell_at T) (hr.mono (by decide)) (by rfl) T.m__law_cell_at T.F__law_cell_at.kp T.b__law_cell_at .nil pass0 (pa_cons (pv 0) (pa_cons (pv 1) pa_nil))))
      (pss_cons (ps_asg (pe_tup (pa_cons (pe_op op_add pe_int (pe_call (ok__law_number T) (hr.mono (by decide)) (by rfl) T.m__law_number T.F__law_number.kp T.b__law_number .nil pass0 (pa_cons (pv 2) (pa_cons (pe_op op_add (pv 1) pe_int) (pa_cons pe_int pa_nil))))) (pa_cons (pe_op op_add pe_int (pe_call (ok__law_number T) (hr.mono (by decide)) (by rfl) T.m__law_number T.F__law_number.kp T.b__law_number .nil pass0 (pa_cons (pv 2) (pa_cons (pe_op op_add (pv 1) pe_int) (pa_cons (pe_ix (r := rIxT K) ix_tup (pe_tup (pa_cons pe_int (pa_cons pe_int (pa_cons pe_int pa_nil)))) (pe_op op_mod (pe_op op_fdivW (pv 1) pe_int) pe_int) (fun _ _ => rfl)) pa_nil))))) pa_nil))) (pg_tup (by rfl) (pgs_cons (pg_name (i := 3) sc_law.nd rfl (by first | exact Or.inl rfl | exact Or.inr rfl)) (pgs_cons (pg_name (i := 4) sc_law.nd rfl (by first | exact Or.inl rfl | exact Or.inr rfl)) pgs_nil))))
      (pss_cons (ps_set (i := 5) sc_law.nd rfl (by first | exact Or.inl rfl | exact Or.inr rfl) (pe_call (ok__law_number T) (hr.mono (by decide)) (by rfl) T.m__law_number T.F__law_number.kp T.b__law_number .nil pass0 (pa_cons (pv 2) (pa_cons (pe_op op_add (pv 1) pe_int) (pa_cons (pv 4) pa_nil)))))
      (pss_cons (ps_par (i := 6) (j := 7) (by rfl) sc_law.nd rfl rfl (by decide) rfl rfl (pa_cons (pe_call (ok_meetings T) (hr.mono (by decide)) (by rfl) T.m_meetings T.F_meetings.kp T.b_meetings .nil pass0 (pa_cons (pv 3) (pa_cons (pv 4) (pa_cons (pv 5) pa_nil)))) (pa_cons (pe_call (ok__law_step T) (hr.mono (by decide)) (by rfl) T.m__law_step T.F__law_step.kp T.b__law_step .nil pass0 (pa_cons (pv 3) (pa_cons (pv 4) (pa_cons (pv 5) pa_nil)))) pa_nil)) (by rfl))
      (pss_cons (ps_if (PW.pt (pw_or (pt_cmpR op_ne (pe_callB (r := Evl.rLenS K) call_len_seq (by rfl) T.z_len (by decide +kernel) (pa_cons (pv 6) pa_nil)) (pv 4) (nomark _)) (pw_or (pt_cmpR op_ne (pe_callB (r := rSum K) (cr_sum rfl) (by rfl) T.z_sum (by decide +kernel) (pa_cons (pv 6) pa_nil)) (pe_ix (r := rIxT K) ix_tup (pv 7) pe_int (fun _ _ => rfl)) (nomark _)) (pw_or1 (pt_not (pt_val (pe_callB (r := rAll K) (cr_all rfl) (by rfl) T.z_all (by decide +kernel) (pa_cons (pe_lc (own := [("_law_one", 8)]) (by rfl) sc_law.nd (pi_list (pv 6)) (blkOk_by (own := [("_law_one", 8)]) (N := ["_law_script", "_law_by", "_law_cell", "_law_cards", "_law_many", "_law_far", "_law_found", "_law_due", "_law_one", "_law_top", "_law_bottom", "_law_other", "_law_kept", "_law_more", "_law_first", "_law_second"]) (sc := defScope s_law) (by decide +kernel)) (fun _ _ _ _ _ => (pg_name (i := 8) sc_law.nd rfl (by first | exact Or.inl rfl | exact Or.inr rfl))) (fun _ _ _ _ _ => pts_nil) (fun _ _ _ _ _ => (pe_and (pe_call (ok__law_whole T) (hr.mono (by decide)) (by rfl) T.m__law_whole T.F__law_whole.kp T.b__law_whole .nil pass0 (pa_cons (pv 8) pa_nil)) (pe_one (pe_cmpR op_ge (pv 8) pe_int (nomark _)))))) pa_nil)))))))) (pss_one (ps_ret pe_bl)) pss_nil)
      (pss_cons (ps_asg (pe_call (ok_share T) (hr.mono (by decide)) (by rfl) T.m_share T.F_share.kp T.b_share .nil pass0 (pa_cons (pv 3) (pa_cons (pv 4) (pa_cons (pv 5) pa_nil)))) (pg_tup (by rfl) (pgs_cons (pg_name (i := 9) sc_law.nd rfl (by first | exact Or.inl rfl | exact Or.inr rfl)) (pgs_cons (pg_name (i := 10) sc_law.nd rfl (by first | exact Or.inl rfl | exact Or.inr rfl)) pgs_nil))))
      (pss_cons (ps_if (PW.pt (pw_or (pt_cmpR op_ne (pe_op op_mulX (pv 9) (pe_ix (r := rIxT K) ix_tup (pv 7) pe_int (fun _ _ => rfl))) (pe_op op_mulX (pv 10) (pe_ix (r := rIxT K) ix_tup (pv 7) pe_int (fun _ _ => rfl))) (nomark _)) (pw_or (pt_not (pt_chain op_le op_le pe_int (pv 9) (pv 10))) (pw_or1 (pt_val (pe_callB (r := rAnyI K) (cr_anyI rfl) (by rfl) T.z_any (by decide +kernel) (pa_cons (pe_slice (r := rSlL K) sl_list (pv 6) po_none (po_some (pv 5))) pa_nil))))))) (pss_one (ps_ret pe_bl)) pss_nil)
      (pss_cons (ps_par (i := 8) (j := 11) (by rfl) sc_law.nd rfl rfl (by decide) rfl rfl (pa_cons (pv 9) (pa_cons (pv 10) pa_nil)) (by rfl))
      (pss_cons (ps_while PassesOwn.never (pt_cmpR op_gt (pv 11) pe_int (nomark _))
      (pss_one (ps_par (i := 8) (j := 11) (by rfl) sc_law.nd rfl rfl (by decide) rfl rfl (pa_cons (pv 11) (pa_cons (pe_op op_mod (pv 8) (pv 11)) pa_nil)) (by rfl))))
      (pss_cons (ps_set (i := 12) sc_law.nd rfl (by first | exact Or.inl rfl | exact Or.inr rfl) (pe_callTy (r := Evl.rListS K) call_list_of (by rfl) T.z_list (by decide +kernel) (pa_cons (pv 6) pa_nil)))
      (pss_cons (ps_expr (pe_bm PySem.F.plainAttrs_list PySem.F.slot_list_append PySem.F.type_list_append mt_append (pv 6) (pa_cons pe_int pa_nil)))
      (pss_cons (ps_if (PW.pt (pw_or (pt_cmpR op_ne (pv 8) pe_int (nomark _)) (pw_or1 (pt_cmpR (r := rNeD K) (op_neD hr.units) (pe_call (ok_meetings T) (hr.mono (by decide)) (by rfl) T.m_meetings T.F_meetings.kp T.b_meetings .nil pass0 (pa_cons (pv 3) (pa_cons (pv 4) (pa_cons (pv 5) pa_nil)))) (pv 12) (nomark _))))) (pss_one (ps_ret pe_bl)) pss_nil)
      (pss_cons (ps_set (i := 6) sc_law.nd rfl (by first | exact Or.inl rfl | exact Or.inr rfl) (pv 12))
      (pss_cut (ps_if (pt_cmpR op_lt (pv 4) pe_int (nomark _)) (pss_cons (ps_set (i := 13) sc_law.nd rfl (by first | exact Or.inl rfl | exact Or.inr rfl) (pe_call (ok_meetings T) (hr.mono (by decide)) (by rfl) T.m_meetings T.F_meetings.kp T.b_meetings .nil pass0 (pa_cons (pv 3) (pa_cons (pe_op op_add (pv 4) pe_int) (pa_cons (pv 5) pa_nil)))))
      (pss_cons (ps_if (pt_cmpR (r := rNeD K) (op_neD hr.units) (pe_slice (r := rSlL K) sl_list (pv 13) po_none (po_some (pv 4))) (pe_lc (own := [("_law_one", 8)]) (by rfl) sc_law.nd (pi_list (pv 6)) (blkOk_by (own := [("_law_one", 8)]) (N := ["_law_script", "_law_by", "_law_cell", "_law_cards", "_law_many", "_law_far", "_law_found", "_law_due", "_law_one", "_law_top", "_law_bottom", "_law_other", "_law_kept", "_law_more", "_law_first", "_law_second"]) (sc := defScope s_law) (by decide +kernel)) (fun _ _ _ _ _ => (pg_name (i := 8) sc_law.nd rfl (by first | exact Or.inl rfl | exact Or.inr rfl))) (fun _ _ _ _ _ => pts_nil) (fun _ _ _ _ _ => (pe_op op_mulX (pv 8) (pv 3)))) (nomark _)) (pss_one (ps_ret pe_bl)) pss_nil)
      (pss_cons (ps_asg (pe_call (ok_share T) (hr.mono (by decide)) (by rfl) T.m_share T.F_share.kp T.b_share .nil pass0 (pa_cons (pv 3) (pa_cons (pe_op op_add (pv 4) pe_int) (pa_cons (pv 5) pa_nil)))) (pg_tup (by rfl) (pgs_cons (pg_name (i := 14) sc_law.nd rfl (by first | exact Or.inl rfl | exact Or.inr rfl)) (pgs_cons (pg_name (i := 15) sc_law.nd rfl (by first | exact Or.inl rfl | exact Or.inr rfl)) pgs_nil))))
      (pss_one (ps_if (pt_cmpR op_lt (pe_op op_mulX (pv 14) (pv 10)) (pe_op op_mulX (pv 9) (pv 15)) (nomark _)) (pss_one (ps_ret pe_bl)) pss_nil))))) pss_nil)
      (pss_cons (ps_if (PW.pt (pw_or (pt_cmpR (r := rNeD K) (op_neD hr.units) (pe_call (ok_share T) (hr.mono (by decide)) (by rfl) T.m_share T.F_share.kp T.b_share .nil pass0 (pa_cons (pv 3) (pa_cons (pv 4) (pa_cons pe_int pa_nil)))) (pe_tup (pa_cons pe_int (pa_cons pe_int pa_nil))) (nomark _)) (pw_or1 (pt_cmpR (r := rNeD K) (op_neD hr.units) (pe_call (ok_share T) (hr.mono (by decide)) (by rfl) T.m_share T.F_share.kp T.b_share .nil pass0 (pa_cons pe_int (pa_cons (pv 4) (pa_cons (pv 5) pa_nil)))) (pe_tup (pa_cons pe_int (pa_cons pe_int pa_nil))) (nomark _))))) (pss_one (ps_ret pe_bl)) pss_nil)
      (pss_one (ps_if (pt_cmpR (r := rNeD K) (op_neD hr.units) (pe_slice (r := rSlL K) sl_list (pe_call (ok_meetings T) (hr.mono (by decide)) (by rfl) T.m_meetings T.F_meetings.kp T.b_meetings .nil pass0 (pa_cons (pv 3) (pa_cons (pv 4) (pa_cons pe_int pa_nil)))) (po_some pe_int) po_none) (pe_op op_rep (pe_lst (pa_cons pe_int pa_nil)) (pe_op op_sub (pv 4) pe_int)) (nomark _)) (pss_one (ps_ret pe_bl)) pss_nil))))))))))))))))))
      (pss_one (ps_ret (pe_call0 (ok__law_outright T) hr (by rfl) T.m__law_outright T.F__law_outright.kp T.b__law_outright .nil pass0)))), ?_⟩
    obtain ⟨j, hj1, hj2, hj⟩ := byJ ns.length
    refine q_forR3 (hi := (j : Int)) (ea_cons ev_c (ea_cons (ev_to (ev_max2 ev_c (ev_min2 ev_c (ev_to (ev_len (K := K) (ev_var rfl) hS) (by rw [List.length_map])))) (congrArg V.int hj)) (ea_cons ev_c ea_nil))) (rg4 j hj1 hj2)
      (fun i σ' H' => ∃ y1 y2 y3 y4 y5 y6 y7 y8 y9 y10 y11 y12 y13 y14 y15, σ' = [some (.ref a), y1, y2, y3, y4, y5, y6, y7, y8, y9, y10, y11, y12, y13, y14, y15] ∧ Ex H H') (fun H1 e1 => ⟨none, none, none, none, none, none, none, none, none, none, none, none, none, none, none, rfl, e1⟩) ?_ ?_
    · rintro i σ' H1 hi ⟨y1, y2, y3, y4, y5, y6, y7, y8, y9, y10, y11, y12, y13, y14, y15, rfl, e1⟩
      have hb : ((0 : Int) + (i : Nat) * 4) = ((4 * i : Nat) : Int) := by omega
      rw [hb]
      have hi3 : i < 3 := by omega
      have hS1 : SqL K H1 a (ns.map V.int) := ex_l e1 hS
      have hcb : Builtin.Int.intBits (cellAt ns (4 * i)) ≤ 1048577 := Nat.le_succ_of_le (cell_bits hB _)
      refine q_asg (ev_call (ea_cons (ev_var rfl) (ea_cons (ev_var rfl) ea_nil)) (sv_cell_at hS1)) fun H2 e2 => ?_
      generalize cellAt ns (4 * i) = cell at hcb
      have hlim : limG[i]? = some (limG.getD i 1) ∧ 1 ≤ limG.getD i 1 ∧ limG.getD i 1 ≤ 60 := by
        have : ∀ i, i < 3 → limG[i]? = some (limG.getD i 1) ∧ 1 ≤ limG.getD i 1 ∧ limG.getD i 1 ≤ 60 := by decide
        exact this i hi3
      obtain ⟨hl0, hl1, hl2⟩ := hlim
      generalize limG.getD i 1 = lim at hl0 hl1 hl2
      refine q_asgT2 (K := K) (x := vN (1 + numN cell (4 * i + 1) 20)) (y := vN (1 + numN cell (4 * i + 2) lim)) (eu_tup (ea_cons (ev_to (ev_op ev_c (ev_call (ea_cons (ev_var rfl) (ea_cons (ev_to (ev_op (ev_var rfl) ev_c rv_I0) (w := vN (4 * i + 1)) ?_) (ea_cons ev_c ea_nil))) (sv_number (m := 20) (by decide) (by omega) hcb)) rv_I0) ?_)
        (ea_cons (ev_to (ev_op ev_c (ev_call (ea_cons (ev_var rfl) (ea_cons (ev_to (ev_op (ev_var rfl) ev_c rv_I0) (w := vN (4 * i + 2)) ?_) (ea_cons (ev_ixU (K := K) (xs := vNs limG) (v := vN lim) (eu_tup (ea_cons ev_c (ea_cons ev_c (ea_cons ev_c ea_nil))) (show 3 ≤ 100000 by decide)) (ev_to (ev_op (ev_op (ev_var rfl) ev_c (rv_I (wide_div (b := 12) (by decide) (by decide) (by decide) (by decide)))) ev_c (rv_I (by decide))) (w := vN i) ?_) (vNs_at hl0)) ea_nil))) (sv_number (m := lim) hl1 (by omega) hcb)) rv_I0) ?_) ea_nil)) (show 2 ≤ 100000 by decide)) fun H3 e3 => ?_
      · show V.int _ = V.int _
        rw [Int.natCast_add]
        rfl
      · show V.int _ = V.int _
        rw [Int.natCast_add]
        rfl
      · show V.int _ = V.int _
        rw [Int.natCast_add]
        rfl
      · show V.int _ = V.int _
        congr 1
        omega
      · show V.int _ = V.int _
        rw [Int.natCast_add]
        rfl
      have hn20 := numN_lt (c := cell) (k := 4 * i + 1) (m := 20) (by decide)
      have hnl := numN_lt (c := cell) (k := 4 * i + 2) (m := lim) hl1
      have hc1 : 1 ≤ 1 + numN cell (4 * i + 1) 20 := by omega
      have hc20 : 1 + numN cell (4 * i + 1) 20 ≤ 20 := by omega
      have hm1 : 1 ≤ 1 + numN cell (4 * i + 2) lim := by omega
      have hm60 : 1 + numN cell (4 * i + 2) lim ≤ 60 := by omega
      generalize 1 + numN cell (4 * i + 1) 20 = c at hc1 hc20
      generalize 1 + numN cell (4 * i + 2) lim = m at hm1 hm60
      refine q_asg (ev_call (ea_cons (ev_var rfl) (ea_cons (ev_to (ev_op (ev_var rfl) ev_c rv_I0) (w := vN (4 * i + 3)) ?_) (ea_cons (ev_var rfl) ea_nil))) (sv_number (m := m) hm1 (by omega) hcb)) fun H4 e4 => ?_
      · show V.int _ = V.int _
        rw [Int.natCast_add]
        rfl
      have hfl := numN_lt (c := cell) (k := 4 * i + 3) (m := m) hm1
      generalize numN cell (4 * i + 3) m = far at hfl
      have ok : ShOk c m far := ⟨hc1, hc20, hm1, hm60, hfl⟩
      have hpos : 0 < c ^ m := Nat.pow_pos hc1
      have hml := meetL_len c m far
      have hsl := meetL_sum_le (c := c) (m := m) hfl
      have hle := meetL_le (c := c) (m := m) hfl
      have hB260 : c ^ m < 2 ^ 260 := pow260 hc20 hm60
      refine q_parLU (el_call (ea_cons (ev_var rfl) (ea_cons (ev_var rfl) (ea_cons (ev_var rfl) ea_nil))) (sl_meetings ok)) (eu_call (ea_cons (ev_var rfl) (ea_cons (ev_var rfl) (ea_cons (ev_var rfl) ea_nil))) (su_step ok)) fun p d H5 np e5 hp hd => ?_
      refine q_when (b := false) (evT_to (et_or (a := false) (et_test (ev_to (ev_op (ev_to (ev_len (K := K) (ev_var rfl) (sq_of hp)) (w := vN m) ?_) (ev_var rfl) (rv_ne rfl)) (w := V.bl false) ?_)) fun _ => et_or (a := false) (et_test (ev_to (ev_op (ev_sum (K := K) (ev_var rfl) (sq_of hp)) (ev_op (ev_var rfl) ev_c (rv_ixT (K := K) (st_of hd) (i := 0) (v := vN (meetL c m far).sum) (atI_nat (j := 0) rfl))) (rv_ne rfl)) (w := V.bl false) ?_)) fun _ =>
        et_not (et_B (ev_allN (K := K) (bs := (meetL c m far).map fun _ => true) (el_to (el_mapL (K := K) (fun _ => V.bl true) (ev_var rfl) (sq_of hp) (by rw [vNs_len]; omega) ?_) ?_)))) ?_) (fun z => nomatch z) fun _ H6 e6 => ?_
      · rw [vNs_len, hml]
        rfl
      · rw [decide_eq_true rfl]
        rfl
      · rw [decide_eq_true rfl]
        rfl
      · intro x hx H6 e6
        obtain ⟨n, _, rfl⟩ := List.mem_map.mp hx
        exact ev_to (ev_andV (ev_call (ea_cons (ev_var rfl) ea_nil) sv_is_whole) fun _ => ev_op (ev_var rfl) ev_c rv_I0) (by rw [Bool.true_and]; exact congrArg V.bl (decide_eq_true (show (0 : Int) ≤ (n : Int) by omega)))
      · unfold vNs
        rw [List.map_map, List.map_map]
        rfl
      · rw [List.all_map]
        simp
      have hp6 := e6 p _ hp
      have hd6 := e6 d _ hd
      have hB1 : shBot c m far ≤ c ^ m := Nat.div_le_self _ _
      have hT1 : shTop c m far ≤ c ^ m := Nat.le_trans (Nat.div_le_self _ _) hsl
      have hcr : shTop c m far * c ^ m = shBot c m far * (meetL c m far).sum := low_cross hpos
      have htb : shTop c m far ≤ shBot c m far := low_le hsl
      have hgc : Nat.gcd (shTop c m far) (shBot c m far) = 1 := low_gcd hpos
      have hgrow : far < m + 1 → shTop c m far * shBot c (m + 1) far ≤ shTop c (m + 1) far * shBot c m far := fun _ => low_grow hpos (Nat.pow_pos hc1) (by rw [Nat.pow_succ, Nat.mul_comm]) (sum_more hfl)
      refine q_asgT2 (K := K) (eu_call (ea_cons (ev_var rfl) (ea_cons (ev_var rfl) (ea_cons (ev_var rfl) ea_nil))) (su_share ok)) fun H7 e7 => ?_
      generalize hst : shTop c m far = tp at *
      generalize hsb : shBot c m far = bt at *
      have bit : ∀ n, n ≤ c ^ m → Builtin.Int.intBits ((n : Nat) : Int) ≤ 260 := fun n hn => bits_of_lt (by rw [Int.natAbs_natCast]; exact Nat.lt_of_le_of_lt hn hB260)
      have hp7 := e7 p _ hp6
      have hd7 := e7 d _ hd6
      refine q_when (b := false) (evT_to (et_or (a := false) (et_test (ev_to (ev_op (ev_to (ev_op (ev_var rfl) (ev_op (ev_var rfl) ev_c (rv_ixT (K := K) (st_of hd7) (i := 1) (v := vN (c ^ m)) (atI_nat (j := 1) rfl))) (rv_I (mulok_bits ?_))) (w := vN (tp * c ^ m)) ?_) (ev_to (ev_op (ev_var rfl) (ev_op (ev_var rfl) ev_c (rv_ixT (K := K) (st_of hd7) (i := 0) (v := vN (meetL c m far).sum) (atI_nat (j := 0) rfl))) (rv_I (mulok_bits ?_))) (w := vN (bt * (meetL c m far).sum)) ?_) (rv_ne rfl)) (w := V.bl false) ?_)) fun _ =>
        et_or (a := false) (evT_to (et_not (et_test (ev_chain ev_c (ev_var rfl) rv_I0 (fun _ => ev_var rfl) fun _ => rv_I0))) ?_) fun _ => et_B (ev_anyZ (K := K) (l := (meetL c m far).take far) (el_to (el_sl (K := K) (ev_var rfl) eo_none (eo_some (ev_var rfl)) (sq_of hp7)) ?_) (meetL_low hfl))) rfl) (fun z => nomatch z) fun _ H8 e8 => ?_
      · have := bit tp hT1
        have := bit (c ^ m) (Nat.le_refl _)
        omega
      · show V.int _ = V.int _
        rw [Int.natCast_mul]
      · have := bit bt hB1
        have := bit _ hsl
        omega
      · show V.int _ = V.int _
        rw [Int.natCast_mul]
      · rw [decide_eq_true (congrArg vN hcr)]
        rfl
      · rw [decide_eq_true (show (0 : Int) ≤ (tp : Int) by omega), decide_eq_true (show (tp : Int) ≤ (bt : Int) by omega)]
        rfl
      · rw [cut_to]
        unfold vNs
        rw [List.map_take]
      have hp8 := e8 p _ hp7
      refine q_par (ea_cons (ev_var rfl) (ea_cons (ev_var rfl) ea_nil)) fun H9 e9 => ?_
      have e59 := ((e6.trans e7).trans e8).trans e9
      refine q_while (fun n σ H' => ∃ x y : Nat, σ = [some (.ref a), some (vN (4 * i)), some (.int cell), some (vN c), some (vN m), some (vN far), some (.ref p), some (.ref d), some (vN x), some (vN tp), some (vN bt), some (vN y), y12, y13, y14, y15] ∧ Nat.gcd x y = 1 ∧ Ex H9 H' ∧ n = y) bt ⟨tp, bt, rfl, hgc, Ex.refl H9, rfl⟩ ?_
      rintro n σ' H10 ⟨x, y, rfl, hg, e10, rfl⟩
      refine ⟨decide ((0 : Int) < (n : Int)), et_test (ev_op (ev_var rfl) ev_c rv_I0), fun hb H11 e11 => ?_, fun hb H11 e11 => ?_⟩
      · have hn : 0 < n := by
          have := of_decide_eq_true hb
          omega
        refine ⟨fun σ3 H3 => σ3 = [some (.ref a), some (vN (4 * i)), some (.int cell), some (vN c), some (vN m), some (vN far), some (.ref p), some (.ref d), some (vN n), some (vN tp), some (vN bt), some (vN (x % n)), y12, y13, y14, y15] ∧ Ex H9 H3, fun σ3 H3 ⟨e3, x3⟩ => ⟨x % n, Nat.mod_lt _ hn, n, x % n, e3, by rw [gcd_turn]; exact hg, x3, rfl⟩, ?_⟩
        refine s_par (x := vN n) (y := vN (x % n)) (ea_cons (ev_var rfl) (ea_cons (ev_to (ev_op (ev_var rfl) (ev_var rfl) (rv_I (show (0 : Int) < (n : Int) by omega))) ?_) ea_nil)) fun H3 e3 => ⟨rfl, (e10.trans e11).trans e3⟩
        show V.int _ = V.int _
        rw [Int.natCast_emod]
      · have hn : n = 0 := by
          have := of_decide_eq_false hb
          omega
        subst hn
        rw [Nat.gcd_zero_right] at hg
        subst hg
        have e511 := (e59.trans e10).trans e11
        have hp11 := e511 p _ hp
        refine q_asgL (xs := vNs (meetL c m far)) (el_list (K := K) (ev_var rfl) (sq_of hp11)) fun kp H12 nkp e12 hkp => ?_
        have hkn : kp ≠ p := fun z => by
          rw [z, hp11] at nkp
          cases nkp
        have np0 : H p = none := fresh_back (((e1.trans e2).trans e3).trans e4) np
        refine q_app (e12 p _ hp11) (ev_var rfl) ev_c (by rw [vNs_len]; omega) fun H13 e13 => ?_
        have ex14 : Ex H (upd H13 p (.lst (vNs (meetL c m far) ++ [.int 0]))) := Ex.mut ((((((e1.trans e2).trans e3).trans e4).trans e5).trans e511).trans (e12.trans e13)) np0
        have hk14 : upd H13 p (.lst (vNs (meetL c m far) ++ [.int 0])) kp = some (.lst (vNs (meetL c m far))) := by
          rw [upd_ne hkn]
          exact e13 kp _ hkp
        generalize upd H13 p (.lst (vNs (meetL c m far) ++ [.int 0])) = H14 at ex14 hk14
        refine q_when (b := false) (evT_to (et_or (a := false) (et_test (ev_to (ev_op (ev_var rfl) ev_c (rv_ne rfl)) (w := V.bl false) (by decide))) fun _ => et_test (ev_neD (K := K) (en_Ns (el_call (ea_cons (ev_var rfl) (ea_cons (ev_var rfl) (ea_cons (ev_var rfl) ea_nil))) (sl_meetings ok))).toD (ed_var rfl (dp_N (sq_of hk14))) (shN _) (shN _))) (by rw [reflN]; rfl)) (fun z => nomatch z) fun _ H15 e15 => ?_
        refine q_asg (ev_var rfl) fun H16 e16 => ?_
        have hk16 := e16 kp _ (e15 kp _ hk14)
        refine q_cut (fun σ' H' => ∃ y13 y14 y15, σ' = [some (.ref a), some (vN (4 * i)), some (.int cell), some (vN c), some (vN m), some (vN far), some (.ref kp), some (.ref d), some (vN 1), some (vN tp), some (vN bt), some (vN 0), some (.ref kp), y13, y14, y15] ∧ Ex H16 H') (s_when (b := decide ((m : Int) < 60)) (et_test (ev_op (ev_var rfl) ev_c rv_I0)) (fun hb60 H17 e17 => ?_) fun _ H17 e17 => ⟨_, _, _, rfl, e17⟩) ?_
        · have hm59 : m < 60 := by
            have := of_decide_eq_true hb60
            omega
          have ok2 : ShOk c (m + 1) far := ⟨hc1, hc20, by omega, by omega, by omega⟩
          have hm1' : ∀ {σ : L2.St} {H : Hp}, σ[4]? = some (some (vN m)) → Ev (tOp (rI0 fun i j => .int (i + j)) (tVar 4) (tC (.int 1))) σ H (vN (m + 1)) := fun h => ev_to (ev_op (ev_var h) ev_c rv_I0) (by
            show V.int _ = V.int _
            rw [Int.natCast_add]
            rfl)
          refine q_asgL (el_call (ea_cons (ev_var rfl) (ea_cons (hm1' rfl) (ea_cons (ev_var rfl) ea_nil))) (sl_meetings ok2)) fun mo H18 nmo e18 hmo => ?_
          refine q_when (b := false) (evT_to (et_test (ev_neD (K := K) (en_Ns (l := (meetL c m far).map (· * c)) (el_to (el_sl (K := K) (ev_var rfl) eo_none (eo_some (ev_var rfl)) (sq_of hmo)) ?_)).toD (en_Ns (l := (meetL c m far).map (· * c)) (el_to (el_mapL (K := K) (mulV c) (ev_var rfl) (sq_of (e18 kp _ (e17 kp _ hk16))) (by rw [vNs_len]; omega) ?_) (mulV_N c _))).toD (shN _) (shN _))) (by rw [reflN]; rfl)) (fun z => nomatch z) fun _ H19 e19 => ?_
          · rw [cut_to]
            unfold vNs
            rw [← List.map_take, meetL_more hfl]
          · intro x hx H19 e19
            obtain ⟨n, _, rfl⟩ := List.mem_map.mp hx
            exact ev_op (ev_var rfl) (ev_var rfl) (rv_I (mulok_right (by omega) (by omega)))
          refine q_asgT2 (K := K) (eu_call (ea_cons (ev_var rfl) (ea_cons (hm1' rfl) (ea_cons (ev_var rfl) ea_nil))) (su_share ok2)) fun H20 e20 => ?_
          have hgr := hgrow (by omega)
          have hsl2 := meetL_sum_le (c := c) (m := m + 1) (far := far) (by omega)
          have hB2 : shBot c (m + 1) far ≤ c ^ (m + 1) := Nat.div_le_self _ _
          have hT2 : shTop c (m + 1) far ≤ c ^ (m + 1) := Nat.le_trans (Nat.div_le_self _ _) hsl2
          have hB2' : c ^ (m + 1) < 2 ^ 260 := pow260 hc20 hm59
          have bit2 : ∀ n, n ≤ c ^ (m + 1) → Builtin.Int.intBits ((n : Nat) : Int) ≤ 260 := fun n hn => bits_of_lt (by rw [Int.natAbs_natCast]; exact Nat.lt_of_le_of_lt hn hB2')
          have b1 := bit2 _ hB2
          have b2 := bit2 _ hT2
          have b3 := bit tp hT1
          have b4 := bit bt hB1
          generalize shTop c (m + 1) far = tp2 at *
          generalize shBot c (m + 1) far = bt2 at *
          refine s_when (b := false) (evT_to (et_test (ev_op (ev_to (ev_op (ev_var rfl) (ev_var rfl) (rv_I (mulok_bits (by omega)))) (w := vN (tp2 * bt)) ?_) (ev_to (ev_op (ev_var rfl) (ev_var rfl) (rv_I (mulok_bits (by omega)))) (w := vN (tp * bt2)) ?_) rv_I0)) ?_) (fun z => nomatch z) fun _ H21 e21 => ⟨_, _, _, rfl, (((e17.trans e18).trans e19).trans e20).trans e21⟩
          · show V.int _ = V.int _
            rw [Int.natCast_mul]
          · show V.int _ = V.int _
            rw [Int.natCast_mul]
          · refine decide_eq_false ?_
            intro z
            have z2 : tp2 * bt < tp * bt2 := Int.ofNat_lt.mp z
            exact absurd hgr (Nat.not_le.mpr z2)
        · rintro σ' H17 ⟨y13, y14, y15, rfl, e17⟩
          have okz : ShOk c m 0 := ⟨hc1, hc20, hm1, hm60, hm1⟩
          have ok1 : ShOk 1 m far := ⟨by decide, by decide, hm1, hm60, hfl⟩
          have sz : shTop c m 0 = 1 ∧ shBot c m 0 = 1 := by
            have := low_same hpos
            unfold topOf botOf at this
            unfold shTop shBot
            rw [sum_zero hm1]
            exact this
          have s1 : shTop 1 m far = 1 ∧ shBot 1 m far = 1 := by
            unfold shTop shBot
            rw [sum_ones hfl, Nat.one_pow]
            decide +kernel
          have neU : ∀ {c m far : Nat} {tc tm tf : TE} {σ : L2.St} {H : Hp}, Ev tc σ H (vN c) → Ev tm σ H (vN m) → Ev tf σ H (vN far) → ShOk c m far → shTop c m far = 1 → shBot c m far = 1 → Ev (tOp (rNeD K) (tCall sp_share [] E (tCons tc (tCons tm (tCons tf tNil)))) (tTup (tCons (tC (vN 1)) (tCons (tC (vN 1)) tNil)))) σ H (.bl false) := fun {c m far tc tm tf σ H} h1 h2 h3 ok ht hb =>
            ev_to (ev_neD (K := K) (d := .tuple [.int ((1 : Nat) : Int), .int ((1 : Nat) : Int)]) (d' := .tuple [.int ((1 : Nat) : Int), .int ((1 : Nat) : Int)]) (en_u2 (eu_call (xs := [vN 1, vN 1]) (ea_cons h1 (ea_cons h2 (ea_cons h3 ea_nil))) (by have := su_share (H := H) ok; rw [ht, hb] at this; exact this))).toD
              (en_tup (ena_cons (en_N ev_c) (ena_cons (en_N ev_c) ena_nil)) (show 2 ≤ 100000 by decide)).toD (shT2 _ _) (shT2 _ _)) (by rw [reflT2]; rfl)
          refine q_when (b := false) (evT_to (et_or (a := false) (et_test (neU (ev_var rfl) (ev_var rfl) ev_c okz sz.1 sz.2)) fun _ => et_test (neU ev_c (ev_var rfl) (ev_var rfl) ok1 s1.1 s1.2)) rfl) (fun z => nomatch z) fun _ H18 e18 => ?_
          refine s_when (b := false) (evT_to (et_test (ev_neD (K := K) (en_Ns (l := List.replicate (m - 1) 0) (el_to (el_slN (K := K) (el_call (ea_cons (ev_var rfl) (ea_cons (ev_var rfl) (ea_cons ev_c ea_nil))) (sl_meetings okz)) (eo_some ev_c) eo_none) ?_)).toD (en_Ns (l := List.replicate (m - 1) 0) (el_to (el_rep (k := m - 1) (el_lst (ea_cons ev_c ea_nil) (show 1 ≤ 100000 by decide)) (ev_to (ev_op (ev_var rfl) ev_c rv_I0) ?_) (show 1 * (m - 1) ≤ 100000 by omega) (by omega)) ?_)).toD (shN _) (shN _))) (by rw [reflN]; rfl)) (fun z => nomatch z) fun _ H19 e19 => ⟨_, _, _, _, _, _, _, _, _, _, _, _, _, _, _, rfl, ((((ex14.trans e15).trans e16).trans e17).trans e18).trans e19⟩
          · rw [show (1 : Int) = ((1 : Nat) : Int) from rfl, cut_from]
            obtain ⟨m', rfl⟩ : ∃ m', m = m' + 1 := ⟨m - 1, by omega⟩
            rw [meetL_zero]
            rfl
          · show V.int _ = V.int _
            congr 1
            omega
          · show (List.replicate (m - 1) [vN 0]).flatten = (List.replicate (m - 1) 0).map vN
            rw [List.map_replicate]
            exact List.flatten_replicate_singleton
    · rintro σ' H1 ⟨y1, y2, y3, y4, y5, y6, y7, y8, y9, y10, y11, y12, y13, y14, y15, rfl, e1⟩
      exact s_ret (ev_call ea_nil sv_outright) fun H2 e2 => q H2
end

theorem all_mk {l : PySem.W.OpenLaw} {w : World} {K : PySem.W.Frag} {h : Heap} {mg : Str → Option Value} {fa : Addr} (X : K.In h) (G : h.Ns mainGlobals mg) (hfa : mg "law" = some (.ref fa))
    {f_is_whole : Addr} {od0 an0 : Option Addr} {sl0 : Array (Option Value)} {oc0 kV0 dc0 pm0 cd0 ct0 : Value}
    (a0 : PySem.W.nsIn K mainGlobals "is_whole" = some (some (.ref f_is_whole)))
    (l0 : K.lookup f_is_whole = some ⟨oc0, od0, .func (PySem.W.fnOf "is_whole" "is_whole" (defArgs s_is_whole) (defBody s_is_whole) (defScope s_is_whole) .none kV0 dc0 pm0 an0 cd0 ct0), sl0⟩)
    (c0 : PySem.W.codeIn K cd0 "is_whole" = true) (k0 : PySem.W.keepIn K (.ref f_is_whole) = true)
    {f_check_count : Addr} {od1 an1 : Option Addr} {sl1 : Array (Option Value)} {oc1 kV1 dc1 pm1 cd1 ct1 : Value}
    (a1 : PySem.W.nsIn K mainGlobals "check_count" = some (some (.ref f_check_count)))
    (l1 : K.lookup f_check_count = some ⟨oc1, od1, .func (PySem.W.fnOf "check_count" "check_count" (defArgs s_check_count) (defBody s_check_count) (defScope s_check_count) .none kV1 dc1 pm1 an1 cd1 ct1), sl1⟩)
    (c1 : PySem.W.codeIn K cd1 "check_count" = true) (k1 : PySem.W.keepIn K (.ref f_check_count) = true)
    {f_check_far : Addr} {od2 an2 : Option Addr} {sl2 : Array (Option Value)} {oc2 kV2 dc2 pm2 cd2 ct2 : Value}
    (a2 : PySem.W.nsIn K mainGlobals "check_far" = some (some (.ref f_check_far)))
    (l2 : K.lookup f_check_far = some ⟨oc2, od2, .func (PySem.W.fnOf "check_far" "check_far" (defArgs s_check_far) (defBody s_check_far) (defScope s_check_far) .none kV2 dc2 pm2 an2 cd2 ct2), sl2⟩)
    (c2 : PySem.W.codeIn K cd2 "check_far" = true) (k2 : PySem.W.keepIn K (.ref f_check_far) = true)
    {f_power : Addr} {od3 an3 : Option Addr} {sl3 : Array (Option Value)} {oc3 kV3 dc3 pm3 cd3 ct3 : Value}
    (a3 : PySem.W.nsIn K mainGlobals "power" = some (some (.ref f_power)))
    (l3 : K.lookup f_power = some ⟨oc3, od3, .func (PySem.W.fnOf "power" "power" (defArgs s_power) (defBody s_power) (defScope s_power) .none kV3 dc3 pm3 an3 cd3 ct3), sl3⟩)
    (c3 : PySem.W.codeIn K cd3 "power" = true) (k3 : PySem.W.keepIn K (.ref f_power) = true)
    {f_states : Addr} {od4 an4 : Option Addr} {sl4 : Array (Option Value)} {oc4 kV4 dc4 pm4 cd4 ct4 : Value}
    (a4 : PySem.W.nsIn K mainGlobals "states" = some (some (.ref f_states)))
    (l4 : K.lookup f_states = some ⟨oc4, od4, .func (PySem.W.fnOf "states" "states" (defArgs s_states) (defBody s_states) (defScope s_states) .none kV4 dc4 pm4 an4 cd4 ct4), sl4⟩)
    (c4 : PySem.W.codeIn K cd4 "states" = true) (k4 : PySem.W.keepIn K (.ref f_states) = true)
    {f_meetings_of : Addr} {od5 an5 : Option Addr} {sl5 : Array (Option Value)} {oc5 kV5 dc5 pm5 cd5 ct5 : Value}
    (a5 : PySem.W.nsIn K mainGlobals "meetings_of" = some (some (.ref f_meetings_of)))
    (l5 : K.lookup f_meetings_of = some ⟨oc5, od5, .func (PySem.W.fnOf "meetings_of" "meetings_of" (defArgs s_meetings_of) (defBody s_meetings_of) (defScope s_meetings_of) .none kV5 dc5 pm5 an5 cd5 ct5), sl5⟩)
    (c5 : PySem.W.codeIn K cd5 "meetings_of" = true) (k5 : PySem.W.keepIn K (.ref f_meetings_of) = true)
    {f_check_all : Addr} {od6 an6 : Option Addr} {sl6 : Array (Option Value)} {oc6 kV6 dc6 pm6 cd6 ct6 : Value}
    (a6 : PySem.W.nsIn K mainGlobals "check_all" = some (some (.ref f_check_all)))
    (l6 : K.lookup f_check_all = some ⟨oc6, od6, .func (PySem.W.fnOf "check_all" "check_all" (defArgs s_check_all) (defBody s_check_all) (defScope s_check_all) .none kV6 dc6 pm6 an6 cd6 ct6), sl6⟩)
    (c6 : PySem.W.codeIn K cd6 "check_all" = true) (k6 : PySem.W.keepIn K (.ref f_check_all) = true)
    {f_meetings : Addr} {od7 an7 : Option Addr} {sl7 : Array (Option Value)} {oc7 kV7 dc7 pm7 cd7 ct7 : Value}
    (a7 : PySem.W.nsIn K mainGlobals "meetings" = some (some (.ref f_meetings)))
    (l7 : K.lookup f_meetings = some ⟨oc7, od7, .func (PySem.W.fnOf "meetings" "meetings" (defArgs s_meetings) (defBody s_meetings) (defScope s_meetings) .none kV7 dc7 pm7 an7 cd7 ct7), sl7⟩)
    (c7 : PySem.W.codeIn K cd7 "meetings" = true) (k7 : PySem.W.keepIn K (.ref f_meetings) = true)
    {f_common : Addr} {od8 an8 : Option Addr} {sl8 : Array (Option Value)} {oc8 kV8 dc8 pm8 cd8 ct8 : Value}
    (a8 : PySem.W.nsIn K mainGlobals "common" = some (some (.ref f_common)))
    (l8 : K.lookup f_common = some ⟨oc8, od8, .func (PySem.W.fnOf "common" "common" (defArgs s_common) (defBody s_common) (defScope s_common) .none kV8 dc8 pm8 an8 cd8 ct8), sl8⟩)
    (c8 : PySem.W.codeIn K cd8 "common" = true) (k8 : PySem.W.keepIn K (.ref f_common) = true)
    {f_share : Addr} {od9 an9 : Option Addr} {sl9 : Array (Option Value)} {oc9 kV9 dc9 pm9 cd9 ct9 : Value}
    (a9 : PySem.W.nsIn K mainGlobals "share" = some (some (.ref f_share)))
    (l9 : K.lookup f_share = some ⟨oc9, od9, .func (PySem.W.fnOf "share" "share" (defArgs s_share) (defBody s_share) (defScope s_share) .none kV9 dc9 pm9 an9 cd9 ct9), sl9⟩)
    (c9 : PySem.W.codeIn K cd9 "share" = true) (k9 : PySem.W.keepIn K (.ref f_share) = true)
    {f__law_cell_at : Addr} {od10 an10 : Option Addr} {sl10 : Array (Option Value)} {oc10 kV10 dc10 pm10 cd10 ct10 : Value}
    (a10 : PySem.W.nsIn K mainGlobals "_law_cell_at" = some (some (.ref f__law_cell_at)))
    (l10 : K.lookup f__law_cell_at = some ⟨oc10, od10, .func (PySem.W.fnOf "_law_cell_at" "_law_cell_at" (defArgs s__law_cell_at) (defBody s__law_cell_at) (defScope s__law_cell_at) .none kV10 dc10 pm10 an10 cd10 ct10), sl10⟩)
    (c10 : PySem.W.codeIn K cd10 "_law_cell_at" = true) (k10 : PySem.W.keepIn K (.ref f__law_cell_at) = true)
    {f__law_draw : Addr} {od11 an11 : Option Addr} {sl11 : Array (Option Value)} {oc11 kV11 dc11 pm11 cd11 ct11 : Value}
    (a11 : PySem.W.nsIn K mainGlobals "_law_draw" = some (some (.ref f__law_draw)))
    (l11 : K.lookup f__law_draw = some ⟨oc11, od11, .func (PySem.W.fnOf "_law_draw" "_law_draw" (defArgs s__law_draw) (defBody s__law_draw) (defScope s__law_draw) .none kV11 dc11 pm11 an11 cd11 ct11), sl11⟩)
    (c11 : PySem.W.codeIn K cd11 "_law_draw" = true) (k11 : PySem.W.keepIn K (.ref f__law_draw) = true)
    {f__law_number : Addr} {od12 an12 : Option Addr} {sl12 : Array (Option Value)} {oc12 kV12 dc12 pm12 cd12 ct12 : Value}
    (a12 : PySem.W.nsIn K mainGlobals "_law_number" = some (some (.ref f__law_number)))
    (l12 : K.lookup f__law_number = some ⟨oc12, od12, .func (PySem.W.fnOf "_law_number" "_law_number" (defArgs s__law_number) (defBody s__law_number) (defScope s__law_number) .none kV12 dc12 pm12 an12 cd12 ct12), sl12⟩)
    (c12 : PySem.W.codeIn K cd12 "_law_number" = true) (k12 : PySem.W.keepIn K (.ref f__law_number) = true)
    {f__law_whole : Addr} {od13 an13 : Option Addr} {sl13 : Array (Option Value)} {oc13 kV13 dc13 pm13 cd13 ct13 : Value}
    (a13 : PySem.W.nsIn K mainGlobals "_law_whole" = some (some (.ref f__law_whole)))
    (l13 : K.lookup f__law_whole = some ⟨oc13, od13, .func (PySem.W.fnOf "_law_whole" "_law_whole" (defArgs s__law_whole) (defBody s__law_whole) (defScope s__law_whole) .none kV13 dc13 pm13 an13 cd13 ct13), sl13⟩)
    (c13 : PySem.W.codeIn K cd13 "_law_whole" = true) (k13 : PySem.W.keepIn K (.ref f__law_whole) = true)
    {f__law_step : Addr} {od14 an14 : Option Addr} {sl14 : Array (Option Value)} {oc14 kV14 dc14 pm14 cd14 ct14 : Value}
    (a14 : PySem.W.nsIn K mainGlobals "_law_step" = some (some (.ref f__law_step)))
    (l14 : K.lookup f__law_step = some ⟨oc14, od14, .func (PySem.W.fnOf "_law_step" "_law_step" (defArgs s__law_step) (defBody s__law_step) (defScope s__law_step) .none kV14 dc14 pm14 an14 cd14 ct14), sl14⟩)
    (c14 : PySem.W.codeIn K cd14 "_law_step" = true) (k14 : PySem.W.keepIn K (.ref f__law_step) = true)
    {f__law_outright : Addr} {od15 an15 : Option Addr} {sl15 : Array (Option Value)} {oc15 kV15 dc15 pm15 cd15 ct15 : Value}
    (a15 : PySem.W.nsIn K mainGlobals "_law_outright" = some (some (.ref f__law_outright)))
    (l15 : K.lookup f__law_outright = some ⟨oc15, od15, .func (PySem.W.fnOf "_law_outright" "_law_outright" (defArgs s__law_outright) (defBody s__law_outright) (defScope s__law_outright) .none kV15 dc15 pm15 an15 cd15 ct15), sl15⟩)
    (c15 : PySem.W.codeIn K cd15 "_law_outright" = true) (k15 : PySem.W.keepIn K (.ref f__law_outright) = true)
    {f_law : Addr} {od16 an16 : Option Addr} {sl16 : Array (Option Value)} {oc16 kV16 dc16 pm16 cd16 ct16 : Value}
    (a16 : PySem.W.nsIn K mainGlobals "law" = some (some (.ref f_law)))
    (l16 : K.lookup f_law = some ⟨oc16, od16, .func (PySem.W.fnOf "law" "law" (defArgs s_law) (defBody s_law) (defScope s_law) .none kV16 dc16 pm16 an16 cd16 ct16), sl16⟩)
    (c16 : PySem.W.codeIn K cd16 "law" = true) (k16 : PySem.W.keepIn K (.ref f_law) = true)
    {t_LONGEST : Tok} (h_LONGEST : PySem.W.nsIn K mainGlobals "LONGEST" = some (some (.int 60 t_LONGEST)))
    {t_GREATEST : Tok} (h_GREATEST : PySem.W.nsIn K mainGlobals "GREATEST" = some (some (.int 20 t_GREATEST)))
    (z_abs : PySem.W.nsIn K mainGlobals "abs" = some none)
    (z_all : PySem.W.nsIn K mainGlobals "all" = some none)
    (z_any : PySem.W.nsIn K mainGlobals "any" = some none)
    (z_bool : PySem.W.nsIn K mainGlobals "bool" = some none)
    (z_int : PySem.W.nsIn K mainGlobals "int" = some none)
    (z_isinstance : PySem.W.nsIn K mainGlobals "isinstance" = some none)
    (z_len : PySem.W.nsIn K mainGlobals "len" = some none)
    (z_list : PySem.W.nsIn K mainGlobals "list" = some none)
    (z_max : PySem.W.nsIn K mainGlobals "max" = some none)
    (z_min : PySem.W.nsIn K mainGlobals "min" = some none)
    (z_range : PySem.W.nsIn K mainGlobals "range" = some none)
    (z_sorted : PySem.W.nsIn K mainGlobals "sorted" = some none)
    (z_sum : PySem.W.nsIn K mainGlobals "sum" = some none)
    : ∃ fd : FuncData, (∀ (s : Shared) (v : Value), BindsTo s fd ⟨[v], []⟩ [("_law_script", v)]) ∧ ∀ base : Heap, K.In base → base.Ns mainGlobals mg → FnOk l.prog w K mg base CX0 6 fa fd ["_law_script"] (sp_law K) := by
  have e := hfa.symm.trans (PySem.W.mg_of X G a16)
  cases e
  have F0 := fun_mk (st := s_is_whole) l0 c0 k0
  have b0 := F0.binds (ps := ["thing"]) fun _ _ _ _ _ _ us hl => match us, hl with | [_], _ => rfl
  have F1 := fun_mk (st := s_check_count) l1 c1 k1
  have b1 := F1.binds (ps := ["count", "least", "most"]) fun _ _ _ _ _ _ us hl => match us, hl with | [_, _, _], _ => rfl
  have F2 := fun_mk (st := s_check_far) l2 c2 k2
  have b2 := F2.binds (ps := ["many", "far"]) fun _ _ _ _ _ _ us hl => match us, hl with | [_, _], _ => rfl
  have F3 := fun_mk (st := s_power) l3 c3 k3
  have b3 := F3.binds (ps := ["number", "many"]) fun _ _ _ _ _ _ us hl => match us, hl with | [_, _], _ => rfl
  have F4 := fun_mk (st := s_states) l4 c4 k4
  have b4 := F4.binds (ps := ["cards", "many", "far"]) fun _ _ _ _ _ _ us hl => match us, hl with | [_, _, _], _ => rfl
  have F5 := fun_mk (st := s_meetings_of) l5 c5 k5
  have b5 := F5.binds (ps := ["cards", "many", "far"]) fun _ _ _ _ _ _ us hl => match us, hl with | [_, _, _], _ => rfl
  have F6 := fun_mk (st := s_check_all) l6 c6 k6
  have b6 := F6.binds (ps := ["cards", "many", "far"]) fun _ _ _ _ _ _ us hl => match us, hl with | [_, _, _], _ => rfl
  have F7 := fun_mk (st := s_meetings) l7 c7 k7
  have b7 := F7.binds (ps := ["cards", "many", "far"]) fun _ _ _ _ _ _ us hl => match us, hl with | [_, _, _], _ => rfl
  have F8 := fun_mk (st := s_common) l8 c8 k8
  have b8 := F8.binds (ps := ["one", "other"]) fun _ _ _ _ _ _ us hl => match us, hl with | [_, _], _ => rfl
  have F9 := fun_mk (st := s_share) l9 c9 k9
  have b9 := F9.binds (ps := ["cards", "many", "far"]) fun _ _ _ _ _ _ us hl => match us, hl with | [_, _, _], _ => rfl
  have F10 := fun_mk (st := s__law_cell_at) l10 c10 k10
  have b10 := F10.binds (ps := ["_law_script", "_law_k"]) fun _ _ _ _ _ _ us hl => match us, hl with | [_, _], _ => rfl
  have F11 := fun_mk (st := s__law_draw) l11 c11 k11
  have b11 := F11.binds (ps := ["_law_cell", "_law_k", "_law_most"]) fun _ _ _ _ _ _ us hl => match us, hl with | [_, _, _], _ => rfl
  have F12 := fun_mk (st := s__law_number) l12 c12 k12
  have b12 := F12.binds (ps := ["_law_cell", "_law_k", "_law_limit"]) fun _ _ _ _ _ _ us hl => match us, hl with | [_, _, _], _ => rfl
  have F13 := fun_mk (st := s__law_whole) l13 c13 k13
  have b13 := F13.binds (ps := ["_law_found"]) fun _ _ _ _ _ _ us hl => match us, hl with | [_], _ => rfl
  have F14 := fun_mk (st := s__law_step) l14 c14 k14
  have b14 := F14.binds (ps := ["_law_cards", "_law_many", "_law_far"]) fun _ _ _ _ _ _ us hl => match us, hl with | [_, _, _], _ => rfl
  have F15 := fun_mk (st := s__law_outright) l15 c15 k15
  have b15 := F15.binds (ps := []) fun _ _ _ _ _ _ us hl => match us, hl with | [], _ => rfl
  have F16 := fun_mk (st := s_law) l16 c16 k16
  have b16 := F16.binds (ps := ["_law_script"]) fun _ _ _ _ _ _ us hl => match us, hl with | [_], _ => rfl
  let T : Tx K mg := { f_is_whole := f_is_whole, d_is_whole := _, F_is_whole := F0, b_is_whole := b0, m_is_whole := PySem.W.mg_of X G a0, f_check_count := f_check_count, d_check_count := _, F_check_count := F1, b_check_count := b1, m_check_count := PySem.W.mg_of X G a1, f_check_far := f_check_far, d_check_far := _, F_check_far := F2, b_check_far := b2, m_check_far := PySem.W.mg_of X G a2, f_power := f_power, d_power := _, F_power := F3, b_power := b3, m_power := PySem.W.mg_of X G a3, f_states := f_states, d_states := _, F_states := F4, b_states := b4, m_states := PySem.W.mg_of X G a4, f_meetings_of := f_meetings_of, d_meetings_of := _, F_meetings_of := F5, b_meetings_of := b5, m_meetings_of := PySem.W.mg_of X G a5, f_check_all := f_check_all, d_check_all := _, F_check_all := F6, b_check_all := b6, m_check_all := PySem.W.mg_of X G a6, f_meetings := f_meetings, d_meetings := _, F_meetings := F7, b_meetings := b7, m_meetings := PySem.W.mg_of X G a7, f_common := f_common, d_common := _, F_common := F8, b_common := b8, m_common := PySem.W.mg_of X G a8, f_share := f_share, d_share := _, F_share := F9, b_share := b9, m_share := PySem.W.mg_of X G a9, f__law_cell_at := f__law_cell_at, d__law_cell_at := _, F__law_cell_at := F10, b__law_cell_at := b10, m__law_cell_at := PySem.W.mg_of X G a10, f__law_draw := f__law_draw, d__law_draw := _, F__law_draw := F11, b__law_draw := b11, m__law_draw := PySem.W.mg_of X G a11, f__law_number := f__law_number, d__law_number := _, F__law_number := F12, b__law_number := b12, m__law_number := PySem.W.mg_of X G a12, f__law_whole := f__law_whole, d__law_whole := _, F__law_whole := F13, b__law_whole := b13, m__law_whole := PySem.W.mg_of X G a13, f__law_step := f__law_step, d__law_step := _, F__law_step := F14, b__law_step := b14, m__law_step := PySem.W.mg_of X G a14, f__law_outright := f__law_outright, d__law_outright := _, F__law_outright := F15, b__law_outright := b15, m__law_outright := PySem.W.mg_of X G a15, f_law := fa, d_law := _, F_law := F16, b_law := b16, m_law := PySem.W.mg_of X G a16, c_LONGEST := ⟨t_LONGEST, PySem.W.mg_of X G h_LONGEST⟩, c_GREATEST := ⟨t_GREATEST, PySem.W.mg_of X G h_GREATEST⟩, z_abs := PySem.W.mg_none_of X G z_abs, z_all := PySem.W.mg_none_of X G z_all, z_any := PySem.W.mg_none_of X G z_any, z_bool := PySem.W.mg_none_of X G z_bool, z_int := PySem.W.mg_none_of X G z_int, z_isinstance := PySem.W.mg_none_of X G z_isinstance, z_len := PySem.W.mg_none_of X G z_len, z_list := PySem.W.mg_none_of X G z_list, z_max := PySem.W.mg_none_of X G z_max, z_min := PySem.W.mg_none_of X G z_min, z_range := PySem.W.mg_none_of X G z_range, z_sorted := PySem.W.mg_none_of X G z_sorted, z_sum := PySem.W.mg_none_of X G z_sum }
  exact ⟨_, fun s v => .of_eq rfl, fun base _ _ => ok_law T⟩
end Rt
open PySem PySem.W PyProof.Rows
set_option maxRecDepth 100000 in
set_option maxHeartbeats 0 in
theorem PySem.Challenge.cw_runtogether_k06_whole_great_shares_holds : PySem.Challenge.rw_runtogether_k06_whole_great_shares.Holds := by
  w_on; o_law; k_head; (case hw => w_witness2)
  k_fill
  refine L2.walk_ofB (l := PySem.Challenge.rw_runtogether_k06_whole_great_shares) (n := 63) (k := 6) (x := "_law_script") (CX := fun _ => L2.CX0) (sp := fun w => Rt.sp_law _) rfl (by decide) rfl ⟨rfl, by decide, by decide⟩ (fun w h Y => PySem.W.kIn_of Y) ?F (fun _ _ a ns hl hb _ hS => ⟨a, ns, rfl, hS, hl, hb, fun _ => rfl⟩) (fun _ _ _ _ _ h => h)
  case F =>
    intro w mg fa h KX G hmg
    refine' Rt.all_mk KX G hmg ?a0 ?l0 ?c0 ?k0 ?a1 ?l1 ?c1 ?k1 ?a2 ?l2 ?c2 ?k2 ?a3 ?l3 ?c3 ?k3 ?a4 ?l4 ?c4 ?k4 ?a5 ?l5 ?c5 ?k5 ?a6 ?l6 ?c6 ?k6 ?a7 ?l7 ?c7 ?k7 ?a8 ?l8 ?c8 ?k8 ?a9 ?l9 ?c9 ?k9 ?a10 ?l10 ?c10 ?k10 ?a11 ?l11 ?c11 ?k11 ?a12 ?l12 ?c12 ?k12 ?a13 ?l13 ?c13 ?k13 ?a14 ?l14 ?c14 ?k14 ?a15 ?l15 ?c15 ?k15 ?a16 ?l16 ?c16 ?k16 ?h_LONGEST ?h_GREATEST ?z_abs ?z_all ?z_any ?z_bool ?z_int ?z_isinstance ?z_len ?z_list ?z_max ?z_min ?z_range ?z_sorted ?z_sum
    (case a0 => k_is); (case l0 => k_is); (case c0 => k_is); (case k0 => k_is); (case a1 => k_is); (case l1 => k_is); (case c1 => k_is); (case k1 => k_is); (case a2 => k_is); (case l2 => k_is); (case c2 => k_is); (case k2 => k_is); (case a3 => k_is); (case l3 => k_is); (case c3 => k_is); (case k3 => k_is); (case a4 => k_is); (case l4 => k_is); (case c4 => k_is); (case k4 => k_is); (case a5 => k_is); (case l5 => k_is); (case c5 => k_is); (case k5 => k_is); (case a6 => k_is); (case l6 => k_is); (case c6 => k_is); (case k6 => k_is); (case a7 => k_is); (case l7 => k_is); (case c7 => k_is); (case k7 => k_is); (case a8 => k_is); (case l8 => k_is); (case c8 => k_is); (case k8 => k_is); (case a9 => k_is); (case l9 => k_is); (case c9 => k_is); (case k9 => k_is); (case a10 => k_is); (case l10 => k_is); (case c10 => k_is); (case k10 => k_is); (case a11 => k_is); (case l11 => k_is); (case c11 => k_is); (case k11 => k_is); (case a12 => k_is); (case l12 => k_is); (case c12 => k_is); (case k12 => k_is); (case a13 => k_is); (case l13 => k_is); (case c13 => k_is); (case k13 => k_is); (case a14 => k_is); (case l14 => k_is); (case c14 => k_is); (case k14 => k_is); (case a15 => k_is); (case l15 => k_is); (case c15 => k_is); (case k15 => k_is); (case a16 => k_is); (case l16 => k_is); (case c16 => k_is); (case k16 => k_is); (case h_LONGEST => k_is); (case h_GREATEST => k_is); (case z_abs => k_is); (case z_all => k_is); (case z_any => k_is); (case z_bool => k_is); (case z_int => k_is); (case z_isinstance => k_is); (case z_len => k_is); (case z_list => k_is); (case z_max => k_is); (case z_min => k_is); (case z_range => k_is); (case z_sorted => k_is); (case z_sum => k_is)
