import PyProof.Rows.All
import Wide.All
import OpenK.AllK
import Wide.FinOn
import PyProof.EqAt
import PyProof.EqKinds
import PyProof.TupleCall
import HandS.ForMost
import HandS.Evl
import HandS.IsInst
import HandS.Wide
import HandS.EndBits
import HandS.SortInts
import HandS.More
import HandS.Conv
import HandS.Style
import HandS.SetFor
import HandS.Strs
import HandS.ForExc
import HandS.ExcIs
import PySem.Challenge.RW_runtogether_k09_promises_by_hand
set_option Elab.async false
set_option linter.all false
set_option maxRecDepth 100000
set_option maxHeartbeats 4000000

/-! Rules of my own over the hand layer: great products, texts of data, defs that are called where no repr is under way. -/
namespace Rt
open PySem PySem.Spec PyProof.Rows L2 Evl
section
variable {X : Cx}
/-- a product of any two ints whose bits are within the model's line -/
theorem op_mulX : OpR X (binaryOp .Mult) (rI IntMulOk fun i j => .int (i * j)) :=
  opI fun _ _ _ _ _ _ _ hc q => mul_int q hc
end
theorem bits_le (i : Int) : Builtin.Int.intBits i ≤ i.natAbs.log2 + 1 := by
  unfold Builtin.Int.intBits
  split <;> omega
theorem mulok_bits {i j : Int} (h : Builtin.Int.intBits i + Builtin.Int.intBits j ≤ 134217728) : IntMulOk i j := by
  unfold IntMulOk
  intro z
  rw [Bool.and_eq_true] at z
  have z2 := z.2
  unfold Builtin.Int.intTooBig at z2
  have z3 := of_decide_eq_true z2
  have e : bitsLine = 134217728 := by decide
  rw [e] at z3
  omega
theorem mulok_left {i j : Int} (h0 : -(2 ^ 64) < i) (h1 : i < 2 ^ 64) : IntMulOk i j := CMul.ok (.inl ⟨h0, h1⟩)
theorem mulok_right {i j : Int} (h0 : -(2 ^ 64) < j) (h1 : j < 2 ^ 64) : IntMulOk i j := CMul.ok (.inr ⟨h0, h1⟩)
theorem bits_of_lt {i : Int} {n : Nat} (h : i.natAbs < 2 ^ n) : Builtin.Int.intBits i ≤ n := by
  unfold Builtin.Int.intBits
  split
  · omega
  · rename_i hz
    have h0 : i.natAbs ≠ 0 := by
      intro e
      apply hz
      have : i = 0 := by omega
      simp [this]
    have := (Nat.log2_lt h0).mpr h
    omega
theorem lt_of_bits {i : Int} {n : Nat} (h : Builtin.Int.intBits i ≤ n) : i.natAbs < 2 ^ n := by
  by_cases hz : i = 0
  · subst hz
    exact Nat.two_pow_pos n
  · have h0 : i.natAbs ≠ 0 := by omega
    unfold Builtin.Int.intBits at h
    rw [if_neg (by simpa using hz)] at h
    exact (Nat.log2_lt h0).mp (by omega)
theorem bits_add {i j : Int} {n : Nat} (hi : Builtin.Int.intBits i ≤ n) (hj : Builtin.Int.intBits j ≤ n) : Builtin.Int.intBits (i + j) ≤ n + 1 := by
  have a := lt_of_bits hi
  have b := lt_of_bits hj
  refine bits_of_lt ?_
  rw [Nat.pow_succ]
  omega
theorem bits_mul {i j : Int} {n m : Nat} (hi : Builtin.Int.intBits i ≤ n) (hj : Builtin.Int.intBits j ≤ m) : Builtin.Int.intBits (i * j) ≤ n + m := by
  have a := lt_of_bits hi
  have b := lt_of_bits hj
  refine bits_of_lt ?_
  rw [Int.natAbs_mul, Nat.pow_add]
  exact Nat.mul_lt_mul'' a b
/-! ### str of data -/
def rStrD (K : PySem.W.Frag) : List V → Hp → VK → Prop := fun xs H Q => ∃ (a : Addr) (d : PyData), xs = [.ref a] ∧ Dp K H (.ref a) d ∧ d.showable = true ∧ d.hasDict = false ∧ d.depth ≤ 60 ∧ d.shown.length ≤ sizeLine ∧ Q (.str d.shown) H
theorem call_strD {X : Cx} (hg : X.A.guards = some []) (hu : X.A.units + 64 < cLine) : CallR X (.type "str") (rStrD X.K) := by
  intro pins s σ H xs us Q I r h
  obtain ⟨a, d, rfl, hd, hs, hn, hdep, hl, q⟩ := h
  obtain ⟨u, rfl, ru⟩ := vals1 r
  obtain ⟨as, rd⟩ := Dp.reads I d _ _ hd ru
  cases (show u = Value.ref a from ru)
  exact str_of_reads (h₀ := s.heap) rd hs (fun z => by rw [hn] at z; cases z) hg (by omega) (fun _ _ e => e)
    (fun h' u tk hk => ⟨.str d.shown, H, I.kept (t' := tk) hk, ⟨u, rfl⟩, q⟩) hl
/-! ### defs that are called where no repr is under way -/
structure FnG (P : Program) (w : World) (K : PySem.W.Frag) (mg : Str → Option Value) (base : Heap) (CX : CXT) (k : Nat) (f : Addr) (fd : FuncData) (ps : List Str) (sp : Sp) : Prop where
  ln : ∀ vs H Q E, sp vs H Q E → vs.length = ps.length
  go : ∀ (A : Around) (outer : List Env) (s : Shared) (H : Hp) (args : Args) (us : List Value) (vs : List V) (Q : VK) (E : XK), A.guards = some [] → Room k A →
    Env0 P w K mg base A outer s H → BindsTo s fd args (ps.zip us) → Vals vs us → sp vs H Q E → codeAny (model P w) A (.call (.ref f) args) (CR CX outer P w H s Q E) s
section
variable {P : Program} {w : World} {K : PySem.W.Frag} {mg : Str → Option Value} {base : Heap}
theorem Fun.okG {nm qual : Str} {st : Stmt} {f : Addr} {fd : FuncData} {N ps : List Str} {k : Nat} {sp : Sp} (F : Fun K nm qual st f fd) (S : FnScope N ps (defScope st))
    (ln : ∀ vs H Q E, sp vs H Q E → vs.length = ps.length)
    (hb : ∀ (cv : Value) (A : Around) (outer : List Env) (s : Shared) (H : Hp) (vs : List V) (Q : VK) (E : XK), A.guards = some [] →
      Room k (A.deeper (envOfC qual (defScope st) s.heap.objs.size f cv)) → sp vs H Q E →
      ∃ t, PSs (cxOf CX0 P w K mg base N qual (defScope st) f cv A outer s H E).nox (defBody st) t ∧ t { nx := fun _ H' => Q .non H', rt := Q } (start N vs) H) :
    FnG P w K mg base CX0 (k + 1) f fd ps sp := by
  obtain ⟨oc, od, kV, doc, pm, an, cv, ct, osl, rfl, lk, hcd⟩ := F.ex
  constructor
  · exact ln
  intro A outer s H args us vs Q E hgd room e0 hbd rel hsp
  have hlen := ln _ _ _ _ hsp
  have kept := fun (b : Addr) (o : Obj) (e : base.get? b = some o) => (e0.bs b o e).1
  have KX : K.In s.heap := e0.mod.kin.keeps kept
  have kinds : ∀ y ∈ ps.zip us, (defScope st).names.lookup y.1 = some .local ∨
      ((defScope st).names.lookup y.1 = some .cell ∧ ((cellsFrom (s.heap.objs.size + 1) (defScope st).names []).lookup y.1).isSome = true) := by
    rintro ⟨n, v⟩ hy
    rcases S.par n (List.of_mem_zip hy).1 with z | z
    · exact .inl z
    · exact .inr ⟨z, PySem.W.cellsFrom_some _ _ _ (.inl z)⟩
  refine codeAny_call_function room.depth (KX _ _ lk) rfl S.co S.gen rfl (PySem.W.codeRec_of KX hcd) (hbd _ _ _ _ ?_)
  refine wpAny_newFunctionEnv_cells S.kind kinds ?_
  rintro env rfl s1 inC
  refine ⟨(e0.mod.nolimit.keeps kept).keeps inC.toInCall.keep, codeAny_func ?_⟩
  obtain ⟨t, hd, hq⟩ := hb cv A outer s H vs Q E hgd (room.deeper _) hsp
  have I := inv_start (CX := CX0) (P := P) (w := w) (E := E) S room.hd e0 hlen rel inC
  refine wpAny_mono (hd.nox.run [] s1 (start N vs) H _ I hq) ?_ (fun _ _ z => z)
  intro fl s2 out
  cases fl with
  | next =>
    obtain ⟨_, H2, J, q⟩ := out
    exact ⟨.non, H2, J.os, J.bare, J.base, J.hok, rfl, q⟩
  | ret u =>
    obtain ⟨v, _, H2, J, rv, q⟩ := out
    exact ⟨v, H2, J.os, J.bare, J.base, J.hok, rv, q⟩
  | brk => exact out.elim fun _ z => z.elim fun _ y => y.2.elim
  | cont => exact out.elim fun _ z => z.elim fun _ y => y.2.elim
end
/-- the law's own call, at the caller of the claim: there no repr is under way -/
theorem law_goG {P : Program} {w : World} {K : PySem.W.Frag} {mg mb : Str → Option Value} {k : Nat} {fa a : Addr} {fd : FuncData} {x : Str} {sp : Sp} {s1 : Shared} {vs : List Value} {ns : List Int}
    (KX : K.In s1.heap) (hns : s1.heap.Ns mainGlobals mg) (hbl : s1.heap.Ns builtinsNs mb) (hbb : ∀ y : Str, y ≠ "__name__" → mb y = bootBuiltins y) (lim : s1.heap.NoLimit) (gens : s1.gens = #[])
    (ha : s1.heap.get? a = some { cls := .type "list", data := .seq vs.toArray }) (hi : IntsAre vs ns) (hsz : ns.length ≤ sizeLine) (room : Room k callerA)
    (F : ∀ bs : Heap, K.In bs → bs.Ns mainGlobals mg → FnG P w K mg bs CX0 k fa fd [x] sp) (hbind : ∀ (s : Shared) (u : Value), BindsTo s fd ⟨[u], []⟩ [(x, u)])
    (hsp : ∀ H : Hp, SqL K H a (ns.map V.int) → sp [.ref a] H (fun v _ => v = .bl true) fun _ _ _ => False) :
    codeAny (model P w) callerA (.call (.ref fa) ⟨[.ref a], []⟩) (fun r s2 => r = .ok (.ret (.bool true)) ∧ OldK s1.heap s2.heap ∧ s2.os = s1.os ∧ AllBare s2.gens) s1 := by
  have rel := vals_ints hi
  have lenV := hi.length
  have nil : ∀ b : Addr, b ∉ frs [] := fun b z => by
    have z' : b ∈ ([] : List Addr) := z
    simp at z'
  -- the abstract heap: at most the script, locked
  have main : ∀ H : Hp, (∀ b u, H b = some u → b = a ∧ K.lookup a = none ∧ ∃ o v, u = .frz o v) → HOk P w H s1.heap → SqL K H a (ns.map V.int) →
      codeAny (model P w) callerA (.call (.ref fa) ⟨[.ref a], []⟩) (fun r s2 => r = .ok (.ret (.bool true)) ∧ OldK s1.heap s2.heap ∧ s2.os = s1.os ∧ AllBare s2.gens) s1 := by
    intro H only hok hS
    have free : ∀ {b : Addr} {o : Obj} {es : Array DictEntry} {n : Nat}, s1.heap.get? b = some o → o.data = .dict es n → H b = none := by
      intro b o es n e d
      cases q : H b with
      | none => rfl
      | some u =>
        obtain ⟨rfl, _⟩ := only b u q
        rw [ha] at e
        cases e
        exact nomatch d
    have ns' : ∀ {b : Addr} {m : Str → Option Value}, s1.heap.Ns b m → (hidT s1.heap H).Ns b m := by
      rintro b m ⟨o, es, n, e, d, r⟩
      exact ⟨o, es, n, hidT_get e (free e d), d, r⟩
    have KB : K.In (hidT s1.heap H) := by
      intro b o e
      refine hidT_get (KX b o e) ?_
      cases q : H b with
      | none => rfl
      | some u =>
        obtain ⟨rfl, z, _⟩ := only b u q
        rw [z] at e
        cases e
    have lim' : (hidT s1.heap H).NoLimit := by
      obtain ⟨mc, h1, h2⟩ := lim
      exact ⟨mc, ns' h1, h2⟩
    have e0 : Env0 P w K mg (hidT s1.heap H) callerA [] s1 H :=
      { frames := rfl, mod := ⟨KB, ns' hns, ⟨mb, ns' hbl, hbb⟩, lim'⟩, bs := fun b o e => of_hidT e, bsz := Nat.le_of_eq (hidT_size _ _), funs := trivial,
        frf := fun b hb => absurd hb (nil b), hok := hok, bare := .of_eq gens }
    have run := (F _ KB (ns' hns)).go callerA [] s1 H ⟨[.ref a], []⟩ [.ref a] [.ref a] _ _ rfl room e0 (hbind s1 (.ref a)) (.cons rfl .nil) (hsp H hS)
    refine codeAny_mono run ?_
    intro r s2 out
    rcases r with e | fl
    · exact out.elim
    cases fl with
    | next => exact out.elim
    | brk => exact out.elim
    | cont => exact out.elim
    | ret u =>
      obtain ⟨v, H2, os, bare, un, hok2, rv, rfl⟩ := out
      cases (show u = Value.bool true from rv)
      refine ⟨rfl, OldK.of_keep ?_, os, bare⟩
      intro b o e
      cases q : H b with
      | none => exact un.keep b o e q (nil b) (by simp)
      | some u =>
        obtain ⟨_, _, ob, v, rfl⟩ := only b u q
        have e1 := (hok b _ q).1
        have e2 := (hok2 b _ (un.frzs b ob v q)).1
        rw [e] at e1
        cases e1
        exact e2
  cases hk : K.lookup a with
  | some o =>
    have e := KX a o hk
    rw [ha] at e
    cases e
    refine main (fun _ => none) (fun b u z => nomatch z) (fun b u z => nomatch z) ?_
    exact .inr ⟨_, vs.toArray, _, hk, rfl, rfl, rfl, by rw [List.size_toArray, lenV]; exact hsz, by simpa using rel⟩
  | none =>
    let o1 : Obj := { cls := .type "list", data := .seq vs.toArray }
    have at1 : (fun b => if b = a then some (HO.frz o1 (.lst (ns.map V.int))) else none) a = some (.frz o1 (.lst (ns.map V.int))) := if_pos rfl
    refine main (fun b => if b = a then some (.frz o1 (.lst (ns.map V.int))) else none) ?_ ?_ (.inl (.inr ⟨o1, at1⟩))
    · intro b u z
      by_cases hb : b = a
      · subst hb
        have z' := at1.symm.trans z
        cases z'
        exact ⟨rfl, hk, _, _, rfl⟩
      · have z' := (if_neg hb).symm.trans z
        cases z'
    · intro b u z
      by_cases hb : b = a
      · subst hb
        have z' := at1.symm.trans z
        cases z'
        exact ⟨ha, by rw [List.length_map]; exact hsz, vs, _, rel, ha⟩
      · have z' := (if_neg hb).symm.trans z
        cases z'
theorem walk_ofG {l : PySem.W.OpenLaw} {n k : Nat} {q : Program} {loose : List Str} {XP : (Str → Option Value) → Heap → Prop} {YP : World → Heap → Prop} {d : DefRec} {KK : Params → PySem.W.Frag} {sp : World → Sp} {x : Str}
    (hn : l.most = some n) (hn2 : n ≤ sizeLine) (hdf : d.params.defaults = []) (room : Room k callerA)
    (hY : ∀ (w : World) (h : Heap), YP w h → (KK w.params).In h)
    (F : ∀ (w : World) (mg : Str → Option Value) (fa : Addr) (h : Heap), (KK w.params).In h → h.Ns mainGlobals mg → mg d.name = some (.ref fa) →
      ∃ fd : FuncData, (∀ (s : Shared) (u : Value), BindsTo s fd ⟨[u], []⟩ [(x, u)]) ∧
        ∀ bs : Heap, (KK w.params).In bs → bs.Ns mainGlobals mg → FnG l.prog w (KK w.params) mg bs CX0 k fa fd [x] (sp w))
    (hsp : ∀ (w : World) (H : Hp) (a : Addr) (ns : List Int), ns.length ≤ n → (∀ z ∈ ns, Builtin.Int.intBits z ≤ 1048576) → SqL (KK w.params) H a (ns.map V.int) →
      sp w [.ref a] H (fun v _ => v = .bl true) fun _ _ _ => False) :
    PySem.W.WalkO q loose XP YP l.row.toRowW d [] (fun f vs => PySem.call f vs) := by
  refine Att.attach_callB hn hdf ?_
  intro w s0 s1 mg mb fa o pm cd doc a vs ns G Y _ _ _ hmg hobj hints hlen hbits hg
  obtain ⟨fd, hb, hF⟩ := F w mg fa _ (hY w _ Y) G.T.g hmg
  exact law_goG (hY w _ Y) G.T.g G.T.b G.T.builtins G.T.nolimit hg hobj hints (Nat.le_trans hlen hn2) room hF hb fun H hS => hsp w H a ns hlen hbits hS
/-! ### isinstance of own classes -/
theorem kit_cls {K : PySem.W.Frag} {C D : Addr} {b : Bool} (h1 : PySem.W.isClsIn K D = true) (h2 : PySem.W.typeIn K (.ref D) = some (.type "type")) (h3 : PySem.W.subIn K (.ref C) (.ref D) = some b) : PySem.W.kitCls K (.ref C) (.ref D) = some b := by
  have e : ((PySem.W.clsIn K D).isSome && PySem.W.typeIn K (.ref D) == some (.type "type")) = true := by
    have h1' : (PySem.W.clsIn K D).isSome = true := h1
    rw [h1', h2]
    rfl
  show (if ((PySem.W.clsIn K D).isSome && PySem.W.typeIn K (.ref D) == some (.type "type")) = true then PySem.W.subIn K (.ref C) (.ref D) else none) = some b
  rw [if_pos e]
  exact h3
theorem kit_true {K : PySem.W.Frag} {C D : Addr} (h1 : PySem.W.isClsIn K D = true) (h2 : PySem.W.typeIn K (.ref D) = some (.type "type")) (h3 : PySem.W.subIn K (.ref C) (.ref D) = some true) : PySem.W.kitOne K (.ref C) (.ref D) = some true := by
  unfold PySem.W.kitOne
  split
  · rfl
  · exact kit_cls h1 h2 h3
theorem kit_false {K : PySem.W.Frag} {C D : Addr} (h1 : PySem.W.isClsIn K D = true) (h2 : PySem.W.typeIn K (.ref D) = some (.type "type")) (h3 : PySem.W.subIn K (.ref C) (.ref D) = some false) (h4 : PySem.W.subIn K (.ref C) (.ref C) = some true) : PySem.W.kitOne K (.ref C) (.ref D) = some false := by
  unfold PySem.W.kitOne
  split
  · rename_i e
    have e' : Value.ref C = Value.ref D := eq_of_beq e
    rw [← e', h4] at h3
    cases h3
  · exact kit_cls h1 h2 h3
end Rt

/-! Further evaluations over HandS.Evl, and rows of cards in plain Lean. -/
namespace Rt
open PySem PySem.Spec PyProof.Rows L2 Evl
/-! ### values -/
def vN (n : Nat) : V := .int (n : Int)
def vNs (l : List Nat) : List V := l.map vN
theorem vNs_len (l : List Nat) : (vNs l).length = l.length := List.length_map ..
theorem vNs_app (l m : List Nat) : vNs (l ++ m) = vNs l ++ vNs m := List.map_append ..
theorem vNs_get {l : List Nat} {i n : Nat} (h : l[i]? = some n) : (vNs l)[i]? = some (vN n) := by
  unfold vNs
  rw [List.getElem?_map, h]
  rfl
theorem vNs_at {l : List Nat} {i n : Nat} (h : l[i]? = some n) : atI (vNs l) (i : Int) = some (vN n) := atI_nat (vNs_get h)
theorem getD_some {l : List Nat} {i : Nat} (h : i < l.length) : l[i]? = some (l.getD i 0) := by
  rw [List.getD_eq_getElem?_getD, List.getElem?_eq_getElem h]
  rfl
theorem mem_getD {l : List Nat} {i : Nat} (h : i < l.length) : l.getD i 0 ∈ l := List.mem_of_getElem? (getD_some h)
section
variable {K : PySem.W.Frag} {σ : L2.St} {H H' : Hp} {ta tb tc te : TE} {x y z v : V}
theorem tyx_l {a : Addr} {xs : List V} (h : SqL K H a xs) : TyX K H (.ref a) (.type "list") := by
  rcases h with (h | ⟨o, h⟩) | ⟨o, its, n, hk, hc, _⟩
  · exact .base (.lst h)
  · exact .base (.frz h)
  · exact .kList hk hc
/-- isinstance(x, c) -/
theorem ev_isi {c : V} {t u : Value} {b : Bool} (h : Ev ta σ H x) (hc : ClsV c u) (ty : ∀ H1, Ex H H1 → TyX K H1 x t) (hk : PySem.W.kitOne K t u = some b) :
    Ev (tCB (rIsi K) (tCons ta (tCons (tC c) tNil))) σ H (.bl b) := fun H1 e Q q =>
  h H1 e _ fun H2 e2 => ⟨x, c, t, u, b, rfl, hc, ty H2 (e.trans e2), hk, q H2 e2⟩
theorem ev_isiB {n m : String} {b : Bool} (h : Ev ta σ H x) (ty : ∀ H1, Ex H H1 → TyX K H1 x (.type n)) (hk : kitB n m = some b) :
    Ev (tCB (rIsi K) (tCons ta (tCons (tC (.ty m)) tNil))) σ H (.bl b) := ev_isi h (.ty m) ty (kit_ty hk)
theorem tyx_int (i : Int) : TyX K H (.int i) (.type "int") := .base (.int i)
theorem tyx_bl (b : Bool) : TyX K H (.bl b) (.type "bool") := .base (.bl b)
/-- a < b < c -/
theorem ev_chain {r r' : R2} {k b : Bool} (ha : Ev ta σ H x) (hb : Ev tb σ H y) (hr : RV r x y H (.bl k)) (hc : k = true → Ev tc σ H z) (hr' : k = true → RV r' y z H (.bl b)) :
    Ev (tChain r r' ta tb tc) σ H (.bl (k && b)) := fun H1 e Q q =>
  ha H1 e _ fun H2 e2 => hb H2 (e.trans e2) _ fun H3 e3 => hr H3 ((e.trans e2).trans e3) _ fun H4 e4 => ⟨k, rfl, by
    cases k with
    | true =>
      show tc σ H4 _
      exact hc rfl H4 (((e.trans e2).trans e3).trans e4) _ fun H5 e5 => hr' rfl H5 ((((e.trans e2).trans e3).trans e4).trans e5) Q fun H6 e6 => q H6 ((((e2.trans e3).trans e4).trans e5).trans e6)
    | false =>
      show Q (.bl false) H4
      exact q H4 ((e2.trans e3).trans e4)⟩
theorem rv_lt {i j : Int} : RV (rI0 fun i j => .bl (decide (i < j))) (.int i) (.int j) H (.bl (decide (i < j))) := rv_I0
theorem ev_to {w : V} (h : Ev te σ H v) (e : v = w) : Ev te σ H w := e ▸ h
theorem evT_to {t : TT} {a b : Bool} (h : EvT t σ H a) (e : a = b) : EvT t σ H b := e ▸ h
theorem ev_lenT {p : Addr} {xs : List V} (ha : Ev ta σ H (.ref p)) (h : SqT K H p xs) : Ev (tCB (rLenS K) (tCons ta tNil)) σ H (.int (xs.length : Int)) := fun H1 e Q q =>
  ha H1 e _ fun H2 e2 => ⟨p, xs, rfl, Or.inr (ex_t (e.trans e2) h), q H2 e2⟩
/-- (a, b, ..)[i] -/
theorem ev_ixU {xs : List V} {i : Int} (ha : EvU ta σ H xs) (hb : Ev tb σ H (.int i)) (hv : atI xs i = some v) : Ev (tOp (rIxT K) ta tb) σ H v := fun H1 e Q q =>
  ha H1 e _ fun p H2 _ e2 hp => hb H2 (e.trans e2) _ fun H3 e3 => ⟨p, xs, i, v, rfl, rfl, st_of (e3 p _ hp), hv, q H3 (e2.trans e3)⟩
/-- f(..)[i], f(..) a new list -/
theorem ev_ixN {xs : List V} {i : Int} (ha : EvL ta σ H xs) (hb : Ev tb σ H (.int i)) (hv : atI xs i = some v) : Ev (tOp (rIxL K) ta tb) σ H v := fun H1 e Q q =>
  ha H1 e _ fun p H2 _ e2 hp => hb H2 (e.trans e2) _ fun H3 e3 => ⟨p, xs, i, v, rfl, rfl, sq_of (e3 p _ hp), hv, q H3 (e2.trans e3)⟩
def rMin2 : List V → Hp → VK → Prop := fun xs H Q => ∃ i j, xs = [.int i, .int j] ∧ Q (.int (if j < i then j else i)) H
theorem ev_min2 {i j : Int} (ha : Ev ta σ H (.int i)) (hb : Ev tb σ H (.int j)) : Ev (tCB rMin2 (tCons ta (tCons tb tNil))) σ H (.int (if j < i then j else i)) := fun H1 e Q q =>
  ha H1 e _ fun H2 e2 => hb H2 (e.trans e2) _ fun H3 e3 => ⟨i, j, rfl, q H3 (e2.trans e3)⟩
/-- all(..) of a new list of truths -/
theorem ev_allN {bs : List Bool} (ha : EvL ta σ H (bs.map V.bl)) : Ev (tCB (rAll K) (tCons ta tNil)) σ H (.bl (bs.all id)) := fun H1 e Q q =>
  ha H1 e _ fun p H2 _ e2 hp => ⟨p, bs, rfl, sq_of hp, q H2 e2⟩
/-- the same data, unlike or not -/
theorem rv_neD {d d' : PyData} (h1 : ∀ H1, Ex H H1 → Dp K H1 x d) (h2 : ∀ H1, Ex H H1 → Dp K H1 y d') (s1 : SeqAt.shaped d = true) (s2 : SeqAt.shaped d' = true) : RV (rNeD K) x y H (.bl (!PyData.eqv d d')) :=
  fun H1 e _ q => ⟨d, d', h1 H1 e, h2 H1 e, s1, s2, q H1 (Ex.refl H1)⟩
theorem rv_eqD {d d' : PyData} (h1 : ∀ H1, Ex H H1 → Dp K H1 x d) (h2 : ∀ H1, Ex H H1 → Dp K H1 y d') (s1 : SeqAt.shaped d = true) (s2 : SeqAt.shaped d' = true) : RV (rEqD K) x y H (.bl (PyData.eqv d d')) :=
  fun H1 e _ q => ⟨d, d', h1 H1 e, h2 H1 e, s1, s2, q H1 (Ex.refl H1)⟩
end
/-! ### lists of numbers as data -/
def pdN (l : List Nat) : PyData := .list (l.map fun n : Nat => PyData.int (n : Int))
theorem dpAll_N {K : PySem.W.Frag} {H : Hp} : ∀ l : List Nat, DpAll K H (vNs l) (l.map fun n : Nat => PyData.int (n : Int))
  | [] => .nil
  | n :: r => .cons (.int _) (dpAll_N r)
theorem dp_N {K : PySem.W.Frag} {H : Hp} {a : Addr} {l : List Nat} (h : SqL K H a (vNs l)) : Dp K H (.ref a) (pdN l) := .lst h (dpAll_N l)
end Rt
namespace Rt
open PySem PySem.Spec PyProof.Rows L2 Evl
/-! ### comprehensions by their elements -/
theorem given_all (n : Nat) (v : Nat → V) : given n (fun _ => true) v = (List.range n).map v := by
  unfold given
  rw [List.filter_eq_self.mpr fun _ _ => rfl]
theorem range_getD (xs : List V) : (List.range xs.length).map (fun i => xs.getD i .non) = xs := by
  refine List.ext_getElem (by simp) fun i h1 h2 => ?_
  simp [List.getD_eq_getElem?_getD, List.getElem?_eq_getElem h2]
theorem given_of (xs : List V) (f : V → Bool) (g : V → V) : given xs.length (fun i => f (xs.getD i .non)) (fun i => g (xs.getD i .non)) = (xs.filter f).map g := by
  unfold given
  have e : (xs.filter f).map g = (((List.range xs.length).map (fun i => xs.getD i .non)).filter f).map g := by rw [range_getD]
  rw [e, List.filter_map, List.map_map]
  rfl
theorem getD_of {xs : List V} {i : Nat} {x : V} (h : xs[i]? = some x) : xs.getD i .non = x := by
  rw [List.getD_eq_getElem?_getD, h]
  rfl
section
variable {K : PySem.W.Frag} {σ : L2.St} {H H' : Hp} {ta tb tc te : TE} {x y z v : V} {t : TT}
theorem et_yes : EvT tYes σ H true := fun H1 _ _ q => q H1 (Ex.refl H1)
theorem el_to {xs ys : List V} (h : EvL te σ H xs) (e : xs = ys) : EvL te σ H ys := e ▸ h
/-- [e for x in xs] -/
theorem el_mapL {a : Addr} {xs : List V} {tl : TE} {j : Nat} {vs : List Nat} (g : V → V) (h : Ev tl σ H (.ref a)) (hx : SqL K H a xs) (hz : xs.length ≤ 40000)
    (he : ∀ x ∈ xs, ∀ H1, Ex H H1 → Ev te ((wipe σ vs).set j (some x)) H1 (g x)) (hw : ∀ x, wipe ((wipe σ vs).set j (some x)) vs = wipe σ vs := by intro _; rfl) :
    EvL (tLc (iList K tl) (gName j) tYes te vs) σ H (xs.map g) := by
  have e := given_of xs (fun _ => true) g
  rw [List.filter_eq_self.mpr fun _ _ => rfl] at e
  refine el_to (el_lcL (fun _ => true) (fun i => g (xs.getD i .non)) h hx hz hw (fun _ _ _ _ _ => et_yes) ?_) e
  intro i x H1 e1 hi _
  show Ev te _ H1 (g (xs.getD i .non))
  rw [getD_of hi]
  exact he x (List.mem_of_getElem? hi) H1 e1
/-- [e for x in xs if c] -/
theorem el_filtL {a : Addr} {xs : List V} {tl : TE} {j : Nat} {vs : List Nat} (f : V → Bool) (g : V → V) (h : Ev tl σ H (.ref a)) (hx : SqL K H a xs) (hz : xs.length ≤ 40000)
    (ht : ∀ x ∈ xs, ∀ H1, Ex H H1 → EvT t ((wipe σ vs).set j (some x)) H1 (f x))
    (he : ∀ x ∈ xs, ∀ H1, Ex H H1 → f x = true → Ev te ((wipe σ vs).set j (some x)) H1 (g x)) (hw : ∀ x, wipe ((wipe σ vs).set j (some x)) vs = wipe σ vs := by intro _; rfl) :
    EvL (tLc (iList K tl) (gName j) t te vs) σ H ((xs.filter f).map g) := by
  refine el_to (el_lcL (fun i => f (xs.getD i .non)) (fun i => g (xs.getD i .non)) h hx hz hw ?_ ?_) (given_of xs f g)
  · intro i x H1 e1 hi
    show EvT t _ H1 (f (xs.getD i .non))
    rw [getD_of hi]
    exact ht x (List.mem_of_getElem? hi) H1 e1
  · intro i x H1 e1 hi
    show f (xs.getD i .non) = true → Ev te _ H1 (g (xs.getD i .non))
    rw [getD_of hi]
    exact he x (List.mem_of_getElem? hi) H1 e1
/-- the same over a new list -/
theorem el_filtN {xs : List V} {tl : TE} {j : Nat} {vs : List Nat} (f : V → Bool) (g : V → V) (h : EvL tl σ H xs) (hz : xs.length ≤ 40000)
    (ht : ∀ x ∈ xs, ∀ H1, Ex H H1 → EvT t ((wipe σ vs).set j (some x)) H1 (f x))
    (he : ∀ x ∈ xs, ∀ H1, Ex H H1 → f x = true → Ev te ((wipe σ vs).set j (some x)) H1 (g x)) (hw : ∀ x, wipe ((wipe σ vs).set j (some x)) vs = wipe σ vs := by intro _; rfl) :
    EvL (tLc (iList K tl) (gName j) t te vs) σ H ((xs.filter f).map g) := by
  refine el_to (el_lcNL (fun i => f (xs.getD i .non)) (fun i => g (xs.getD i .non)) h hz hw ?_ ?_) (given_of xs f g)
  · intro i x H1 e1 hi
    show EvT t _ H1 (f (xs.getD i .non))
    rw [getD_of hi]
    exact ht x (List.mem_of_getElem? hi) H1 e1
  · intro i x H1 e1 hi
    show f (xs.getD i .non) = true → Ev te _ H1 (g (xs.getD i .non))
    rw [getD_of hi]
    exact he x (List.mem_of_getElem? hi) H1 e1
/-- [e for i in range(n)] -/
theorem el_mapR {ta : TA} {j : Nat} {vs : List Nat} {n : Nat} (g : Nat → V) (h : EvA ta σ H [vN n]) (hn : n ≤ 40000)
    (he : ∀ i, i < n → ∀ H1, Ex H H1 → Ev te ((wipe σ vs).set j (some (vN i))) H1 (g i)) (hw : ∀ x, wipe ((wipe σ vs).set j (some x)) vs = wipe σ vs := by intro _; rfl) :
    EvL (tLc (iRng1 ta) (gName j) tYes te vs) σ H ((List.range n).map g) := by
  have e := given_all ((n : Int).toNat) g
  rw [Int.toNat_natCast] at e
  refine el_to (el_lcR1 (n := (n : Int)) (fun _ => true) g h ⟨by omega, by omega⟩ hw (fun _ _ _ _ => et_yes) ?_) e
  intro i H1 e1 hi _
  exact he i (by omega) H1 e1
end
end Rt
namespace Rt
open PySem PySem.Spec PyProof.Rows L2 Evl
section
variable {K : PySem.W.Frag} {σ : L2.St} {H : Hp} {te : TE} {x y : V} {D : Ends} {tz : TS}
/-- a, b = (x, y), the pair made and taken apart -/
theorem q_asgT2 {i j : Nat} (h : EvU te σ H [x, y]) (k : ∀ H1, Ex H H1 → tz D ((σ.set i (some x)).set j (some y)) H1) : tSeq (tAsg te (gTup K 2 (gCons (gName i) (gCons (gName j) gNil)))) tz D σ H :=
  h H (Ex.refl H) _ fun p H1 _ e hp => ⟨p, [x, y], rfl, st_of hp, rfl, x, [y], rfl, y, [], rfl, rfl, k H1 e⟩
/-- a, b = x, y, two locals -/
theorem q_par {i j : Nat} {ta : TA} (h : EvA ta σ H [x, y]) (k : ∀ H1, Ex H H1 → tz D ((σ.set i (some x)).set j (some y)) H1) : tSeq (tPar i j ta) tz D σ H :=
  h H (Ex.refl H) _ fun H1 e => ⟨x, y, rfl, k H1 e⟩
theorem s_par {i j : Nat} {ta : TA} (h : EvA ta σ H [x, y]) (k : ∀ H1, Ex H H1 → D.nx ((σ.set i (some x)).set j (some y)) H1) : tPar i j ta D σ H :=
  h H (Ex.refl H) _ fun H1 e => ⟨x, y, rfl, k H1 e⟩
end
end Rt

/-! Ways along a row: plain Lean. -/
namespace Rt
structure RowOk (row : List Nat) : Prop where
  l1 : 1 ≤ row.length
  l60 : row.length ≤ 60
  c1 : ∀ c ∈ row, 1 ≤ c
  c20 : ∀ c ∈ row, c ≤ 20
def wayF (row : List Nat) : Nat → Nat → List Nat
  | 0, p => [p]
  | f + 1, p => if p + row.getD p 0 < row.length then p :: wayF row f (p + row.getD p 0) else [p]
theorem wayF_succ (row : List Nat) (f p : Nat) : wayF row (f + 1) p = if p + row.getD p 0 < row.length then p :: wayF row f (p + row.getD p 0) else [p] := rfl
def way (row : List Nat) (p : Nat) : List Nat := wayF row row.length p
theorem wayF_same {row : List Nat} (hc : ∀ c ∈ row, 1 ≤ c) : ∀ (f g p : Nat), p < row.length → row.length - p ≤ f → row.length - p ≤ g → wayF row f p = wayF row g p
  | 0, _, p, hp, h1, _ => by omega
  | _ + 1, 0, p, hp, _, h2 => by omega
  | f + 1, g + 1, p, hp, h1, h2 => by
    unfold wayF
    by_cases h : p + row.getD p 0 < row.length
    · have h3 : 1 ≤ row.getD p 0 := hc _ (List.mem_of_getElem? (by rw [List.getD_eq_getElem?_getD, List.getElem?_eq_getElem hp]; rfl))
      rw [if_pos h, if_pos h, wayF_same hc f g _ h (by omega) (by omega)]
    · rw [if_neg h, if_neg h]
theorem way_eq {row : List Nat} (hc : ∀ c ∈ row, 1 ≤ c) {p : Nat} (hp : p < row.length) : way row p = if p + row.getD p 0 < row.length then p :: way row (p + row.getD p 0) else [p] := by
  unfold way
  obtain ⟨n, hn⟩ : ∃ n, row.length = n + 1 := ⟨row.length - 1, by omega⟩
  by_cases h : p + row.getD p 0 < row.length
  · have h3 : 1 ≤ row.getD p 0 := hc _ (List.mem_of_getElem? (by rw [List.getD_eq_getElem?_getD, List.getElem?_eq_getElem hp]; rfl))
    rw [if_pos h, wayF_same hc row.length (n + 1) p hp (by omega) (by omega), wayF_succ, if_pos h, wayF_same hc n row.length _ h (by omega) (by omega)]
  · rw [if_neg h, wayF_same hc row.length (n + 1) p hp (by omega) (by omega), wayF_succ, if_neg h]
theorem way_go {row : List Nat} (hc : ∀ c ∈ row, 1 ≤ c) {p : Nat} (hp : p < row.length) (h : p + row.getD p 0 < row.length) : way row p = p :: way row (p + row.getD p 0) := by
  rw [way_eq hc hp, if_pos h]
theorem way_end {row : List Nat} (hc : ∀ c ∈ row, 1 ≤ c) {p : Nat} (hp : p < row.length) (h : ¬ p + row.getD p 0 < row.length) : way row p = [p] := by
  rw [way_eq hc hp, if_neg h]
theorem wayF_len (row : List Nat) : ∀ f p, (wayF row f p).length ≤ f + 1
  | 0, _ => Nat.le_refl _
  | f + 1, p => by
    unfold wayF
    split
    · have := wayF_len row f (p + row.getD p 0)
      rw [List.length_cons]
      omega
    · rw [List.length_singleton]
      omega
theorem way_len (row : List Nat) (p : Nat) : (way row p).length ≤ row.length + 1 := wayF_len row _ p
theorem wayF_ne (row : List Nat) : ∀ f p, wayF row f p ≠ []
  | 0, _ => by unfold wayF; simp
  | f + 1, p => by
    unfold wayF
    split <;> simp
theorem way_ne (row : List Nat) (p : Nat) : way row p ≠ [] := wayF_ne row _ p
def lastOf (row : List Nat) (p : Nat) : Nat := (way row p).getLast (way_ne row p)
theorem way_split (row : List Nat) (p : Nat) : way row p = (way row p).dropLast ++ [lastOf row p] := (List.dropLast_concat_getLast (way_ne row p)).symm
/-- every place of a way is a place of the row -/
theorem wayF_lt {row : List Nat} : ∀ f p, p < row.length → ∀ q ∈ wayF row f p, q < row.length
  | 0, p, hp, q, hq => by
    unfold wayF at hq
    rw [List.mem_singleton.mp hq]
    exact hp
  | f + 1, p, hp, q, hq => by
    unfold wayF at hq
    split at hq
    · rename_i h
      rcases List.mem_cons.mp hq with e | e
      · rw [e]
        exact hp
      · exact wayF_lt f _ h q e
    · rw [List.mem_singleton.mp hq]
      exact hp
theorem way_lt {row : List Nat} {p : Nat} (hp : p < row.length) : ∀ q ∈ way row p, q < row.length := wayF_lt _ p hp
theorem lastOf_lt {row : List Nat} {p : Nat} (hp : p < row.length) : lastOf row p < row.length := way_lt hp _ (List.getLast_mem _)
end Rt

/-! The law's own draws, in plain Lean. -/
namespace Rt
open PySem
def cellAt (ns : List Int) (k : Nat) : Int := ns.getD k 0
def primesL : List Int := [1000003, 1000033, 1000037, 1000039, 1000081, 1000099, 1000117, 1000121, 1000133, 1000151, 1000159, 1000171, 1000183, 1000187, 1000193, 1000199]
def sevens : List Int := [1, 7, 49, 343, 2401]
def drawV (c : Int) (k : Nat) (m : Int) : Int := (c * 48271 + (k : Int) * 69621) % (primesL.getD (k % 16) 1) % m
def numV (c : Int) (k : Nat) (m : Int) : Int :=
  if 10 ^ 18 ≤ c then (c - 10 ^ 18) / (sevens.getD (k % 5) 1) % m else drawV ((c + 977 * (k : Int)) * (c + 31 * (k : Int) + 5)) (k % 9 + 1) 999983 % m
def numN (c : Int) (k : Nat) (m : Nat) : Nat := (numV c k (m : Int)).toNat
theorem numV_pos {c : Int} {k : Nat} {m : Int} (h : 0 < m) : 0 ≤ numV c k m := by
  unfold numV
  split <;> exact Int.emod_nonneg _ (by omega)
theorem numV_lt {c : Int} {k : Nat} {m : Int} (h : 0 < m) : numV c k m < m := by
  unfold numV
  split <;> exact Int.emod_lt_of_pos _ h
theorem numN_is {c : Int} {k m : Nat} (h : 0 < m) : ((numN c k m : Nat) : Int) = numV c k (m : Int) := Int.toNat_of_nonneg (numV_pos (by omega))
theorem numN_lt {c : Int} {k m : Nat} (h : 0 < m) : numN c k m < m := by
  have h1 := numN_is (c := c) (k := k) h
  have h2 := numV_lt (c := c) (k := k) (m := (m : Int)) (by omega)
  omega
def wides : List Nat := [1, 3, 6, 20]
def wideN (ns : List Int) (b : Nat) : Nat := wides.getD (numN (cellAt ns b) (b + 2) 4) 1
def manyN (ns : List Int) (b m : Nat) : Nat := 1 + numN (cellAt ns b) (b + 1) m
def cardN (ns : List Int) (b k : Nat) : Nat := 1 + numN (cellAt ns (b + k) + 31 * (k : Int)) (k + b) (wideN ns b)
def rowV (ns : List Int) (b m : Nat) : List Nat := (List.range (manyN ns b m)).map (cardN ns b)
theorem wides_ok : ∀ i, i < 4 → 1 ≤ wides.getD i 1 ∧ wides.getD i 1 ≤ 20 := by decide
theorem wideN_ok (ns : List Int) (b : Nat) : 1 ≤ wideN ns b ∧ wideN ns b ≤ 20 := wides_ok _ (numN_lt (by decide))
theorem rowV_len (ns : List Int) (b m : Nat) : (rowV ns b m).length = manyN ns b m := by
  unfold rowV
  rw [List.length_map, List.length_range]
theorem manyN_le {ns : List Int} {b m : Nat} (h : 1 ≤ m) : 1 ≤ manyN ns b m ∧ manyN ns b m ≤ m := by
  have := numN_lt (c := cellAt ns b) (k := b + 1) (m := m) h
  unfold manyN
  omega
theorem rowV_ok {ns : List Int} {b m : Nat} (h1 : 1 ≤ m) (h2 : m ≤ 60) : RowOk (rowV ns b m) := by
  have hm := manyN_le (ns := ns) (b := b) h1
  have hw := wideN_ok ns b
  refine ⟨by rw [rowV_len]; exact hm.1, by rw [rowV_len]; omega, fun c hc => ?_, fun c hc => ?_⟩
  · obtain ⟨k, _, rfl⟩ := List.mem_map.mp hc
    unfold cardN
    omega
  · obtain ⟨k, _, rfl⟩ := List.mem_map.mp hc
    have := numN_lt (c := cellAt ns (b + k) + 31 * (k : Int)) (k := k + b) (m := wideN ns b) hw.1
    unfold cardN
    omega
/-- the script's cells have so many bits -/
def BitsOk (ns : List Int) : Prop := ∀ z ∈ ns, Builtin.Int.intBits z ≤ 1048576
theorem cell_bits {ns : List Int} (h : BitsOk ns) (k : Nat) : Builtin.Int.intBits (cellAt ns k) ≤ 1048576 := by
  unfold cellAt
  rw [List.getD_eq_getElem?_getD]
  cases e : ns[k]? with
  | none => exact Nat.zero_le _
  | some z => exact h z (List.mem_of_getElem? e)
theorem small_bits {i : Int} (h0 : -1000000 ≤ i) (h1 : i ≤ 1000000) : Builtin.Int.intBits i ≤ 20 := bits_of_lt (show i.natAbs < 1048576 by omega)
end Rt

/-! Evaluations to data: what is told lies in new objects. -/
namespace Rt
open PySem PySem.Spec PyProof.Rows L2 Evl
mutual
theorem Dp.ex {K : PySem.W.Frag} {H H' : Hp} (e : Ex H H') : ∀ {v : V} {d : PyData}, Dp K H v d → Dp K H' v d
  | _, _, .non => .non
  | _, _, .bl b => .bl b
  | _, _, .int i => .int i
  | _, _, .str x => .str x
  | _, _, .lst h r => .lst (ex_l e h) (DpAll.ex e r)
  | _, _, .tup h r => .tup (ex_t e h) (DpAll.ex e r)
theorem DpAll.ex {K : PySem.W.Frag} {H H' : Hp} (e : Ex H H') : ∀ {vs : List V} {ds : List PyData}, DpAll K H vs ds → DpAll K H' vs ds
  | _, _, .nil => .nil
  | _, _, .cons h r => .cons (Dp.ex e h) (DpAll.ex e r)
end
/-- what is new in H2 beside H1 -/
def New (H1 H2 : Hp) : Hp := fun b => if (H1 b).isSome = true then none else H2 b
theorem new_old {H1 H2 : Hp} {b : Addr} {o : HO} (h : H1 b = some o) : New H1 H2 b = none := by
  unfold New
  rw [h]
  rfl
theorem new_at {H1 H2 : Hp} {b : Addr} (h : H1 b = none) : New H1 H2 b = H2 b := by
  unfold New
  rw [h]
  rfl
theorem new_ex (H1 H2 : Hp) : Ex (New H1 H2) H2 := fun b o h => by
  cases q : H1 b with
  | none => rw [new_at q] at h; exact h
  | some u => rw [new_old q] at h; cases h
theorem new_mono {H1 H2 H3 H4 : Hp} (a : Ex H1 H2) (b : Ex H3 H4) : Ex (New H2 H3) (New H1 H4) := fun c o h => by
  cases q : H2 c with
  | some u => rw [new_old q] at h; cases h
  | none =>
    rw [new_at q] at h
    rw [new_at (fresh_back a q)]
    exact b c o h
/-- what stands in a part stays though another object is changed -/
theorem ex_upd {Hs H : Hp} {l : Addr} {o : HO} (e : Ex Hs H) (h : Hs l = none) : Ex Hs (upd H l o) := Ex.mut e h
def EvN (K : PySem.W.Frag) (te : TE) (σ : L2.St) (H : Hp) (d : PyData) : Prop := ∀ H1, Ex H H1 → ∀ Q : VK, (∀ v H2, Ex H1 H2 → Dp K (New H1 H2) v d → Q v H2) → te σ H1 Q
def EvD (K : PySem.W.Frag) (te : TE) (σ : L2.St) (H : Hp) (d : PyData) : Prop := ∀ H1, Ex H H1 → ∀ Q : VK, (∀ v H2, Ex H1 H2 → Dp K H2 v d → Q v H2) → te σ H1 Q
def EvNA (K : PySem.W.Frag) (ta : TA) (σ : L2.St) (H : Hp) (ds : List PyData) : Prop := ∀ H1, Ex H H1 → ∀ Q : List V → Hp → Prop, (∀ vs H2, Ex H1 H2 → DpAll K (New H1 H2) vs ds → Q vs H2) → ta σ H1 Q
section
variable {K : PySem.W.Frag} {σ : L2.St} {H H' : Hp} {ta tb tc te : TE} {x y z v : V} {d d' : PyData} {ds : List PyData}
theorem EvN.mono (e : Ex H H') (h : EvN K te σ H d) : EvN K te σ H' d := fun H1 a Q q => h H1 (e.trans a) Q q
theorem EvD.mono (e : Ex H H') (h : EvD K te σ H d) : EvD K te σ H' d := fun H1 a Q q => h H1 (e.trans a) Q q
theorem EvN.toD (h : EvN K te σ H d) : EvD K te σ H d := fun H1 e Q q => h H1 e Q fun v H2 e2 hd => q v H2 e2 (Dp.ex (new_ex H1 H2) hd)
theorem ed_var {i : Nat} (h : σ[i]? = some (some v)) (hd : Dp K H v d) : EvD K (tVar i) σ H d := fun H1 e _ q => ⟨v, h, q v H1 (Ex.refl H1) (Dp.ex e hd)⟩
theorem en_of (h : Ev te σ H v) (hd : ∀ H1, Dp K H1 v d) : EvN K te σ H d := fun H1 e Q q => h H1 e Q fun H2 e2 => q v H2 e2 (hd _)
theorem en_int {i : Int} (h : Ev te σ H (.int i)) : EvN K te σ H (.int i) := en_of h fun _ => .int i
theorem en_N {n : Nat} (h : Ev te σ H (vN n)) : EvN K te σ H (.int (n : Int)) := en_of h fun _ => .int _
theorem en_bl {b : Bool} (h : Ev te σ H (.bl b)) : EvN K te σ H (.bool b) := en_of h fun _ => .bl b
theorem en_non (h : Ev te σ H .non) : EvN K te σ H .none := en_of h fun _ => .non
theorem en_l {xs : List V} (h : EvL te σ H xs) (hd : ∀ H1, DpAll K H1 xs ds) : EvN K te σ H (.list ds) := fun H1 e Q q =>
  h H1 e Q fun p H2 np e2 hp => q (.ref p) H2 e2 (.lst (sq_of (by rw [new_at np]; exact hp)) (hd _))
theorem en_Ns {l : List Nat} (h : EvL te σ H (vNs l)) : EvN K te σ H (pdN l) := en_l h fun _ => dpAll_N l
theorem ena_nil : EvNA K tNil σ H [] := fun H1 _ _ q => q [] H1 (Ex.refl H1) .nil
theorem ena_cons {tr : TA} (h : EvN K te σ H d) (hr : EvNA K tr σ H ds) : EvNA K (tCons te tr) σ H (d :: ds) := fun H1 e Q q =>
  h H1 e _ fun v H2 e2 hv => hr H2 (e.trans e2) _ fun vs H3 e3 hvs => q (v :: vs) H3 (e2.trans e3) (.cons (Dp.ex (new_mono (Ex.refl H1) e3) hv) (DpAll.ex (new_mono e2 (Ex.refl H3)) hvs))
theorem dpAll_len : ∀ {vs : List V} {ds : List PyData}, DpAll K H vs ds → vs.length = ds.length
  | _, _, .nil => rfl
  | _, _, .cons _ r => by rw [List.length_cons, List.length_cons, dpAll_len r]
theorem en_lst {ta : TA} (h : EvNA K ta σ H ds) (hl : ds.length ≤ 100000) : EvN K (tLst ta) σ H (.list ds) := fun H1 e Q q =>
  h H1 e _ fun vs H2 e2 hv => ⟨sz_of (by rw [dpAll_len hv]; exact hl), fun p hp => q (.ref p) _ (e2.trans (Ex.new hp)) (.lst (sq_of (by rw [new_at (fresh_back e2 hp)]; exact upd_same)) (DpAll.ex (new_mono (Ex.refl H1) (Ex.new hp)) hv))⟩
theorem en_tup {ta : TA} (h : EvNA K ta σ H ds) (hl : ds.length ≤ 100000) : EvN K (tTup ta) σ H (.tuple ds) := fun H1 e Q q =>
  h H1 e _ fun vs H2 e2 hv => ⟨sz_of (by rw [dpAll_len hv]; exact hl), fun p hp => q (.ref p) _ (e2.trans (Ex.new hp)) (.tup (st_of (by rw [new_at (fresh_back e2 hp)]; exact upd_same)) (DpAll.ex (new_mono (Ex.refl H1) (Ex.new hp)) hv))⟩
theorem en_to (h : EvN K te σ H d) (e : d = d') : EvN K te σ H d' := e ▸ h
theorem ed_to (h : EvD K te σ H d) (e : d = d') : EvD K te σ H d' := e ▸ h
theorem ev_eqD (h1 : EvD K ta σ H d) (h2 : EvD K tb σ H d') (s1 : SeqAt.shaped d = true) (s2 : SeqAt.shaped d' = true) : Ev (tOp (rEqD K) ta tb) σ H (.bl (PyData.eqv d d')) := fun H1 e Q q =>
  h1 H1 e _ fun v H2 e2 hv => h2 H2 (e.trans e2) _ fun u H3 e3 hu => ⟨d, d', Dp.ex e3 hv, hu, s1, s2, q H3 (e2.trans e3)⟩
theorem ev_neD (h1 : EvD K ta σ H d) (h2 : EvD K tb σ H d') (s1 : SeqAt.shaped d = true) (s2 : SeqAt.shaped d' = true) : Ev (tOp (rNeD K) ta tb) σ H (.bl (!PyData.eqv d d')) := fun H1 e Q q =>
  h1 H1 e _ fun v H2 e2 hv => h2 H2 (e.trans e2) _ fun u H3 e3 hu => ⟨d, d', Dp.ex e3 hv, hu, s1, s2, q H3 (e2.trans e3)⟩
/-- str(..) of a list or a tuple -/
structure Good (d : PyData) : Prop where
  lay : d.canLay0 = true
  dep : d.depth ≤ 60
  shw : d.showable = true
  lvs : d.leavesShort 13 = true
  wgt : d.weight ≤ 2 ^ 20
theorem Good.shaped (g : Good d) : SeqAt.shaped d = true := by
  unfold SeqAt.shaped
  rw [g.lay, decide_eq_true (show d.depth ≤ 64 from Nat.le_trans g.dep (by decide))]
  rfl
theorem Good.refl (g : Good d) : PyData.eqv d d = true := SeqAt.eqv_refl d g.lay
theorem ev_strD (h : EvD K ta σ H d) (hs : (∃ ds, d = .list ds) ∨ ∃ ds, d = .tuple ds) (g : Good d) : Ev (tCB (rStrD K) (tCons ta tNil)) σ H (.str d.shown) := fun H1 e Q q =>
  h H1 e _ fun v H2 e2 hv => by
    have hd : d.hasDict = false := PyData.hasDict_of_canLay d g.lay
    have hz := PyData.shown_fits (by decide) (by decide) g.lvs g.wgt
    obtain ⟨a, rfl⟩ : ∃ a, v = .ref a := by
      rcases hs with ⟨ds, rfl⟩ | ⟨ds, rfl⟩ <;> (cases hv; exact ⟨_, rfl⟩)
    exact ⟨a, d, rfl, hv, g.shw, hd, g.dep, hz, q H2 e2⟩
variable {D : Ends} {tz : TS}
/-- name = data -/
theorem q_asgN {i : Nat} (h : EvN K te σ H d) (k : ∀ v H1, Ex H H1 → Dp K (New H H1) v d → tz D (σ.set i (some v)) H1) : tSeq (tAsg te (gName i)) tz D σ H := h H (Ex.refl H) _ fun v H1 e hv => k v H1 e hv
theorem q_parLV {i j : Nat} {xs : List V} (h1 : EvL ta σ H xs) (h2 : Ev tb σ H y) (k : ∀ p H1, H p = none → Ex H H1 → H1 p = some (.lst xs) → tz D ((σ.set i (some (.ref p))).set j (some y)) H1) :
    tSeq (tPar i j (tCons ta (tCons tb tNil))) tz D σ H :=
  h1 H (Ex.refl H) _ fun p H1 np e1 hp => h2 H1 e1 _ fun H2 e2 => ⟨.ref p, y, rfl, k p H2 np (e1.trans e2) (e2 p _ hp)⟩
/-- for x in range(lo, hi, c) -/
theorem s_forR3 {ta : TA} {tu : TS} {j : Nat} {lo hi c : Int} {n : Nat} (h : EvA ta σ H [.int lo, .int hi, .int c]) (hr : RgC lo hi c n) (Pv : Nat → L2.St → Hp → Prop) (h0 : ∀ H1, Ex H H1 → Pv 0 σ H1)
    (hs : ∀ (i : Nat) σ' H', i < n → Pv i σ' H' → tu { D with nx := Pv (i + 1), ct := Pv (i + 1), bk := D.nx } (σ'.set j (some (.int (lo + (i : Nat) * c)))) H') (hd : ∀ σ' H', Pv n σ' H' → D.nx σ' H') : tFor (iRng3 ta) (gName j) tu D σ H :=
  h H (Ex.refl H) _ fun H1 e => ⟨lo, hi, c, n, rfl, hr, for_rangeC (lo := lo) (c := c) (n := n) Pv (h0 H1 e) (fun i σ' H' hi p => hs i σ' H' hi p) hd⟩
theorem q_forR3 {ta : TA} {tu : TS} {j : Nat} {lo hi c : Int} {n : Nat} (h : EvA ta σ H [.int lo, .int hi, .int c]) (hr : RgC lo hi c n) (Pv : Nat → L2.St → Hp → Prop) (h0 : ∀ H1, Ex H H1 → Pv 0 σ H1)
    (hs : ∀ (i : Nat) σ' H', i < n → Pv i σ' H' → tu { D with nx := Pv (i + 1), ct := Pv (i + 1), bk := tz D } (σ'.set j (some (.int (lo + (i : Nat) * c)))) H') (hd : ∀ σ' H', Pv n σ' H' → tz D σ' H') : tSeq (tFor (iRng3 ta) (gName j) tu) tz D σ H :=
  s_forR3 (D := { D with nx := tz D }) h hr Pv h0 hs hd
end
/-! ### what a list of numbers is as data -/
theorem good_all : ∀ l : List Nat, (∀ n ∈ l, n < 10 ^ 6) → PyData.canLayAll0 (l.map fun n : Nat => PyData.int (n : Int)) = true ∧ PyData.depthAll (l.map fun n : Nat => PyData.int (n : Int)) = 0 ∧
    PyData.showableAll (l.map fun n : Nat => PyData.int (n : Int)) = true ∧ PyData.leavesShortAll 13 (l.map fun n : Nat => PyData.int (n : Int)) = true ∧ PyData.weightAll (l.map fun n : Nat => PyData.int (n : Int)) ≤ 21 * l.length
  | [], _ => ⟨rfl, rfl, rfl, rfl, Nat.le_refl _⟩
  | n :: r, h => by
    obtain ⟨h1, h2, h3, h4, h5⟩ := good_all r fun m hm => h m (List.mem_cons_of_mem _ hm)
    have hn : n < 10 ^ 6 := h n List.mem_cons_self
    have hb : (PyData.int (n : Int)).weight = Builtin.Int.intBits (n : Int) := by simp only [PyData.weight, Builtin.Int.intBits]
    have hb2 : Builtin.Int.intBits (n : Int) ≤ 20 := bits_of_lt (show (n : Int).natAbs < 1048576 by omega)
    have hlog : (n : Int).natAbs.log2 < 1920 := by
      by_cases hz : n = 0
      · subst hz
        decide
      · have h0 : (n : Int).natAbs ≠ 0 := by omega
        exact (Nat.log2_lt h0).mpr (Nat.lt_of_lt_of_le (show (n : Int).natAbs < 2 ^ 20 by omega) (Nat.pow_le_pow_right (by decide) (by decide)))
    have hs : (PyData.shown (.int (n : Int))).length ≤ 13 := PyData.shown_int_le (by omega)
    rw [List.map_cons]
    refine ⟨?_, ?_, ?_, ?_, ?_⟩
    · rw [PyData.canLayAll0, h1]
      rfl
    · rw [PyData.depthAll, h2]
      rfl
    · rw [PyData.showableAll, h3, PyData.showable, decide_eq_true hlog]
      rfl
    · rw [PyData.leavesShortAll, h4, PyData.leavesShort, decide_eq_true hs]
      rfl
    · rw [PyData.weightAll, hb, List.length_cons]
      omega
theorem good_N {l : List Nat} (h : ∀ n ∈ l, n < 10 ^ 6) (hl : l.length ≤ 40000) : Good (pdN l) := by
  obtain ⟨h1, h2, h3, h4, h5⟩ := good_all l h
  refine ⟨?_, ?_, ?_, ?_, ?_⟩
  · exact h1
  · show (PyData.list _).depth ≤ 60
    rw [PyData.depth, h2]
    decide
  · exact h3
  · exact h4
  · show (PyData.list _).weight ≤ 2 ^ 20
    rw [PyData.weight]
    omega
end Rt
namespace Rt
open PySem PySem.Spec PyProof.Rows L2 Evl
section
variable {K : PySem.W.Frag} {σ : L2.St} {H : Hp} {ta te : TE} {z : V}
/-- f([..], b, ..): the first argument a new list -/
theorem el_callL {sp : Sp} {dvs vs xs ys : List V} {E : XK} {tr : TA} (h : EvL te σ H xs) (hr : EvA tr σ H vs) (hs : ∀ p H1, Ex H H1 → H1 p = some (.lst xs) → SpL sp ((.ref p :: vs) ++ dvs) H1 ys) : EvL (tCall sp dvs E (tCons te tr)) σ H ys := fun H1 e Q q =>
  h H1 e _ fun p H2 np e2 hp => hr H2 (e.trans e2) _ fun H3 e3 => hs p H3 ((e.trans e2).trans e3) (e3 p _ hp) H3 (Ex.refl H3) Q (fun u H4 hu e4 h4 => q u H4 (fresh_back (e2.trans e3) hu) ((e2.trans e3).trans e4) h4) E
theorem ev_callL {sp : Sp} {dvs vs xs : List V} {E : XK} {tr : TA} (h : EvL te σ H xs) (hr : EvA tr σ H vs) (hs : ∀ p H1, Ex H H1 → H1 p = some (.lst xs) → SpV sp ((.ref p :: vs) ++ dvs) H1 z) : Ev (tCall sp dvs E (tCons te tr)) σ H z := fun H1 e Q q =>
  h H1 e _ fun p H2 np e2 hp => hr H2 (e.trans e2) _ fun H3 e3 => hs p H3 ((e.trans e2).trans e3) (e3 p _ hp) H3 (Ex.refl H3) Q (fun H4 e4 => q H4 ((e2.trans e3).trans e4)) E
end
end Rt

/-! Objects, choices, loops over data. -/
namespace Rt
open PySem PySem.Spec PyProof.Rows L2 Evl
theorem pe_or2 {X : Cx} {e : Expr} {t u : TE} (h : PE X e t) (k : PE X e u) : PE X e (fun σ H Q => t σ H Q ∨ u σ H Q) :=
  ⟨fun pins s σ H Q I z => z.elim (fun z => h.run pins s σ H Q I z) fun z => k.run pins s σ H Q I z⟩
/-- a new object -/
def EvO (te : TE) (σ : L2.St) (H : Hp) (C : Addr) (fs : List (Str × V)) : Prop := ∀ H1, Ex H H1 → ∀ Q : VK, (∀ p dx H2, H1 p = none → Ex H1 H2 → H2 p = some (.ins C dx fs) → Q (.ref p) H2) → te σ H1 Q
def RetO (C : Addr) (fs : List (Str × V)) (H : Hp) (Q : VK) : Prop := ∀ p dx H2, H p = none → Ex H H2 → H2 p = some (.ins C dx fs) → Q (.ref p) H2
/-- an __init__ that fills in the fields of the new object -/
def spInit (C : Addr) (n : Nat) (fs : List V → List (Str × V)) : Sp := fun vs H Q _ => ∃ (x dx : Addr) (us : List V), vs = .ref x :: us ∧ us.length = n ∧ H x = some (.ins C dx []) ∧ Q .non (upd H x (.ins C dx (fs us)))
section
variable {K : PySem.W.Frag} {σ : L2.St} {H H' : Hp} {ta tb tc te t1 t2 : TE} {x y z v : V}
theorem ev_orL (h : Ev t1 σ H v) : Ev (fun σ H Q => t1 σ H Q ∨ t2 σ H Q) σ H v := fun H1 e Q q => .inl (h H1 e Q q)
theorem ev_orR (h : Ev t2 σ H v) : Ev (fun σ H Q => t1 σ H Q ∨ t2 σ H Q) σ H v := fun H1 e Q q => .inr (h H1 e Q q)
/-- o.f -/
theorem ev_fld {a C dx : Addr} {fs : List (Str × V)} {f : Str} (h : Ev ta σ H (.ref a)) (ho : H a = some (.ins C dx fs)) (c : Cls K C) (n : NoAttr K C f) (hl : fs.lookup f = some v) : Ev (tFld K ta f) σ H v := fun H1 e Q q =>
  h H1 e _ fun H2 e2 => ⟨a, C, dx, fs, v, rfl, e2 a _ (e a _ ho), c, n, hl, q H2 e2⟩
/-- o.m(..) -/
theorem ev_meth {a C dx : Addr} {fs : List (Str × V)} {m : Str} {sp : Sp} {dvs vs : List V} {E : XK} {tr : TA} (h : Ev ta σ H (.ref a)) (ho : H a = some (.ins C dx fs)) (hm : fs.lookup m = none) (hr : EvA tr σ H vs) (hs : SpV sp (.ref a :: (vs ++ dvs)) H z) :
    Ev (tMeth C m sp dvs E ta tr) σ H z := fun H1 e Q q =>
  h H1 e _ fun H2 e2 => ⟨a, dx, fs, rfl, e2 a _ (e a _ ho), hm, hr H2 (e.trans e2) _ fun H3 e3 => hs H3 ((e.trans e2).trans e3) Q (fun H4 e4 => q H4 ((e2.trans e3).trans e4)) E⟩
/-- C(..).m(..) -/
theorem ev_methO {C : Addr} {fs : List (Str × V)} {m : Str} {sp : Sp} {dvs vs : List V} {E : XK} {tr : TA} (h : EvO ta σ H C fs) (hm : fs.lookup m = none) (hr : EvA tr σ H vs) (hs : ∀ a dx H1, Ex H H1 → H1 a = some (.ins C dx fs) → SpV sp (.ref a :: (vs ++ dvs)) H1 z) :
    Ev (tMeth C m sp dvs E ta tr) σ H z := fun H1 e Q q =>
  h H1 e _ fun a dx H2 na e2 ha => ⟨a, dx, fs, rfl, ha, hm, hr H2 (e.trans e2) _ fun H3 e3 => hs a dx H3 ((e.trans e2).trans e3) (e3 a _ ha) H3 (Ex.refl H3) Q (fun H4 e4 => q H4 ((e2.trans e3).trans e4)) E⟩
/-- C(..).f -/
theorem ev_fldO {C : Addr} {fs : List (Str × V)} {f : Str} (h : EvO ta σ H C fs) (c : Cls K C) (n : NoAttr K C f) (hl : fs.lookup f = some v) : Ev (tFld K ta f) σ H v := fun H1 e Q q =>
  h H1 e _ fun a dx H2 na e2 ha => ⟨a, C, dx, fs, v, rfl, ha, c, n, hl, q H2 e2⟩
/-- C(..) -/
theorem eo_make {C : Addr} {n : Nat} {fs : List V → List (Str × V)} {vs : List V} {E : XK} {tr : TA} (h : EvA tr σ H vs) (hn : vs.length = n) : EvO (tMake C (spInit C n fs) [] E tr) σ H C (fs vs) := fun H1 e Q q =>
  h H1 e _ fun H2 e2 x dx nx nd ne => by
    refine ⟨x, dx, vs, by rw [List.append_nil], hn, upd_same, rfl, q x dx _ (fresh_back e2 nx) (e2.trans ?_) upd_same⟩
    rw [upd_upd]
    intro b o hb
    rw [upd_ne (ne_of_none hb nx), upd_ne (ne_of_none hb nd)]
    exact hb
/-- isinstance of an object -/
theorem ev_isiO {a C D dx : Addr} {fs : List (Str × V)} {b : Bool} (h : Ev ta σ H (.ref a)) (ho : H a = some (.ins C dx fs)) (ty : ∀ (H1 : Hp) (a dx : Addr) (fs : List (Str × V)), H1 a = some (.ins C dx fs) → TyOf K H1 (.ref a) (.ref C)) (hk : PySem.W.kitOne K (.ref C) (.ref D) = some b) :
    Ev (tCB (rIsi K) (tCons ta (tCons (tC (.ref D)) tNil))) σ H (.bl b) := ev_isi h (.own D) (fun H1 e => .base (ty H1 a dx fs (e a _ ho))) hk
theorem ev_same {b : Bool} {v : V} {t : TT} (h : EvT t σ H b) (h1 : b = true → Ev ta σ H v) (h2 : b = false → Ev tb σ H v) : Ev (tIf t ta tb) σ H v := ev_if h h1 h2
variable {D : Ends} {tz : TS}
theorem q_asgO {i : Nat} {C : Addr} {fs : List (Str × V)} (h : EvO te σ H C fs) (k : ∀ p dx H1, H p = none → Ex H H1 → H1 p = some (.ins C dx fs) → tz D (σ.set i (some (.ref p))) H1) : tSeq (tAsg te (gName i)) tz D σ H := h H (Ex.refl H) _ k
theorem s_retO {C : Addr} {fs : List (Str × V)} (h : EvO te σ H C fs) (k : RetO C fs H D.rt) : tRet te D σ H := h H (Ex.refl H) _ k
/-- for x in data -/
theorem s_forD {g : TG} {tu : TS} {tl : TE} {ds : List PyData} (h : EvD K tl σ H (.list ds)) (Pv : Hp → Nat → L2.St → Hp → Prop) (h0 : ∀ H1, Ex H H1 → Pv H1 0 σ H1) (hx : ∀ H1 i σ' H', Pv H1 i σ' H' → Ex H1 H')
    (hs : ∀ H1, Ex H H1 → ∀ i x d σ' H', ds[i]? = some d → Dp K H' x d → Pv H1 i σ' H' → g x σ' H' fun σ2 H2 => tu { D with nx := Pv H1 (i + 1), ct := Pv H1 (i + 1), bk := D.nx } σ2 H2)
    (hd : ∀ H1, Ex H H1 → ∀ σ' H', Pv H1 ds.length σ' H' → D.nx σ' H') : tFor (iList K tl) g tu D σ H :=
  h H (Ex.refl H) _ fun v H1 e hv => by
    cases hv with
    | @lst a xs _ hq hall =>
      refine ⟨a, rfl, ⟨xs, hq⟩, for_list (Pv H1) (h0 H1 e) (fun i σ' H' _ p => ex_l (hx H1 i σ' H' p) hq) (fun i x σ' H' hi p => ?_) fun σ' H' p => hd H1 e σ' H' (by rw [← dpAll_len hall]; exact p)⟩
      obtain ⟨d, h1, h2⟩ := dpAll_get hall hi
      exact hs H1 e i x d σ' H' h1 (Dp.ex (hx H1 i σ' H' p) h2) p
where
  dpAll_get : ∀ {H : Hp} {vs : List V} {ds : List PyData} {i : Nat} {x : V}, DpAll K H vs ds → vs[i]? = some x → ∃ d, ds[i]? = some d ∧ Dp K H x d
    | _, _, _, 0, _, .cons h _, e => by
      have e1 := Option.some.inj e
      subst e1
      exact ⟨_, rfl, h⟩
    | _, _, _, i + 1, _, .cons _ r, e => dpAll_get (i := i) r e
    | _, _, _, _, _, .nil, e => by simp at e
theorem q_forD {g : TG} {tu : TS} {tl : TE} {ds : List PyData} (h : EvD K tl σ H (.list ds)) (Pv : Hp → Nat → L2.St → Hp → Prop) (h0 : ∀ H1, Ex H H1 → Pv H1 0 σ H1) (hx : ∀ H1 i σ' H', Pv H1 i σ' H' → Ex H1 H')
    (hs : ∀ H1, Ex H H1 → ∀ i x d σ' H', ds[i]? = some d → Dp K H' x d → Pv H1 i σ' H' → g x σ' H' fun σ2 H2 => tu { D with nx := Pv H1 (i + 1), ct := Pv H1 (i + 1), bk := tz D } σ2 H2)
    (hd : ∀ H1, Ex H H1 → ∀ σ' H', Pv H1 ds.length σ' H' → tz D σ' H') : tSeq (tFor (iList K tl) g tu) tz D σ H := s_forD (D := { D with nx := tz D }) h Pv h0 hx hs hd
/-- a pair taken apart into two names -/
theorem g_pair {i j : Nat} {d1 d2 : Int} {Q : L2.St → Hp → Prop} (h : Dp K H x (.tuple [.int d1, .int d2])) (k : Q ((σ.set i (some (.int d1))).set j (some (.int d2))) H) : gTup K 2 (gCons (gName i) (gCons (gName j) gNil)) x σ H Q := by
  cases h with
  | tup hq hall =>
    cases hall with
    | cons h1 hr =>
      cases hr with
      | cons h2 hn =>
        cases hn
        cases h1
        cases h2
        exact ⟨_, _, rfl, hq, rfl, _, _, rfl, _, _, rfl, rfl, k⟩
/-- a new list of data -/
def EvM (K : PySem.W.Frag) (te : TE) (σ : L2.St) (H : Hp) (ds : List PyData) : Prop := ∀ H1, Ex H H1 → ∀ Q : VK, (∀ p xs H2, Ex H1 H2 → H1 p = none → H2 p = some (.lst xs) → DpAll K (New H1 H2) xs ds → Q (.ref p) H2) → te σ H1 Q
theorem EvM.toN {ds : List PyData} (h : EvM K te σ H ds) : EvN K te σ H (.list ds) := fun H1 e Q q => h H1 e Q fun p xs H2 e2 np hp hall => q (.ref p) H2 e2 (.lst (sq_of (by rw [new_at np]; exact hp)) hall)
theorem em_lst {ds : List PyData} {ta : TA} (h : EvNA K ta σ H ds) (hl : ds.length ≤ 100000) : EvM K (tLst ta) σ H ds := fun H1 e Q q =>
  h H1 e _ fun vs H2 e2 hv => ⟨sz_of (by rw [dpAll_len hv]; exact hl), fun p hp => q p vs _ (e2.trans (Ex.new hp)) (fresh_back e2 hp) upd_same (DpAll.ex (new_mono (Ex.refl H1) (Ex.new hp)) hv)⟩
theorem dpAll_app : ∀ {vs us : List V} {ds es : List PyData}, DpAll K H vs ds → DpAll K H us es → DpAll K H (vs ++ us) (ds ++ es)
  | _, _, _, _, .nil, h => h
  | _, _, _, _, .cons a r, h => .cons a (dpAll_app r h)
/-- a list of data and a new one: + -/
theorem ed_cat {ds es : List PyData} {l : Addr} {xs : List V} (h1 : Ev ta σ H (.ref l)) (hl : H l = some (.lst xs)) (hall : DpAll K H xs ds) (h2 : EvM K tb σ H es) (hz : ds.length + es.length ≤ 100000) : EvD K (tOp rCat ta tb) σ H (.list (ds ++ es)) := fun H1 e Q q =>
  h1 H1 e _ fun H2 e2 => h2 H2 (e.trans e2) _ fun p ys H3 e3 np hp hys =>
    ⟨l, p, xs, ys, rfl, rfl, ((e.trans e2).trans e3) l _ hl, hp, sz_of (by rw [dpAll_len hall, dpAll_len hys]; exact hz), fun c hc => q (.ref c) _ ((e2.trans e3).trans (Ex.new hc))
      (.lst (sq_of upd_same) (dpAll_app (DpAll.ex (((e.trans e2).trans e3).trans (Ex.new hc)) hall) (DpAll.ex ((new_ex H2 H3).trans (Ex.new hc)) hys)))⟩
theorem q_asgM {i : Nat} {ds : List PyData} (h : EvM K te σ H ds) (k : ∀ p xs H1, Ex H H1 → H p = none → H1 p = some (.lst xs) → DpAll K (New H H1) xs ds → tz D (σ.set i (some (.ref p))) H1) : tSeq (tAsg te (gName i)) tz D σ H := h H (Ex.refl H) _ k
end
/-! ### membership of numbers -/
theorem inV_N (n : Nat) : ∀ l : List Nat, inV (vN n) (vNs l) = decide (n ∈ l)
  | [] => rfl
  | m :: r => by
    have ih := inV_N n r
    unfold inV vNs at *
    rw [List.map_cons, List.any_cons, ih]
    have e : eqV (vN m) (vN n) = decide (n = m) := by
      show (((m : Int)) == ((n : Int))) = decide (n = m)
      rw [Bool.eq_iff_iff]
      simp
      omega
    rw [e, Bool.eq_iff_iff]
    simp
theorem flat_N : ∀ l : List Nat, (vNs l).all flatV = true
  | [] => rfl
  | _ :: r => by
    show (_ && (vNs r).all flatV) = true
    rw [flat_N r]
    rfl
theorem filt_N (m : List Nat) : ∀ l : List Nat, (vNs l).filter (fun x => inV x (vNs m)) = vNs (l.filter fun p => decide (p ∈ m))
  | [] => rfl
  | n :: r => by
    have ih := filt_N m r
    show (vN n :: vNs r).filter _ = _
    rw [List.filter_cons, List.filter_cons, inV_N, ih]
    split <;> rfl
def optV : Option Nat → V
  | some p => vN p
  | none => .non
def SpO (sp : Sp) (vs : List V) (H : Hp) (C : Addr) (fs : List (Str × V)) : Prop := ∀ H1, Ex H H1 → ∀ Q : VK, (∀ p dx H2, H1 p = none → Ex H1 H2 → H2 p = some (.ins C dx fs) → Q (.ref p) H2) → ∀ E : XK, sp vs H1 Q E
section
variable {K : PySem.W.Frag} {σ : L2.St} {H : Hp} {ta te : TE} {x z : V}
theorem eo_call {sp : Sp} {dvs vs : List V} {E : XK} {ta : TA} {C : Addr} {fs : List (Str × V)} (h : EvA ta σ H vs) (hs : SpO sp (vs ++ dvs) H C fs) : EvO (tCall sp dvs E ta) σ H C fs := fun H1 e Q q =>
  h H1 e _ fun H2 e2 => hs H2 (e.trans e2) Q (fun p dx H3 hp e3 h3 => q p dx H3 (fresh_back e2 hp) (e2.trans e3) h3) E
theorem eo_callL {sp : Sp} {dvs vs xs : List V} {E : XK} {tr : TA} {C : Addr} {fs : List (Str × V)} (h : EvL te σ H xs) (hr : EvA tr σ H vs) (hs : ∀ p H1, Ex H H1 → H1 p = some (.lst xs) → SpO sp ((.ref p :: vs) ++ dvs) H1 C fs) : EvO (tCall sp dvs E (tCons te tr)) σ H C fs := fun H1 e Q q =>
  h H1 e _ fun p H2 np e2 hp => hr H2 (e.trans e2) _ fun H3 e3 => hs p H3 ((e.trans e2).trans e3) (e3 p _ hp) H3 (Ex.refl H3) Q (fun u dx H4 hu e4 h4 => q u dx H4 (fresh_back (e2.trans e3) hu) ((e2.trans e3).trans e4) h4) E
def rIsNon : R2 := fun x y H Q => y = .non ∧ Q (.bl (decide (x = .non))) H
theorem rv_isN : RV rIsNon x .non H (.bl (decide (x = .non))) := fun H1 _ _ q => ⟨rfl, q H1 (Ex.refl H1)⟩
theorem el_if {b : Bool} {t : TT} {tb : TE} {xs : List V} (h : EvT t σ H b) (h1 : b = true → EvL ta σ H xs) (h2 : b = false → EvL tb σ H xs) : EvL (tIf t ta tb) σ H xs := fun H1 e Q q => h H1 e _ fun H2 e2 => by
  cases b with
  | true =>
    show ta σ H2 Q
    exact h1 rfl H2 (e.trans e2) Q fun p H3 np e3 h3 => q p H3 (fresh_back e2 np) (e2.trans e3) h3
  | false =>
    show tb σ H2 Q
    exact h2 rfl H2 (e.trans e2) Q fun p H3 np e3 h3 => q p H3 (fresh_back e2 np) (e2.trans e3) h3
/-- [x] * n -/
theorem el_rep {xs : List V} {k : Nat} {tb : TE} (h : EvL ta σ H xs) (hb : Ev tb σ H (vN k)) (hz : xs.length * k ≤ 100000) (hk : k ≤ 100000) : EvL (tOp rRep ta tb) σ H (List.replicate k xs).flatten := fun H1 e Q q =>
  h H1 e _ fun p H2 np e2 hp => hb H2 (e.trans e2) _ fun H3 e3 => ⟨p, (k : Int), xs, rfl, rfl, e3 p _ hp, by omega, by omega, sz_of (by rw [Int.toNat_natCast]; exact hz), fun l hl => q l _ (fresh_back (e2.trans e3) hl) ((e2.trans e3).trans (Ex.new hl)) (by rw [Int.toNat_natCast]; exact upd_same)⟩
end
end Rt

/-! Two ways: where they first meet. Plain Lean. -/
namespace Rt
/-- two rising lists with the same members are one -/
theorem rising_eq : ∀ {l m : List Nat}, l.Pairwise (· < ·) → m.Pairwise (· < ·) → (∀ x, x ∈ l ↔ x ∈ m) → l = m
  | [], [], _, _, _ => rfl
  | [], b :: m, _, _, h => absurd ((h b).mpr List.mem_cons_self) List.not_mem_nil
  | a :: l, [], _, _, h => absurd ((h a).mp List.mem_cons_self) List.not_mem_nil
  | a :: l, b :: m, hl, hm, h => by
    obtain ⟨h1, h2⟩ := List.pairwise_cons.mp hl
    obtain ⟨h3, h4⟩ := List.pairwise_cons.mp hm
    have e : a = b := by
      rcases List.mem_cons.mp ((h a).mp List.mem_cons_self) with e | e
      · exact e
      · rcases List.mem_cons.mp ((h b).mpr List.mem_cons_self) with z | z
        · exact z.symm
        · have := h3 a e
          have := h1 b z
          omega
    subst e
    have : l = m := rising_eq h2 h4 fun x => by
      constructor
      · intro hx
        rcases List.mem_cons.mp ((h x).mp (List.mem_cons_of_mem _ hx)) with e | e
        · have := h1 x hx
          omega
        · exact e
      · intro hx
        rcases List.mem_cons.mp ((h x).mpr (List.mem_cons_of_mem _ hx)) with e | e
        · have := h3 x hx
          omega
        · exact e
    rw [this]
theorem wayF_ge (row : List Nat) : ∀ f p, ∀ q ∈ wayF row f p, p ≤ q
  | 0, p, q, hq => by
    unfold wayF at hq
    rw [List.mem_singleton.mp hq]
    exact Nat.le_refl _
  | f + 1, p, q, hq => by
    rw [wayF_succ] at hq
    split at hq
    · rcases List.mem_cons.mp hq with e | e
      · omega
      · have := wayF_ge row f _ q e
        omega
    · rw [List.mem_singleton.mp hq]
      exact Nat.le_refl _
theorem wayF_rise {row : List Nat} (hc : ∀ c ∈ row, 1 ≤ c) : ∀ f p, p < row.length → (wayF row f p).Pairwise (· < ·)
  | 0, p, _ => by
    unfold wayF
    exact List.pairwise_singleton _ _
  | f + 1, p, hp => by
    rw [wayF_succ]
    split
    · rename_i h
      refine List.pairwise_cons.mpr ⟨fun q hq => ?_, wayF_rise hc f _ h⟩
      have h1 := wayF_ge row f _ q hq
      have h2 : 1 ≤ row.getD p 0 := hc _ (List.mem_of_getElem? (by rw [List.getD_eq_getElem?_getD, List.getElem?_eq_getElem hp]; rfl))
      omega
    · exact List.pairwise_singleton _ _
theorem way_rise {row : List Nat} (hc : ∀ c ∈ row, 1 ≤ c) {p : Nat} (hp : p < row.length) : (way row p).Pairwise (· < ·) := wayF_rise hc _ p hp
/-- the places on both ways, by the other's way -/
def bothL (row : List Nat) (one other : Nat) : List Nat := (way row other).filter fun p => decide (p ∈ way row one)
def firstC (row : List Nat) (one other : Nat) : Option Nat := (bothL row one other).head?
theorem both_sym {row : List Nat} (hc : ∀ c ∈ row, 1 ≤ c) {p q : Nat} (hp : p < row.length) (hq : q < row.length) : bothL row p q = bothL row q p := by
  refine rising_eq ((way_rise hc hq).filter _) ((way_rise hc hp).filter _) fun x => ?_
  unfold bothL
  rw [List.mem_filter, List.mem_filter, decide_eq_true_iff, decide_eq_true_iff]
  exact And.comm
theorem last_mem (row : List Nat) (p : Nat) : lastOf row p ∈ way row p := List.getLast_mem _
theorem apart_ne {row : List Nat} {one other : Nat} (h : firstC row one other = none) : lastOf row one ≠ lastOf row other := by
  intro e
  have h1 : bothL row one other = [] := List.head?_eq_none_iff.mp h
  have h2 : lastOf row other ∈ bothL row one other := by
    unfold bothL
    rw [List.mem_filter, decide_eq_true_iff]
    exact ⟨last_mem row other, by rw [← e]; exact last_mem row one⟩
  rw [h1] at h2
  exact List.not_mem_nil h2
/-- what is told of two ways -/
inductive Ans where
  | meet (z : Int)
  | apart (m t : Int)
  deriving DecidableEq
def isMeet : Ans → Bool
  | .meet _ => true
  | .apart _ _ => false
def cmpA (row : List Nat) (one other : Nat) : Ans := match firstC row one other with
  | some p => .meet (p : Int)
  | none => .apart (lastOf row one : Int) (lastOf row other : Int)
/-- whether it shows so -/
def shB (row : List Nat) (one other : Nat) : Ans → Bool
  | .meet z => match firstC row one other with
    | some p => decide (z = (p : Int))
    | none => false
  | .apart m t => if m = t then false else (m == (lastOf row one : Int) && (t == (lastOf row other : Int) && true))
def dueB (row : List Nat) (one other : Nat) : Ans → Bool
  | .meet z => match firstC row one other with
    | some p => decide (z = (p : Int))
    | none => false
  | .apart m t => (!decide ((lastOf row one : Int) = (lastOf row other : Int))) && (m == (lastOf row one : Int) && (t == (lastOf row other : Int) && true))
theorem due_sh (row : List Nat) (one other : Nat) (a : Ans) : dueB row one other a = shB row one other a := by
  cases a with
  | meet z => rfl
  | apart m t =>
    show ((!decide ((lastOf row one : Int) = (lastOf row other : Int))) && (m == (lastOf row one : Int) && (t == (lastOf row other : Int) && true))) = if m = t then false else (m == (lastOf row one : Int) && (t == (lastOf row other : Int) && true))
    by_cases h : m = t
    · rw [if_pos h]
      subst h
      by_cases h1 : (lastOf row one : Int) = (lastOf row other : Int)
      · rw [decide_eq_true h1]
        rfl
      · by_cases h2 : m = (lastOf row one : Int)
        · have h3 : ¬ m = (lastOf row other : Int) := fun z => h1 (h2.symm.trans z)
          rw [beq_eq_false_iff_ne.mpr h3]
          simp
        · rw [beq_eq_false_iff_ne.mpr h2]
          simp
    · rw [if_neg h]
      by_cases h1 : (lastOf row one : Int) = (lastOf row other : Int)
      · rw [decide_eq_true h1]
        have h3 : ¬ (m = (lastOf row one : Int) ∧ t = (lastOf row other : Int)) := fun z => h (z.1.trans (h1.trans z.2.symm))
        by_cases h2 : m = (lastOf row one : Int)
        · have h4 : ¬ t = (lastOf row other : Int) := fun z => h3 ⟨h2, z⟩
          rw [beq_eq_false_iff_ne.mpr h4]
          simp
        · rw [beq_eq_false_iff_ne.mpr h2]
          simp
      · rw [decide_eq_false h1]
        rfl
theorem sh_cmp (row : List Nat) (one other : Nat) : shB row one other (cmpA row one other) = true := by
  unfold cmpA
  cases e : firstC row one other with
  | some p =>
    unfold shB
    rw [e]
    exact decide_eq_true rfl
  | none =>
    have h := apart_ne e
    show (if (lastOf row one : Int) = (lastOf row other : Int) then false else ((lastOf row one : Int) == (lastOf row one : Int) && ((lastOf row other : Int) == (lastOf row other : Int) && true))) = true
    rw [if_neg (by omega)]
    simp
end Rt

namespace Rt
open PySem L2
theorem rg4 : ∀ j : Nat, 1 ≤ j → j ≤ 12 → RgC 0 (j : Int) 4 ((j + 3) / 4) := by
  intro j h1 h2
  have hs : Builtin.Range.small 0 (j : Int) 4 = true ∧ Builtin.Range.rangeSize 0 (j : Int) 4 = (((j + 3) / 4 : Nat) : Int) := by
    rcases (show j = 1 ∨ j = 2 ∨ j = 3 ∨ j = 4 ∨ j = 5 ∨ j = 6 ∨ j = 7 ∨ j = 8 ∨ j = 9 ∨ j = 10 ∨ j = 11 ∨ j = 12 by omega) with h | h | h | h | h | h | h | h | h | h | h | h <;> subst h <;> exact ⟨by decide +kernel, by decide +kernel⟩
  exact ⟨by decide, by decide, hs.1, hs.2⟩
theorem byJ (n : Nat) : ∃ j : Nat, 1 ≤ j ∧ j ≤ 12 ∧ (if (if (n : Int) < 12 then (n : Int) else 12) > 1 then (if (n : Int) < 12 then (n : Int) else 12) else 1) = (j : Int) := by
  refine ⟨max 1 (min 12 n), by omega, by omega, ?_⟩
  split <;> split <;> omega
end Rt

/-! Further: ranges as lists, lists put together, loops over tuples, objects in lists. -/
namespace Rt
open PySem PySem.Spec PyProof.Rows L2 Evl
section
variable {K : PySem.W.Frag} {σ : L2.St} {H H' : Hp} {ta tb tc te : TE} {x y z v : V} {D : Ends} {tz : TS}
theorem rgV_N (n : Nat) : rgV 0 (n : Int) = vNs (List.range n) := by
  unfold rgV vNs
  rw [show ((n : Int) - 0).toNat = n by omega]
  refine List.map_congr_left fun i _ => ?_
  show V.int _ = V.int _
  rw [Int.zero_add]
/-- list(range(n)) -/
theorem el_listRg {n : Nat} (h : Ev ta σ H (vN n)) (hn : n ≤ 100000) : EvL (tLstRg (tRg1 ta)) σ H (vNs (List.range n)) := fun H1 e Q q =>
  h H1 e _ fun H2 e2 => ⟨(n : Int), rfl, rgOk_small hn, fun l hl => by
    rw [rgV_N]
    exact q l _ (fresh_back e2 hl) (e2.trans (Ex.new hl)) upd_same⟩
where
  rgOk_small {n : Nat} (hn : n ≤ 100000) : RgOk 0 (n : Int) := by
    unfold RgOk
    refine ⟨?_, ?_, ?_, ?_⟩ <;> first | omega | (have h : 100000 ≤ sizeLine := by decide
                                                 omega) | decide
/-- two new lists: + -/
theorem el_cat {xs ys : List V} (h1 : EvL ta σ H xs) (h2 : EvL tb σ H ys) (hz : xs.length + ys.length ≤ 100000) : EvL (tOp rCat ta tb) σ H (xs ++ ys) := fun H1 e Q q =>
  h1 H1 e _ fun p H2 np e2 hp => h2 H2 (e.trans e2) _ fun r H3 nr e3 hr =>
    ⟨p, r, xs, ys, rfl, rfl, e3 p _ hp, hr, sz_of hz, fun l hl => q l _ (fresh_back (e2.trans e3) hl) ((e2.trans e3).trans (Ex.new hl)) upd_same⟩
/-- a list that stands and a new one: + -/
theorem el_cat1 {xs ys : List V} {l : Addr} (h1 : Ev ta σ H (.ref l)) (hl : H l = some (.lst xs)) (h2 : EvL tb σ H ys) (hz : xs.length + ys.length ≤ 100000) : EvL (tOp rCat ta tb) σ H (xs ++ ys) := fun H1 e Q q =>
  h1 H1 e _ fun H2 e2 => h2 H2 (e.trans e2) _ fun r H3 nr e3 hr =>
    ⟨l, r, xs, ys, rfl, rfl, ((e.trans e2).trans e3) l _ hl, hr, sz_of hz, fun c hc => q c _ (fresh_back (e2.trans e3) hc) ((e2.trans e3).trans (Ex.new hc)) upd_same⟩
theorem rv_isBl {a b : Bool} : RV rIsB (.bl a) (.bl b) H (.bl (decide (a = b))) := fun H1 _ _ q => ⟨a, b, rfl, rfl, q H1 (Ex.refl H1)⟩
theorem rv_notBl {a b : Bool} : RV rNotB (.bl a) (.bl b) H (.bl (!decide (a = b))) := fun H1 _ _ q => ⟨a, b, rfl, rfl, q H1 (Ex.refl H1)⟩
/-- for x in data, a tuple -/
theorem s_forDT {g : TG} {tu : TS} {tl : TE} {ds : List PyData} (h : EvD K tl σ H (.tuple ds)) (Pv : Hp → Nat → L2.St → Hp → Prop) (h0 : ∀ H1, Ex H H1 → Pv H1 0 σ H1) (hx : ∀ H1 i σ' H', Pv H1 i σ' H' → Ex H1 H')
    (hs : ∀ H1, Ex H H1 → ∀ i x d σ' H', ds[i]? = some d → Dp K H' x d → Pv H1 i σ' H' → g x σ' H' fun σ2 H2 => tu { D with nx := Pv H1 (i + 1), ct := Pv H1 (i + 1), bk := D.nx } σ2 H2)
    (hd : ∀ H1, Ex H H1 → ∀ σ' H', Pv H1 ds.length σ' H' → D.nx σ' H') : tFor (iTup K tl) g tu D σ H :=
  h H (Ex.refl H) _ fun v H1 e hv => by
    cases hv with
    | @tup a xs _ hq hall =>
      refine ⟨a, rfl, ⟨xs, hq⟩, for_tup (Pv H1) (h0 H1 e) (fun i σ' H' _ p => ex_t (hx H1 i σ' H' p) hq) (fun i x σ' H' hi p => ?_) fun σ' H' p => hd H1 e σ' H' (by rw [← dpAll_len hall]; exact p)⟩
      obtain ⟨d, h1, h2⟩ := s_forD.dpAll_get hall hi
      exact hs H1 e i x d σ' H' h1 (Dp.ex (hx H1 i σ' H' p) h2) p
theorem q_forDT {g : TG} {tu : TS} {tl : TE} {ds : List PyData} (h : EvD K tl σ H (.tuple ds)) (Pv : Hp → Nat → L2.St → Hp → Prop) (h0 : ∀ H1, Ex H H1 → Pv H1 0 σ H1) (hx : ∀ H1 i σ' H', Pv H1 i σ' H' → Ex H1 H')
    (hs : ∀ H1, Ex H H1 → ∀ i x d σ' H', ds[i]? = some d → Dp K H' x d → Pv H1 i σ' H' → g x σ' H' fun σ2 H2 => tu { D with nx := Pv H1 (i + 1), ct := Pv H1 (i + 1), bk := tz D } σ2 H2)
    (hd : ∀ H1, Ex H H1 → ∀ σ' H', Pv H1 ds.length σ' H' → tz D σ' H') : tSeq (tFor (iTup K tl) g tu) tz D σ H := s_forDT (D := { D with nx := tz D }) h Pv h0 hx hs hd
/-- for x in (a, b, ..), a name for target; the word is kept to what stands at the loop's start -/
theorem s_forU {tu : TS} {tl : TE} {j : Nat} {xs : List V} (h : EvU tl σ H xs) (Pv : Hp → Nat → L2.St → Hp → Prop) (h0 : ∀ H1, Ex H H1 → Pv H1 0 σ H1) (hx : ∀ H1 i σ' H', Pv H1 i σ' H' → Ex H1 H')
    (hs : ∀ H1, Ex H H1 → ∀ i x σ' H', xs[i]? = some x → Pv H1 i σ' H' → tu { D with nx := Pv H1 (i + 1), ct := Pv H1 (i + 1), bk := D.nx } (σ'.set j (some x)) H')
    (hd : ∀ H1, Ex H H1 → ∀ σ' H', Pv H1 xs.length σ' H' → D.nx σ' H') : tFor (iTup K tl) (gName j) tu D σ H :=
  h H (Ex.refl H) _ fun p H1 np e hp => ⟨p, rfl, ⟨xs, st_of hp⟩, for_tup (Pv H1) (h0 H1 e) (fun i σ' H' _ w => st_of (hx H1 i σ' H' w p _ hp)) (fun i x σ' H' hi w => hs H1 e i x σ' H' hi w) fun σ' H' w => hd H1 e σ' H' w⟩
/-- for x in [..], the same -/
theorem s_forN {tu : TS} {tl : TE} {j : Nat} {xs : List V} (h : EvL tl σ H xs) (Pv : Hp → Nat → L2.St → Hp → Prop) (h0 : ∀ H1, Ex H H1 → Pv H1 0 σ H1) (hx : ∀ H1 i σ' H', Pv H1 i σ' H' → Ex H1 H')
    (hs : ∀ H1, Ex H H1 → ∀ i x σ' H', xs[i]? = some x → Pv H1 i σ' H' → tu { D with nx := Pv H1 (i + 1), ct := Pv H1 (i + 1), bk := D.nx } (σ'.set j (some x)) H')
    (hd : ∀ H1, Ex H H1 → ∀ σ' H', Pv H1 xs.length σ' H' → D.nx σ' H') : tFor (iList K tl) (gName j) tu D σ H :=
  h H (Ex.refl H) _ fun p H1 np e hp => ⟨p, rfl, ⟨xs, sq_of hp⟩, for_list (Pv H1) (h0 H1 e) (fun i σ' H' _ w => sq_of (hx H1 i σ' H' w p _ hp)) (fun i x σ' H' hi w => hs H1 e i x σ' H' hi w) fun σ' H' w => hd H1 e σ' H' w⟩
theorem q_forN {tu : TS} {tl : TE} {j : Nat} {xs : List V} (h : EvL tl σ H xs) (Pv : Hp → Nat → L2.St → Hp → Prop) (h0 : ∀ H1, Ex H H1 → Pv H1 0 σ H1) (hx : ∀ H1 i σ' H', Pv H1 i σ' H' → Ex H1 H')
    (hs : ∀ H1, Ex H H1 → ∀ i x σ' H', xs[i]? = some x → Pv H1 i σ' H' → tu { D with nx := Pv H1 (i + 1), ct := Pv H1 (i + 1), bk := tz D } (σ'.set j (some x)) H')
    (hd : ∀ H1, Ex H H1 → ∀ σ' H', Pv H1 xs.length σ' H' → tz D σ' H') : tSeq (tFor (iList K tl) (gName j) tu) tz D σ H := s_forN (D := { D with nx := tz D }) h Pv h0 hx hs hd
/-- [e for x in xs], told by the turn -/
theorem el_mapLi {a : Addr} {xs : List V} {tl : TE} {j : Nat} {vs : List Nat} (g : Nat → V) (h : Ev tl σ H (.ref a)) (hx : SqL K H a xs) (hz : xs.length ≤ 40000)
    (he : ∀ i x, xs[i]? = some x → ∀ H1, Ex H H1 → Ev te ((wipe σ vs).set j (some x)) H1 (g i)) (hw : ∀ x, wipe ((wipe σ vs).set j (some x)) vs = wipe σ vs := by intro _; rfl) :
    EvL (tLc (iList K tl) (gName j) tYes te vs) σ H ((List.range xs.length).map g) :=
  el_to (el_lcL (fun _ => true) g h hx hz hw (fun _ _ _ _ _ => et_yes) fun i x H1 e1 hi _ => he i x hi H1 e1) (given_all _ g)
end
end Rt
namespace Rt
open PySem PySem.Spec PyProof.Rows L2 Evl
section
variable {K : PySem.W.Frag} {σ : L2.St} {H H' : Hp} {ta te : TE} {z : V}
/-- C(..).m([..], ..) -/
theorem ev_methOL {C : Addr} {fs : List (Str × V)} {m : Str} {sp : Sp} {dvs vs xs : List V} {E : XK} {tr : TA} (h : EvO ta σ H C fs) (hm : fs.lookup m = none) (hl : EvL te σ H xs) (hr : EvA tr σ H vs)
    (hs : ∀ a dx p H1, Ex H H1 → H1 a = some (.ins C dx fs) → H1 p = some (.lst xs) → SpV sp (.ref a :: ((.ref p :: vs) ++ dvs)) H1 z) : Ev (tMeth C m sp dvs E ta (tCons te tr)) σ H z := fun H1 e Q q =>
  h H1 e _ fun a dx H2 na e2 ha => ⟨a, dx, fs, rfl, ha, hm, hl H2 (e.trans e2) _ fun p H3 np e3 hp => hr H3 ((e.trans e2).trans e3) _ fun H4 e4 =>
    hs a dx p H4 (((e.trans e2).trans e3).trans e4) (e4 a _ (e3 a _ ha)) (e4 p _ hp) H4 (Ex.refl H4) Q (fun H5 e5 => q H5 (((e2.trans e3).trans e4).trans e5)) E⟩
theorem dpAll_bl : ∀ bs : List Bool, DpAll K H (bs.map V.bl) (bs.map PyData.bool)
  | [] => .nil
  | b :: r => .cons (.bl b) (dpAll_bl r)
theorem en_bls {bs : List Bool} (h : EvL te σ H (bs.map V.bl)) : EvN K te σ H (.list (bs.map PyData.bool)) := en_l h fun _ => dpAll_bl bs
theorem range_map_getD {α : Type} (l : List α) (d : α) (f : α → V) : (List.range l.length).map (fun i => f (l.getD i d)) = l.map f := by
  refine List.ext_getElem (by simp) fun i h1 h2 => ?_
  have h3 : i < l.length := by simpa using h2
  simp [List.getD_eq_getElem?_getD, List.getElem?_eq_getElem h3]
end
end Rt

/-! set(a list of ints), with what sorted asks of the set. (The layer has it of a tuple alone.) -/
namespace Rt
open PySem PySem.Spec PyProof.Rows L2 Evl
/-- the set as it is made, empty -/
abbrev set0 (w : World) : Obj := { cls := .type "set", dict := none, data := .set #[] 0 (.fresh 0 0 (!w.params.followText "set-order")) }
section
variable {P : Program} {w : World} {A : Around} {E : Value → Shared → Prop} {s : Shared}
/-- what is left behind set.__init__ -/
def SetMade (w : World) (s : Shared) (ns : List Int) (s2 : Shared) : Prop :=
  ∃ (h2 : Heap) (tk c : Nat), s2 = { s with heap := h2, toks := tk } ∧ SetR w h2 s.heap.objs.size (fun j => decide (j ∈ ns)) c ∧ c ≤ ns.length ∧ ∀ b o, s.heap.get? b = some o → h2.get? b = some o
set_option maxHeartbeats 4000000 in
theorem set_init_list {l : Addr} {items : Array Value} {B : Around} (ns : List Int) (hh : B.handled = none) (hl : s.heap.IsList l items) (hit : IntsAre items.toList ns) (hb : ns.length + 1 < scanBound) :
    wpAny (model P w) B.in1 (Builtin.«set.__init__» ⟨[.ref s.heap.objs.size, .ref l], []⟩)
      (fun fin s1 => match fin with
        | .done f => wants (fun r s2 => r = Value.none ∧ SetMade w s ns s2) E (.ok f) s1
        | .again c => c.quiet = true ∧ codeAny (model P w) B c (wants (fun r s2 => r = Value.none ∧ SetMade w s ns s2) E) s1)
      (fun e s1 => wants (fun r s2 => r = Value.none ∧ SetMade w s ns s2) E (.error e) s1) { s with heap := s.heap.push (set0 w) } := by
  have size : items.size = ns.length := by simpa using IntsAre.length hit
  obtain ⟨⟨oc, od, odt, osl⟩, at0, ec, nl, ed⟩ := hl
  dsimp only at ec ed
  subst ec ed
  have at1 : (s.heap.push (set0 w)).get? l = some { cls := .type "list", dict := od, data := .seq items nl, slots := osl } := Heap.get?_push_of_some _ at0
  have lst1 : (s.heap.push (set0 w)).IsList l items := ⟨_, at1, rfl, nl, rfl⟩
  have old : l < s.heap.objs.size := Heap.lt_size at0
  have new : (s.heap.push (set0 w)).objs.size = s.heap.objs.size + 1 := Heap.size_push ..
  have self1 : (s.heap.push (set0 w)).get? s.heap.objs.size = some (set0 w) := Heap.get?_push_size _ rfl
  have k1 := F.sub_list_set
  have k2 := F.sub_list_frozenset
  have k3 : (Value.type "list" == Value.type "dict") = false := by decide
  unfold Builtin.«set.__init__» noKeywords Builtin.Frozenset.updateFrom
  generalize ePI : pyIter = PI
  wp_walk
  subst ePI
  refine wpAny_pyIter_list lst1 (wpAny_bind (wpAny_runValue ?_))
  have apart : l ≠ (s.heap.push (set0 w)).objs.size := by
    rw [new]
    exact Nat.ne_of_lt (Nat.lt_succ_of_lt old)
  have own : s.heap.objs.size ∉ [(s.heap.push (set0 w)).objs.size, l] := by
    rw [new]
    intro z
    simp only [List.mem_cons, List.not_mem_nil, or_false] at z
    rcases z with z | z
    · exact absurd z (Nat.ne_of_lt (Nat.lt_succ_self _))
    · exact absurd z (Nat.ne_of_gt old)
  have each : ∀ (i : Nat) (v : Value), items[i]? = some v → ∃ k t, ns[i]? = some k ∧ v = .int k t := by
    intro i v e
    have lt : i < ns.length := by
      rw [← size]
      exact (Array.getElem?_eq_some_iff.mp e).1
    obtain ⟨t, q⟩ := PyProof.Rows.IntsAre.int_at hit i v (by rw [Array.getElem?_toList]; exact e)
    exact ⟨ns[i], t, List.getElem?_eq_getElem lt, by rw [q, List.getD_eq_getElem?_getD, List.getElem?_eq_getElem lt]; rfl⟩
  have quiet : B.in1.in1.in1.handled = none := by simp [hh]
  refine set_update_ints ((Walks.list (by first | exact quiet | simp [hh]) _ l apart items).toS) s.heap.objs.size own ns size hb each (items.size - 0) 0 _ (by omega) (Nat.zero_le _) ⟨⟨_, Heap.get?_push_size _ rfl, rfl, rfl⟩, lst1.push _⟩ ?_ ?_
  · exact ⟨0, Nat.le_refl 0, setR_new_at (Heap.get?_push_of_some _ self1)⟩
  · rintro ⟨h2, g2, d2, tk2, os2⟩ c moved hc R
    have e1 : g2 = s.gens := moved.gens
    have e2 : d2 = s.drawn := moved.drawn
    have e3 : os2 = s.os := moved.os
    subst e1 e2 e3
    refine wpAny_pure ?_
    show wpAny _ _ (ret Value.none) _ _ _
    refine wpAny_pure ⟨rfl, h2, tk2, c, rfl, R, by omega, ?_⟩
    intro b o e
    have hlt : b < s.heap.objs.size := Heap.lt_size e
    refine moved.heap b o ?_ (Heap.get?_push_of_some _ (Heap.get?_push_of_some _ e))
    rw [new]
    intro z
    simp only [List.mem_cons, List.not_mem_nil, or_false] at z
    rcases z with z | z
    · exact absurd z (Nat.ne_of_lt hlt)
    · exact absurd z (Nat.ne_of_lt (Nat.lt_succ_of_lt hlt))
set_option maxHeartbeats 4000000 in
theorem set_of_list {l : Addr} {items : Array Value} {Q : Value → Shared → Prop} (ns : List Int) (hh : A.handled = none) (hl : s.heap.IsList l items) (hit : IntsAre items.toList ns) (hb : ns.length + 1 < scanBound)
    (h : ∀ s2, SetMade w s ns s2 → Q (.ref s.heap.objs.size) s2) : wpAny (model P w) A (call (.type "set") [.ref l]) Q E s := by
  obtain ⟨mc, mt, f0⟩ := F.called_set.mro
  have f1 := F.called_set.made
  have f2 := F.called_set.sub
  have f3 := F.called_set.notType
  have f4 := F.called_set.canCreate
  have f5 := F.typeCall_set_1 (.ref l)
  have f6 := F.called_set.init.lookup
  have f7 := F.called_set.init.bind (.ref s.heap.objs.size)
  refine wpAny_call (codeAny_of_tree (show wpAny _ _ (callAny (.type "set") _) _ _ _ from wpAny_pure ⟨Code.quiet_builtin _ (by decide +kernel), codeAny_builtin F.entry_type_call ?_⟩))
  rw [Around.under_plain (weight_type_call_type "set" [.ref l] []) rfl]
  repeat (any_goals (first | assumption | wp_step))
  refine codeAny_mono (code_set_led1 (.ref l) (E := E) (Q₁ := fun v t => v = .ref s.heap.objs.size ∧ t = { s with heap := s.heap.push (set0 w) }) ⟨rfl, rfl⟩) ?_
  intro r t hr
  rcases r with e | fl
  · exact hr
  cases fl with
  | ret v =>
    obtain ⟨rfl, rfl⟩ := hr
    have ty : Shared.TypeIs { s with heap := s.heap.push (set0 w) } (.ref s.heap.objs.size) "set" := ⟨_, Heap.get?_push_size _ rfl, rfl⟩
    repeat (any_goals (first | assumption | wp_step))
    refine codeAny_mono (codeAny_call_builtin (R := wants (fun r s2 => r = .none ∧ SetMade w s ns s2) E) F.called_set.init.plain F.entry_set_init (check_set_init_1 ty ?_)) ?_
    · first
        | exact set_init_list ns (by simp [hh]) hl hit hb
        | exact set_init_list (B := _) ns hh hl hit hb
    · intro r2 s2 hr2
      rcases r2 with e | fl2
      · exact hr2
      cases fl2 with
      | ret r =>
        obtain ⟨rfl, made⟩ := hr2
        repeat (any_goals (first | assumption | wp_step))
        exact h _ made
      | _ => exact hr2.elim
  | _ => exact hr.elim
end
/-- set(xs) of a list of ints, as a rule -/
def rSetL (K : PySem.W.Frag) (w : World) : List V → Hp → VK → Prop := fun xs H Q => ∃ (a : Addr) (ns : List Int), xs = [.ref a] ∧ SqL K H a (ns.map V.int) ∧ ns.length ≤ 1000 ∧
  ∀ p c, H p = none → c ≤ ns.length → Q (.ref p) (upd H p (SetO w p (fun j => decide (j ∈ ns)) c))
theorem cr_setL {X : Cx} (hc : X.calm = true) : CallR X (.type "set") (rSetL X.K X.w) := by
  intro pins s σ H xs us Q I r h
  obtain ⟨a, ns, rfl, hS, hn, q⟩ := h
  obtain ⟨u, rfl, ru⟩ := vals1 r
  cases (show u = Value.ref a from ru)
  obtain ⟨its, rv, ⟨o, n, ho, hcl, _, hd⟩, _⟩ := I.list hS
  refine set_of_list ns (I.ok.hd hc) ⟨o, ho, hcl, n, hd⟩ (by simpa using ints_of_vals rv) (by unfold scanBound; omega) ?_
  rintro s2 ⟨h2, tk, c, rfl, R, hle, keep⟩
  have fresh : s.heap.objs.size ≤ s.heap.objs.size := Nat.le_refl _
  exact ⟨.ref s.heap.objs.size, _, I.laid (t' := tk) keep fresh (setO_new R), rfl, q _ c (I.hok.fresh fresh) hle⟩
end Rt

/-! Dicts, sorted, counts; comprehensions that tell data. -/
namespace Rt
open PySem PySem.Spec PyProof.Rows L2 Evl
section
variable {K : PySem.W.Frag} {σ : L2.St} {H H' : Hp} {ta tb tc td te tl tx ty : TE} {x y z v : V} {D : Ends} {tz : TS}
/-- d.get(k, z) -/
theorem ev_get2 {a : Addr} {kvs : List (Key × V)} {k : Key} (hd : Ev td σ H (.ref a)) (ha : H a = some (.dK kvs)) (hk : Ev ty σ H (kV k)) (hz : Ev tx σ H z) : Ev (tDGet2 td ty tx) σ H ((valV kvs k).getD z) := fun H1 e Q q =>
  hd H1 e _ fun H2 e2 => ⟨a, rfl, .inl ⟨kvs, .inl ((e.trans e2) a _ ha)⟩, hk H2 (e.trans e2) _ fun H3 e3 => hz H3 ((e.trans e2).trans e3) _ fun H4 e4 =>
    ⟨valV kvs k, DGet.k ((((e.trans e2).trans e3).trans e4) a _ ha), q H4 ((e2.trans e3).trans e4)⟩⟩
/-- d[k] -/
theorem ev_dget {a : Addr} {kvs : List (Key × V)} {k : Key} (hd : Ev td σ H (.ref a)) (ha : H a = some (.dK kvs)) (hk : Ev ty σ H (kV k)) (hv : valV kvs k = some v) : Ev (tDGet td ty) σ H v := fun H1 e Q q =>
  hd H1 e _ fun H2 e2 => hk H2 (e.trans e2) _ fun H3 e3 => ⟨a, v, rfl, by rw [← hv]; exact DGet.k (((e.trans e2).trans e3) a _ ha), q H3 (e2.trans e3)⟩
/-- d[k] = v -/
theorem s_dput {a : Addr} {kvs : List (Key × V)} {k : Key} (ha : H a = some (.dK kvs)) (hv : Ev te σ H v) (hd : Ev td σ H (.ref a)) (hk : Ev ty σ H (kV k)) (hl : kvs.length < 100000) (q : ∀ H1, Ex H H1 → D.nx σ (upd H1 a (.dK (putK kvs k v)))) : sDPut td ty te D σ H :=
  hv H (Ex.refl H) _ fun H1 e1 => hd H1 e1 _ fun H2 e2 => hk H2 (e1.trans e2) _ fun H3 e3 => ⟨a, _, rfl, DPut.k (((e1.trans e2).trans e3) a _ ha) (sz_lt hl), q H3 ((e1.trans e2).trans e3)⟩
theorem q_dnew {i : Nat} (q : ∀ p H1, H p = none → Ex H H1 → H1 p = some (.dK []) → tz D (σ.set i (some (.ref p))) H1) : tSeq (tAsg tDNewK (gName i)) tz D σ H := fun p hp => q p _ hp (Ex.new hp) upd_same
/-! sorted -/
theorem rise_ints {ys ks : List Int} {rs : List Nat} (p : ys.Perm ks) (hs : ys.Pairwise (· ≤ ·)) (nd : ks.Nodup) (hr : rs.Pairwise (· < ·)) (hm : ∀ z : Int, z ∈ ks ↔ ∃ n : Nat, n ∈ rs ∧ z = (n : Int)) : ys = rs.map fun n : Nat => (n : Int) := by
  have ndy : ys.Nodup := p.symm.nodup nd
  have hlt : ys.Pairwise (· < ·) := by
    have h2 := List.Pairwise.and hs ndy
    exact h2.imp fun h => Int.lt_iff_le_and_ne.mpr h
  have e : ys.map Int.toNat = rs := by
    refine rising_eq ?_ hr fun n => ?_
    · rw [List.pairwise_map]
      refine List.Pairwise.imp_of_mem ?_ hlt
      intro x y hx hy hxy
      obtain ⟨n, _, rfl⟩ := (hm x).mp (p.mem_iff.mp hx)
      obtain ⟨m, _, rfl⟩ := (hm y).mp (p.mem_iff.mp hy)
      omega
    · constructor
      · intro h
        obtain ⟨z, hz, rfl⟩ := List.mem_map.mp h
        obtain ⟨m, hm1, rfl⟩ := (hm z).mp (p.mem_iff.mp hz)
        exact hm1
      · intro h
        exact List.mem_map.mpr ⟨(n : Int), p.mem_iff.mpr ((hm _).mpr ⟨n, h, rfl⟩), rfl⟩
  rw [← e, List.map_map]
  have : ∀ z ∈ ys, ((fun n : Nat => (n : Int)) ∘ Int.toNat) z = z := by
    intro z hz
    obtain ⟨m, _, rfl⟩ := (hm z).mp (p.mem_iff.mp hz)
    rfl
  rw [List.map_congr_left this, List.map_id']
def rSortDI : List V → Hp → VK → Prop := fun xs H Q => ∃ (a : Addr) (kvs : List (Key × V)) (ks : List Int), xs = [.ref a] ∧ Rd H a (.dK kvs) ∧ kvs.map (·.1) = ks.map Sum.inl ∧ ks.length < 64 ∧ ∀ (ys : List Int) (p : Addr), ys.Perm ks → ys.Pairwise (· ≤ ·) → H p = none → Q (.ref p) (upd H p (.lst (ys.map V.int)))
/-- sorted(d), d with keys that are numbers -/
theorem el_sortD {a : Addr} {kvs : List (Key × V)} {ks rs : List Nat} (h : Ev ta σ H (.ref a)) (ha : H a = some (.dK kvs)) (hk : kvs.map (·.1) = ks.map fun n : Nat => Sum.inl (n : Int)) (h64 : ks.length < 64) (nd : ks.Nodup) (hr : rs.Pairwise (· < ·)) (hm : ∀ n, n ∈ ks ↔ n ∈ rs) :
    EvL (tCB rSortDI (tCons ta tNil)) σ H (vNs rs) := fun H1 e Q q =>
  h H1 e _ fun H2 e2 => ⟨a, kvs, ks.map fun n : Nat => (n : Int), rfl, .inl ((e.trans e2) a _ ha), by rw [hk, List.map_map]; rfl, by rw [List.length_map]; exact h64, fun ys p pm sr hp => by
    have ndI : (ks.map fun n : Nat => (n : Int)).Nodup := List.Pairwise.map _ (fun x y hxy => by omega) nd
    have := rise_ints pm sr ndI hr (fun z => by
      constructor
      · intro hz
        obtain ⟨n, hn, rfl⟩ := List.mem_map.mp hz
        exact ⟨n, (hm n).mp hn, rfl⟩
      · rintro ⟨n, hn, rfl⟩
        exact List.mem_map.mpr ⟨n, (hm n).mpr hn, rfl⟩)
    rw [this, List.map_map]
    exact q p _ (fresh_back e2 hp) (e2.trans (Ex.new hp)) upd_same⟩
/-- sorted(set(l)) -/
theorem el_sortSet {w : World} {a : Addr} {l rs : List Nat} (h : Ev ta σ H (.ref a)) (ha : SqL K H a (vNs l)) (hl : l.length < 64) (hr : rs.Pairwise (· < ·)) (hm : ∀ n, n ∈ l ↔ n ∈ rs) :
    EvL (tCB (rSortedSet w) (tCons (tCB (rSetL K w) (tCons ta tNil)) tNil)) σ H (vNs rs) := fun H1 e Q q =>
  h H1 e _ fun H2 e2 => ⟨a, l.map fun n : Nat => (n : Int), rfl, by rw [List.map_map]; exact ex_l (e.trans e2) ha, by rw [List.length_map]; omega, fun s c hs hc => ⟨s, _, c, rfl, upd_same, by rw [List.length_map] at hc; omega, fun ns p pw mem hlen hp => by
    have ndz : ns.Nodup := pw.imp fun h => Int.ne_of_lt h
    have := rise_ints (List.Perm.refl ns) (pw.imp fun h => Int.le_of_lt h) ndz hr (fun z => by
      rw [mem z, decide_eq_true_iff]
      constructor
      · intro hz
        obtain ⟨n, hn, rfl⟩ := List.mem_map.mp hz
        exact ⟨n, (hm n).mp hn, rfl⟩
      · rintro ⟨n, hn, rfl⟩
        exact List.mem_map.mpr ⟨n, (hm n).mpr hn, rfl⟩)
    rw [this, List.map_map]
    exact q p _ (fresh_back (e2.trans (Ex.new hs)) hp) ((e2.trans (Ex.new hs)).trans (Ex.new hp)) upd_same⟩⟩
theorem count_int (l : List Nat) (n : Nat) : (l.map fun n : Nat => (n : Int)).count (n : Int) = l.count n := by
  induction l with
  | nil => rfl
  | cons m r ih =>
    rw [List.map_cons, List.count_cons, List.count_cons, ih]
    congr 1
    by_cases h : m = n
    · subst h
      simp
    · have h2 : ¬ (m : Int) = (n : Int) := by omega
      simp [h, h2]
/-- l.count(n) -/
theorem ev_count {a : Addr} {l : List Nat} {n : Nat} (h : Ev ta σ H (.ref a)) (ha : SqL K H a (vNs l)) (hn : Ev tb σ H (vN n)) : Ev (tBM K "list" (rCntI K) ta (tCons tb tNil)) σ H (vN (l.count n)) := fun H1 e Q q =>
  h H1 e _ fun H2 e2 => ⟨.inl ⟨rfl, _, ex_l (e.trans e2) ha⟩, hn H2 (e.trans e2) _ fun H3 e3 => ⟨a, l.map fun n : Nat => (n : Int), (n : Int), rfl, rfl, by rw [List.map_map]; exact ex_l ((e.trans e2).trans e3) ha, by
    rw [count_int]
    exact q H3 (e2.trans e3)⟩⟩
theorem tyx_t {a : Addr} {xs : List V} (h : SqT K H a xs) : TyX K H (.ref a) (.type "tuple") := by
  rcases h with (h | ⟨o, h⟩) | ⟨o, its, n, hk, hc, _⟩
  · exact .base (.tup h)
  · exact .fTuple h
  · exact .kTuple hk hc
theorem dp_N_inv {l : List Nat} (h : Dp K H v (pdN l)) : ∃ a, v = .ref a ∧ SqL K H a (vNs l) := by
  cases h with
  | @lst a xs _ hq hall => exact ⟨a, rfl, by rw [← dpAll_N_inv hall]; exact hq⟩
where
  dpAll_N_inv : ∀ {l : List Nat} {xs : List V}, DpAll K H xs (l.map fun n : Nat => PyData.int (n : Int)) → xs = vNs l
    | [], _, .nil => rfl
    | n :: r, _, .cons h1 h2 => by
      cases h1
      rw [dpAll_N_inv h2]
      rfl
theorem dpAll_at : ∀ {vs : List V} {ds : List PyData} {i : Nat} {d : PyData}, DpAll K H vs ds → ds[i]? = some d → ∃ v, vs[i]? = some v ∧ Dp K H v d
  | _, _, 0, _, .cons h _, e => by
    have e1 := Option.some.inj e
    subst e1
    exact ⟨_, rfl, h⟩
  | _, _, i + 1, _, .cons _ r, e => dpAll_at (i := i) r e
  | _, _, _, _, .nil, e => by simp at e
/-! comprehensions that tell data -/
theorem new_sub {H1 H2 H3 H4 : Hp} (a : ∀ c, H2 c = none → H1 c = none) (b : ∀ c o, H2 c = none → H3 c = some o → H4 c = some o) : Ex (New H2 H3) (New H1 H4) := fun c o h => by
  cases q : H2 c with
  | some u => rw [new_old q] at h; cases h
  | none =>
    rw [new_at q] at h
    rw [new_at (a c q)]
    exact b c o q h
/-- at the turn i the list at L tells the data of what went before -/
def Dw (K : PySem.W.Frag) (H1 : Hp) (L : Addr) (ds : List PyData) (i : Nat) (H' : Hp) : Prop :=
  H1 L = none ∧ Ex H1 H' ∧ ∃ acc, H' L = some (.lst acc) ∧ DpAll K (New (upd H1 L (.lst [])) H') acc (ds.take i)
theorem dw_turn {H1 : Hp} {L : Addr} {ds : List PyData} {i : Nat} {d : PyData} {σ2 : L2.St} (p : Dw K H1 L ds i H') (hi : ds[i]? = some d) (hz : ds.length ≤ 50000) (he : EvN K te σ2 H' d) :
    te σ2 H' fun y H4 => ∃ acc, H4 L = some (.lst acc) ∧ acc.length < sizeLine ∧ Dw K H1 L ds (i + 1) (upd H4 L (.lst (acc ++ [y]))) := by
  obtain ⟨p1, p2, acc, p3, p4⟩ := p
  refine he H' (Ex.refl H') _ fun y H4 e4 hy => ⟨acc, e4 L _ p3, ?_, p1, Ex.mut (p2.trans e4) p1, acc ++ [y], upd_same, ?_⟩
  · have := dpAll_len p4
    have h2 : (ds.take i).length ≤ ds.length := by
      rw [List.length_take]
      omega
    exact sz_lt (by omega)
  · have ne : ∀ c : Addr, upd H1 L (.lst []) c = none → c ≠ L := fun c hc z => by
      rw [z, upd_same] at hc
      cases hc
    have ne2 : ∀ c : Addr, H' c = none → c ≠ L := fun c hc z => by
      rw [z, p3] at hc
      cases hc
    rw [List.take_add_one, hi]
    refine dpAll_app (DpAll.ex (new_sub (fun _ h => h) fun c o hc ho => ?_) p4) (.cons (Dp.ex (new_sub (fun c hc => ?_) fun c o hc ho => ?_) hy) .nil)
    · rw [upd_ne (ne c hc)]
      exact e4 c o ho
    · rw [upd_ne (ne2 c hc)]
      exact fresh_back p2 hc
    · rw [upd_ne (ne2 c hc)]
      exact ho
theorem dw_end {H0 H1 : Hp} {L : Addr} {ds : List PyData} {Q : VK} (e : Ex H0 H1) (p : Dw K H1 L ds ds.length H') (q : ∀ p xs H2, Ex H0 H2 → H0 p = none → H2 p = some (.lst xs) → DpAll K (New H0 H2) xs ds → Q (.ref p) H2) : Q (.ref L) H' := by
  obtain ⟨p1, p2, acc, p3, p4⟩ := p
  rw [List.take_length] at p4
  refine q L acc H' (e.trans p2) (fresh_back e p1) p3 (DpAll.ex (new_sub (fun c hc => ?_) fun _ _ _ h => h) p4)
  refine fresh_back e ?_
  by_cases z : c = L
  · rw [z, upd_same] at hc
    cases hc
  · rw [upd_ne z] at hc
    exact hc
theorem dw_start {H1 : Hp} {L : Addr} {ds : List PyData} (hL : H1 L = none) : Dw K H1 L ds 0 (upd H1 L (.lst [])) := ⟨hL, Ex.new hL, [], upd_same, by rw [List.take_zero]; exact .nil⟩
/-- [data for i in range(n)] -/
theorem em_mapR {ta : TA} {j : Nat} {vs : List Nat} {n : Nat} (g : Nat → PyData) (h : EvA ta σ H [vN n]) (hn : n ≤ 40000)
    (he : ∀ i, i < n → ∀ H1, Ex H H1 → EvN K te ((wipe σ vs).set j (some (vN i))) H1 (g i)) (hw : ∀ x, wipe ((wipe σ vs).set j (some x)) vs = wipe σ vs := by intro _; rfl) :
    EvM K (tLc (iRng1 ta) (gName j) tYes te vs) σ H ((List.range n).map g) := fun H0 e Q q =>
  h H0 e _ fun H1 e1 => ⟨(n : Int), rfl, by omega, by omega, fun L hL => lc_range (lo := 0) (n := (n : Int).toNat) (Dw K H1 L ((List.range n).map g)) (dw_start hL) (fun i H' hi p => by
      have hi' : i < n := by omega
      have e0 : (0 : Int) + (i : Int) = (i : Int) := Int.zero_add _
      show wipe ((wipe σ vs).set j (some (.int ((0 : Int) + (i : Int))))) vs = wipe σ vs ∧ te ((wipe σ vs).set j (some (.int ((0 : Int) + (i : Int))))) H' _
      rw [e0]
      exact ⟨hw _, dw_turn (d := g i) p (by rw [List.getElem?_map, List.getElem?_range hi']; rfl) (by rw [List.length_map, List.length_range]; omega) (he i hi' H' ((e.trans e1).trans p.2.1))⟩)
    (fun H' p => dw_end e1 (by rw [List.length_map, List.length_range]; rw [Int.toNat_natCast] at p; exact p) q)⟩
/-- [data for x in xs], xs a new list -/
theorem em_mapN {xs : List V} {j : Nat} {vs : List Nat} (g : V → PyData) (h : EvL tl σ H xs) (hz : xs.length ≤ 40000)
    (he : ∀ x ∈ xs, ∀ H1, Ex H H1 → EvN K te ((wipe σ vs).set j (some x)) H1 (g x)) (hw : ∀ x, wipe ((wipe σ vs).set j (some x)) vs = wipe σ vs := by intro _; rfl) :
    EvM K (tLc (iList K tl) (gName j) tYes te vs) σ H (xs.map g) := fun H0 e Q q =>
  h H0 e _ fun a H1 na e1 ha => ⟨a, rfl, ⟨xs, sq_of ha⟩, fun L hL => lc_list (xs := xs) (Dw K H1 L (xs.map g)) (dw_start hL) (fun i H' _ p => sq_of (p.2.1 a _ ha)) (fun i x H' hi p =>
      ⟨hw x, dw_turn (d := g x) p (by rw [List.getElem?_map, hi]; rfl) (by rw [List.length_map]; omega) (he x (List.mem_of_getElem? hi) H' ((e.trans e1).trans p.2.1))⟩)
    (fun H' p => dw_end e1 (by rw [List.length_map]; exact p) q)⟩
end
/-- a def that tells a new list of data -/
def RetM (K : PySem.W.Frag) (ds : List PyData) (H : Hp) (Q : VK) : Prop := ∀ p xs H2, Ex H H2 → H p = none → H2 p = some (.lst xs) → DpAll K (New H H2) xs ds → Q (.ref p) H2
def SpM (K : PySem.W.Frag) (sp : Sp) (vs : List V) (H : Hp) (ds : List PyData) : Prop := ∀ H1, Ex H H1 → ∀ Q : VK, RetM K ds H1 Q → ∀ E : XK, sp vs H1 Q E
section
variable {K : PySem.W.Frag} {σ : L2.St} {H : Hp} {te : TE} {ds : List PyData} {D : Ends}
theorem em_call {sp : Sp} {dvs vs : List V} {E : XK} {ta : TA} (h : EvA ta σ H vs) (hs : SpM K sp (vs ++ dvs) H ds) : EvM K (tCall sp dvs E ta) σ H ds := fun H1 e Q q =>
  h H1 e _ fun H2 e2 => hs H2 (e.trans e2) Q (fun p xs H3 e3 np hp hall => q p xs H3 (e2.trans e3) (fresh_back e2 np) hp (DpAll.ex (new_mono e2 (Ex.refl H3)) hall)) E
theorem em_callL {sp : Sp} {dvs vs ys : List V} {E : XK} {tr : TA} (h : EvL te σ H ys) (hr : EvA tr σ H vs) (hs : ∀ p H1, Ex H H1 → H1 p = some (.lst ys) → SpM K sp ((.ref p :: vs) ++ dvs) H1 ds) : EvM K (tCall sp dvs E (tCons te tr)) σ H ds := fun H1 e Q q =>
  h H1 e _ fun p H2 np e2 hp => hr H2 (e.trans e2) _ fun H3 e3 => hs p H3 ((e.trans e2).trans e3) (e3 p _ hp) H3 (Ex.refl H3) Q (fun u xs H4 e4 nu hu hall => q u xs H4 ((e2.trans e3).trans e4) (fresh_back (e2.trans e3) nu) hu (DpAll.ex (new_mono (e2.trans e3) (Ex.refl H4)) hall)) E
theorem s_retM (h : EvM K te σ H ds) (k : RetM K ds H D.rt) : tRet te D σ H := h H (Ex.refl H) _ k
theorem RetM.back {H0 : Hp} {Q : VK} (k : RetM K ds H0 Q) (e : Ex H0 H) : RetM K ds H Q := fun p xs H2 e2 np hp hall => k p xs H2 (e.trans e2) (fresh_back e np) hp (DpAll.ex (new_mono e (Ex.refl H2)) hall)
end
end Rt
namespace Rt
open PySem PySem.Spec PyProof.Rows L2 Evl
/-- a test of numbers as one of values -/
def vB (f : Nat → Bool) : V → Bool
  | .int i => f i.toNat
  | _ => false
theorem filt_of (f : Nat → Bool) : ∀ l : List Nat, (vNs l).filter (vB f) = vNs (l.filter f)
  | [] => rfl
  | n :: r => by
    have ih := filt_of f r
    show (vN n :: vNs r).filter _ = _
    rw [List.filter_cons, List.filter_cons, ih, show vB f (vN n) = f n from rfl]
    split <;> rfl
theorem scal_opts (o o' : Option Nat) : scal (optV o) (optV o') = true := by
  cases o <;> cases o' <;> rfl
section
variable {K : PySem.W.Frag} {σ : L2.St} {H : Hp} {ta tb te tl : TE} {x z v : V} {D : Ends} {tz : TS}
theorem dpAll_mem : ∀ {vs : List V} {ds : List PyData}, DpAll K H vs ds → ∀ x ∈ vs, ∃ d ∈ ds, Dp K H x d
  | _, _, .nil => fun x hx => by cases hx
  | _, _, .cons h r => fun x hx => by
    rcases List.mem_cons.mp hx with e | e
    · exact ⟨_, List.mem_cons_self, by rw [e]; exact h⟩
    · obtain ⟨d, h1, h2⟩ := dpAll_mem r x e
      exact ⟨d, List.mem_cons_of_mem _ h1, h2⟩
theorem dp_tup {ds : List PyData} (h : Dp K H v (.tuple ds)) : ∃ a xs, v = .ref a ∧ SqT K H a xs := by
  cases h with
  | tup hq _ => exact ⟨_, _, rfl, hq⟩
/-- a, b = (data, [..]) by a pair -/
theorem q_asgML {i j : Nat} {ds : List PyData} {ys : List V} (h : EvM K ta σ H ds) (h2 : EvL tb σ H ys)
    (k : ∀ p t Hm H1, Ex H Hm → Ex Hm H1 → Dp K (New H Hm) (.ref p) (.list ds) → Hm t = none → H1 t = some (.lst ys) → tz D ((σ.set i (some (.ref p))).set j (some (.ref t))) H1) :
    tSeq (tAsg (tTup (tCons ta (tCons tb tNil))) (gTup K 2 (gCons (gName i) (gCons (gName j) gNil)))) tz D σ H :=
  h H (Ex.refl H) _ fun p xs Hm em np hp hall => h2 Hm em _ fun t H2 nt e2 ht => ⟨by show 2 ≤ sizeLine; decide, fun c nc =>
    ⟨c, [.ref p, .ref t], rfl, st_of upd_same, rfl, .ref p, [.ref t], rfl, .ref t, [], rfl, rfl, k p t Hm _ em (e2.trans (Ex.new nc)) (.lst (sq_of (by rw [new_at np]; exact hp)) hall) nt (Ex.new nc t _ ht)⟩⟩
/-- [e for x in (a, b, ..)] -/
theorem el_mapU {xs : List V} {j : Nat} {vs : List Nat} (g : V → V) (h : EvU tl σ H xs) (hz : xs.length ≤ 40000)
    (he : ∀ x ∈ xs, ∀ H1, Ex H H1 → Ev te ((wipe σ vs).set j (some x)) H1 (g x)) (hw : ∀ x, wipe ((wipe σ vs).set j (some x)) vs = wipe σ vs := by intro _; rfl) :
    EvL (tLc (iTup K tl) (gName j) tYes te vs) σ H (xs.map g) := fun H0 e Q q =>
  h H0 e _ fun a H1 na e1 ha => ⟨a, rfl, ⟨xs, st_of ha⟩, fun L hL => lc_tup (xs := xs) (Cw H1 (fun _ => true) (fun i => g (xs.getD i .non)) L) ⟨hL, Ex.new hL, upd_same⟩ (fun i H' _ p => st_of (p.2.1 a _ ha)) (fun i x H' hi p =>
      ⟨hw x, cw_turn p (by have := (List.getElem?_eq_some_iff.mp hi).1; omega) et_yes fun _ => by
        show Ev te _ H1 (g (xs.getD i .non))
        rw [getD_of hi]
        exact he x (List.mem_of_getElem? hi) H1 (e.trans e1)⟩)
    (fun H' p => by
      have h3 := p.2.2
      have e3 := given_of xs (fun _ => true) g
      rw [List.filter_eq_self.mpr fun _ _ => rfl] at e3
      rw [e3] at h3
      exact q L H' (fresh_back e1 p.1) (e1.trans p.2.1) h3)⟩
theorem en_mono {d : PyData} {H' : Hp} (e : Ex H H') (h : EvN K te σ H d) : EvN K te σ H' d := h.mono e
end
end Rt

/-! Where the ways from the first places end, and which place is on all of them: plain Lean. -/
namespace Rt
open PySem L2
def lastsL (row : List Nat) (many : Nat) : List Nat := (List.range many).map (lastOf row)
def riseL (l : List Nat) : List Nat := (List.range 60).filter fun n => decide (n ∈ l)
theorem rise_rise (l : List Nat) : (riseL l).Pairwise (· < ·) := List.pairwise_lt_range.filter _
theorem rise_mem {l : List Nat} (h : ∀ n ∈ l, n < 60) (n : Nat) : n ∈ l ↔ n ∈ riseL l := by
  unfold riseL
  rw [List.mem_filter, decide_eq_true_iff, List.mem_range]
  exact ⟨fun z => ⟨h n z, z⟩, fun z => z.2⟩
theorem rise_len (l : List Nat) : (riseL l).length ≤ 60 := by
  have := List.length_filter_le (fun n => decide (n ∈ l)) (List.range 60)
  rw [List.length_range] at this
  exact this
def endP (l : List Nat) (n : Nat) : PyData := .tuple [.int (n : Int), .int (l.count n : Int)]
def endD (l : List Nat) : List PyData := (riseL l).map (endP l)
theorem lasts_lt {row : List Nat} {many : Nat} (h : many ≤ row.length) : ∀ n ∈ lastsL row many, n < row.length := by
  intro n hn
  obtain ⟨p, hp, rfl⟩ := List.mem_map.mp hn
  exact lastOf_lt (Nat.lt_of_lt_of_le (List.mem_range.mp hp) h)
theorem lasts_len (row : List Nat) (many : Nat) : (lastsL row many).length = many := by
  unfold lastsL
  rw [List.length_map, List.length_range]
theorem lasts_take {row : List Nat} {many i : Nat} (h : i < many) : (lastsL row many).take (i + 1) = (lastsL row many).take i ++ [lastOf row i] := by
  rw [List.take_add_one]
  unfold lastsL
  rw [List.getElem?_map, List.getElem?_range h]
  rfl
/-- a dict that tells how often each stands in l -/
structure Tal (l : List Nat) (kvs : List (Key × V)) : Prop where
  keys : ∃ ks : List Nat, kvs.map (·.1) = ks.map (fun n : Nat => (Sum.inl (n : Int) : Key)) ∧ ks.Nodup ∧ (∀ n, n ∈ ks ↔ n ∈ l)
  vals : ∀ n : Nat, valV kvs (Sum.inl (n : Int)) = if n ∈ l then some (vN (l.count n)) else none
theorem Tal.nil : Tal [] [] := ⟨⟨[], rfl, List.nodup_nil, fun n => Iff.rfl⟩, fun n => by simp [valV]⟩
theorem putK_old {kvs : List (Key × V)} {k : Key} (v : V) (h : (valV kvs k).isSome = true) : (putK kvs k v).map (·.1) = kvs.map (·.1) := by
  unfold putK
  rw [valV_any, if_pos h, List.map_map]
  refine List.map_congr_left fun p _ => ?_
  show (if p.1 = k then (p.1, v) else p).1 = p.1
  split <;> rfl
theorem key_inj {n m : Nat} : (Sum.inl (n : Int) : Key) = Sum.inl (m : Int) ↔ n = m := by
  constructor
  · intro h
    have := Sum.inl.inj h
    omega
  · intro h
    rw [h]
theorem Tal.put {l : List Nat} {kvs : List (Key × V)} (t : Tal l kvs) (x : Nat) : Tal (l ++ [x]) (putK kvs (Sum.inl (x : Int)) (vN (l.count x + 1))) := by
  obtain ⟨ks, h1, h2, h3⟩ := t.keys
  have hx := t.vals x
  constructor
  · by_cases hm : x ∈ l
    · rw [if_pos hm] at hx
      refine ⟨ks, ?_, h2, fun n => ?_⟩
      · rw [putK_old _ (by rw [hx]; rfl), h1]
      · rw [h3 n, List.mem_append, List.mem_singleton]
        exact ⟨fun z => .inl z, fun z => z.elim id fun z => by rw [z]; exact hm⟩
    · rw [if_neg hm] at hx
      refine ⟨ks ++ [x], ?_, nd_snoc h2 (fun z => hm ((h3 x).mp z)), fun n => ?_⟩
      · rw [putK_new _ hx, List.map_append, List.map_append, h1]
        rfl
      · rw [List.mem_append, List.mem_append, h3 n]
  · intro n
    rw [valV_put, List.count_append]
    by_cases hn : n = x
    · subst hn
      rw [if_pos rfl, if_pos (List.mem_append.mpr (.inr (List.mem_singleton.mpr rfl)))]
      simp
    · rw [if_neg (fun z => hn (key_inj.mp z)), t.vals n]
      have h0 : [x].count n = 0 := List.count_eq_zero.mpr (by simpa using hn)
      rw [h0, Nat.add_zero]
      by_cases hm : n ∈ l
      · rw [if_pos hm, if_pos (List.mem_append.mpr (.inl hm))]
      · rw [if_neg hm, if_neg (by rw [List.mem_append, List.mem_singleton]; exact fun z => z.elim hm hn)]
theorem nodup_len : ∀ (n : Nat) (ks : List Nat), ks.Nodup → (∀ k ∈ ks, k < n) → ks.length ≤ n
  | 0, ks, _, h => by
    cases ks with
    | nil => exact Nat.le_refl _
    | cons k r => exact absurd (h k List.mem_cons_self) (Nat.not_lt_zero k)
  | n + 1, ks, hn, h => by
    have ih := nodup_len n (ks.erase n) (hn.erase n) fun k hk => by
      obtain ⟨h1, h2⟩ := (hn.mem_erase_iff).mp hk
      have := h k h2
      omega
    by_cases hm : n ∈ ks
    · rw [List.length_erase_of_mem hm] at ih
      omega
    · rw [List.erase_of_not_mem hm] at ih
      omega
theorem Tal.len {l : List Nat} {kvs : List (Key × V)} (t : Tal l kvs) (h : ∀ n ∈ l, n < 60) : kvs.length ≤ 60 := by
  obtain ⟨ks, h1, h2, h3⟩ := t.keys
  have e : kvs.length = ks.length := by
    have := congrArg List.length h1
    rw [List.length_map, List.length_map] at this
    exact this
  have hs := nodup_len 60 ks h2 fun n hn => h n ((h3 n).mp hn)
  omega
/-! the first place on all ways -/
def runL (row : List Nat) (k : Nat) : List Nat := (way row 0).filter fun p => (List.range k).all fun q => decide (p ∈ way row q)
theorem runL_one (row : List Nat) : runL row 1 = way row 0 := by
  unfold runL
  refine List.filter_eq_self.mpr fun p hp => ?_
  show (decide (p ∈ way row 0) && true) = true
  rw [decide_eq_true hp]
  rfl
theorem runL_succ (row : List Nat) (k : Nat) : runL row (k + 1) = (runL row k).filter fun p => decide (p ∈ way row k) := by
  unfold runL
  rw [List.filter_filter]
  refine List.filter_congr fun p _ => ?_
  rw [List.range_succ, List.all_append]
  simp [Bool.and_comm]
def runBy (row : List Nat) (many : Nat) : Option Nat := (runL row many).head?
end Rt
namespace Rt
open PySem L2
/-- a list of pairs of small numbers, as data -/
theorem good_pairs : ∀ ds : List PyData, (∀ d ∈ ds, ∃ a b : Nat, a < 10 ^ 6 ∧ b < 10 ^ 6 ∧ d = .tuple [.int (a : Int), .int (b : Int)]) → PyData.canLayAll0 ds = true ∧ PyData.depthAll ds ≤ 1 ∧ PyData.showableAll ds = true ∧ PyData.leavesShortAll 13 ds = true ∧ PyData.weightAll ds ≤ 43 * ds.length
  | [], _ => ⟨rfl, Nat.zero_le _, rfl, rfl, Nat.le_refl _⟩
  | d :: r, h => by
    obtain ⟨h1, h2, h3, h4, h5⟩ := good_pairs r fun m hm => h m (List.mem_cons_of_mem _ hm)
    obtain ⟨a, b, ha, hb, rfl⟩ := h d List.mem_cons_self
    obtain ⟨g1, g2, g3, g4, g5⟩ := good_all [a, b] (by
      intro n hn
      rcases List.mem_cons.mp hn with e | e
      · rw [e]
        exact ha
      · rw [List.mem_singleton.mp e]
        exact hb)
    have e : ([a, b].map fun n : Nat => PyData.int (n : Int)) = [.int (a : Int), .int (b : Int)] := rfl
    rw [e] at g1 g2 g3 g4 g5
    refine ⟨?_, ?_, ?_, ?_, ?_⟩
    · rw [PyData.canLayAll0, h1, PyData.canLay0, g1]
      rfl
    · rw [PyData.depthAll, PyData.depth, g2]
      omega
    · rw [PyData.showableAll, h3, PyData.showable, g3]
      rfl
    · rw [PyData.leavesShortAll, h4, PyData.leavesShort, g4]
      rfl
    · rw [PyData.weightAll, PyData.weight, List.length_cons]
      have : [a, b].length = 2 := rfl
      rw [this] at g5
      omega
theorem good_of_pairs {ds : List PyData} (h : ∀ d ∈ ds, ∃ a b : Nat, a < 10 ^ 6 ∧ b < 10 ^ 6 ∧ d = .tuple [.int (a : Int), .int (b : Int)]) (hl : ds.length ≤ 10000) : Good (.list ds) := by
  obtain ⟨h1, h2, h3, h4, h5⟩ := good_pairs ds h
  refine ⟨h1, ?_, h3, h4, ?_⟩
  · rw [PyData.depth]
    omega
  · rw [PyData.weight]
    omega
theorem good_end {row : List Nat} {many : Nat} (h : many ≤ row.length) (h60 : row.length ≤ 60) : Good (.list (endD (lastsL row many))) := by
  refine good_of_pairs (fun d hd => ?_) ?_
  · obtain ⟨n, hn, rfl⟩ := List.mem_map.mp hd
    have hn2 : n < 60 := List.mem_range.mp (List.mem_filter.mp hn).1
    have hc : (lastsL row many).count n ≤ many := by
      have := List.count_le_length (a := n) (l := lastsL row many)
      rw [lasts_len] at this
      exact this
    exact ⟨n, (lastsL row many).count n, by omega, by omega, rfl⟩
  · unfold endD
    rw [List.length_map]
    have := rise_len (lastsL row many)
    omega
end Rt

/-! The table of states, by distances: plain Lean. -/
namespace Rt
abbrev Tab := Nat → Nat → Nat
def addT (t : Tab) (q l v : Nat) : Tab := fun q2 l2 => if q2 = q ∧ l2 = l then t q2 l2 + v else t q2 l2
def gap (a k : Nat) : Nat := (a - k) + (k - a)
def cardS (c m p a w : Nat) (t : Tab) (k : Nat) : Tab := if 0 < a ∧ (p + min k a) + gap a k < m then addT t (p + min k a) (gap a k) (w * c ^ (min k a - 1)) else t
def cardsS (c m p a w : Nat) (t : Tab) (n : Nat) : Tab := (List.range n).foldl (fun t i => cardS c m p a w t (i + 1)) t
def aheadS (c m p : Nat) (t : Tab) (a : Nat) : Tab := cardsS c m p a (t p a) t c
def placeS (c m : Nat) (t : Tab) (p : Nat) : Tab := (List.range m).foldl (aheadS c m p) t
def initT (far : Nat) : Tab := fun q l => if q = 0 ∧ l = far then 1 else 0
def tabS (c m far n : Nat) : Tab := (List.range n).foldl (placeS c m) (initT far)
def meetL (c m far : Nat) : List Nat := (List.range m).map fun q => tabS c m far m q 0 * c ^ (m - q)
theorem cardsS_succ (c m p a w : Nat) (t : Tab) (n : Nat) : cardsS c m p a w t (n + 1) = cardS c m p a w (cardsS c m p a w t n) (n + 1) := by
  unfold cardsS
  rw [List.range_succ, List.foldl_append]
  rfl
theorem tabS_succ (c m far n : Nat) : tabS c m far (n + 1) = placeS c m (tabS c m far n) n := by
  unfold tabS
  rw [List.range_succ, List.foldl_append]
  rfl
theorem addT_zero (t : Tab) (q l : Nat) : addT t q l 0 = t := by
  funext q2 l2
  unfold addT
  split <;> rfl
theorem cardS_zero (c m p a : Nat) (t : Tab) (k : Nat) : cardS c m p a 0 t k = t := by
  unfold cardS
  split
  · rw [Nat.zero_mul, addT_zero]
  · rfl
theorem cardsS_zero (c m p a : Nat) (t : Tab) : ∀ n, cardsS c m p a 0 t n = t
  | 0 => rfl
  | n + 1 => by rw [cardsS_succ, cardsS_zero c m p a t n, cardS_zero]
/-- what stands at the place itself or before is not changed -/
theorem cardS_old {c m p a w : Nat} {t : Tab} {k q l : Nat} (hk : 1 ≤ k) (hq : q ≤ p) : cardS c m p a w t k q l = t q l := by
  unfold cardS
  split
  · rename_i h
    unfold addT
    rw [if_neg (by omega)]
  · rfl
theorem cardsS_old {c m p a w : Nat} {t : Tab} {q l : Nat} (hq : q ≤ p) : ∀ n, cardsS c m p a w t n q l = t q l
  | 0 => rfl
  | n + 1 => by rw [cardsS_succ, cardS_old (by omega) hq, cardsS_old hq n]
theorem aheadS_old {c m p : Nat} {t : Tab} {a q l : Nat} (hq : q ≤ p) : aheadS c m p t a q l = t q l := cardsS_old hq c
theorem aheadF_old {c m p : Nat} {q l : Nat} (hq : q ≤ p) : ∀ (as : List Nat) (t : Tab), as.foldl (aheadS c m p) t q l = t q l
  | [], _ => rfl
  | a :: r, t => by rw [List.foldl_cons, aheadF_old hq r, aheadS_old hq]
theorem aheadS_zero {c m p : Nat} {t : Tab} {a : Nat} (h : t p a = 0) : aheadS c m p t a = t := by
  unfold aheadS
  rw [h, cardsS_zero]
/-- going by those distances alone at which something stands -/
theorem aheadF_keys {c m p : Nat} (f : Nat → Bool) : ∀ (as : List Nat) (t : Tab), (∀ a, f a = false → t p a = 0) → (as.filter f).foldl (aheadS c m p) t = as.foldl (aheadS c m p) t
  | [], _, _ => rfl
  | a :: r, t, h => by
    have h2 : ∀ b, f b = false → aheadS c m p t a p b = 0 := fun b hb => by
      rw [aheadS_old (Nat.le_refl p)]
      exact h b hb
    rw [List.filter_cons]
    cases hf : f a with
    | true =>
      show (a :: r.filter f).foldl _ t = _
      rw [List.foldl_cons, List.foldl_cons, aheadF_keys f r _ h2]
    | false =>
      show (r.filter f).foldl _ t = _
      rw [aheadF_keys f r t h, List.foldl_cons, aheadS_zero (h a hf)]
theorem foldl_take {α β : Type} (f : β → α → β) (t : β) {l : List α} {i : Nat} {x : α} (h : l[i]? = some x) : (l.take (i + 1)).foldl f t = f ((l.take i).foldl f t) x := by
  rw [List.take_add_one, h, List.foldl_append]
  rfl
/-! bounds, crude ones -/
def Bd (t : Tab) (n : Nat) : Prop := ∀ q l, t q l < 2 ^ (90 * n + 1)
theorem Bd.mono {t : Tab} {n n2 : Nat} (h : Bd t n) (hn : n ≤ n2) : Bd t n2 := fun q l => Nat.lt_of_lt_of_le (h q l) (Nat.pow_le_pow_right (by decide) (by omega))
theorem pow_bd {c k : Nat} (hc : c ≤ 20) (hk : k ≤ 19) : c ^ k < 2 ^ 83 := by
  have h1 : c ^ k ≤ 20 ^ k := Nat.pow_le_pow_left hc k
  have h2 : 20 ^ k ≤ 20 ^ 19 := Nat.pow_le_pow_right (by decide) hk
  have h3 : (20 : Nat) ^ 19 < 2 ^ 83 := by decide
  omega
theorem Bd.card {t : Tab} {c m p a w k n : Nat} (h : Bd t n) (hw : w < 2 ^ (90 * n + 1)) (hc : c ≤ 20) (hk : k ≤ 20) : Bd (cardS c m p a w t k) (n + 1) := by
  intro q l
  unfold cardS
  have up : 2 ^ (90 * n + 1) ≤ 2 ^ (90 * (n + 1) + 1) := Nat.pow_le_pow_right (by decide) (by omega)
  split
  · unfold addT
    split
    · have h1 := h q l
      have h2 : w * c ^ (min k a - 1) < 2 ^ (90 * n + 1) * 2 ^ 83 := Nat.mul_lt_mul'' hw (pow_bd hc (by omega))
      have e : 2 ^ (90 * (n + 1) + 1) = 2 ^ (90 * n + 1) * 2 ^ 90 := by rw [← Nat.pow_add, show 90 * (n + 1) + 1 = 90 * n + 1 + 90 by omega]
      have h3 : 2 ^ (90 * n + 1) * (1 + 2 ^ 83) ≤ 2 ^ (90 * n + 1) * 2 ^ 90 := Nat.mul_le_mul_left _ (by decide)
      rw [Nat.mul_add, Nat.mul_one] at h3
      rw [e]
      exact Nat.lt_of_lt_of_le (Nat.add_lt_add h1 h2) h3
    · exact Nat.lt_of_lt_of_le (h q l) up
  · exact Nat.lt_of_lt_of_le (h q l) up
theorem Bd.init (far : Nat) : Bd (initT far) 0 := by
  intro q l
  unfold initT
  split <;> decide
end Rt

/-! A list of dicts, each a row of a table. -/
namespace Rt
open PySem PySem.Spec PyProof.Rows L2 Evl
/-- the dict tells g; where it has no key g is 0 -/
structure Rep (g : Nat → Nat) (kvs : List (Key × V)) (ks : List Nat) (m : Nat) : Prop where
  keys : kvs.map (·.1) = ks.map (fun n : Nat => (Sum.inl (n : Int) : Key))
  nd : ks.Nodup
  lt : ∀ n ∈ ks, n < m
  vals : ∀ n : Nat, valV kvs (Sum.inl (n : Int)) = if n ∈ ks then some (vN (g n)) else none
  zero : ∀ n, n ∉ ks → g n = 0
theorem Rep.nil (m : Nat) : Rep (fun _ => 0) [] [] m := ⟨rfl, List.nodup_nil, (fun n h => by cases h), (fun n => by simp [valV]), fun _ _ => rfl⟩
theorem Rep.get {g : Nat → Nat} {kvs : List (Key × V)} {ks : List Nat} {m : Nat} (r : Rep g kvs ks m) (n : Nat) : (valV kvs (Sum.inl (n : Int))).getD (.int 0) = vN (g n) := by
  rw [r.vals]
  split
  · rfl
  · rename_i h
    rw [r.zero n h]
    rfl
theorem Rep.len {g : Nat → Nat} {kvs : List (Key × V)} {ks : List Nat} {m : Nat} (r : Rep g kvs ks m) : kvs.length ≤ m := by
  have e := congrArg List.length r.keys
  rw [List.length_map, List.length_map] at e
  have := nodup_len m ks r.nd r.lt
  omega
theorem Rep.put {g : Nat → Nat} {kvs : List (Key × V)} {ks : List Nat} {m l v : Nat} (r : Rep g kvs ks m) (hl : l < m) : ∃ ks2, Rep (fun n => if n = l then g n + v else g n) (putK kvs (Sum.inl (l : Int)) (vN (g l + v))) ks2 m := by
  have hx := r.vals l
  by_cases hm : l ∈ ks
  · rw [if_pos hm] at hx
    refine ⟨ks, ?_, r.nd, r.lt, fun n => ?_, fun n hn => ?_⟩
    · rw [putK_old _ (by rw [hx]; rfl), r.keys]
    · rw [valV_put]
      by_cases e : n = l
      · subst e
        rw [if_pos rfl, if_pos hm, if_pos rfl]
      · rw [if_neg (fun z => e (key_inj.mp z)), r.vals n, if_neg e]
    · have e : ¬ n = l := fun z => hn (by rw [z]; exact hm)
      rw [if_neg e]
      exact r.zero n hn
  · rw [if_neg hm] at hx
    refine ⟨ks ++ [l], ?_, nd_snoc r.nd hm, fun n hn => ?_, fun n => ?_, fun n hn => ?_⟩
    · rw [putK_new _ hx, List.map_append, List.map_append, r.keys]
      rfl
    · rcases List.mem_append.mp hn with h | h
      · exact r.lt n h
      · rw [List.mem_singleton.mp h]
        exact hl
    · rw [valV_put]
      by_cases e : n = l
      · subst e
        rw [if_pos rfl, if_pos rfl, if_pos (List.mem_append.mpr (.inr (List.mem_singleton.mpr rfl)))]
      · rw [if_neg (fun z => e (key_inj.mp z)), r.vals n, if_neg e]
        by_cases h2 : n ∈ ks
        · rw [if_pos h2, if_pos (List.mem_append.mpr (.inl h2))]
        · rw [if_neg h2, if_neg (by rw [List.mem_append, List.mem_singleton]; exact fun z => z.elim h2 e)]
    · have h1 : n ∉ ks := fun z => hn (List.mem_append.mpr (.inl z))
      have e : ¬ n = l := fun z => hn (List.mem_append.mpr (.inr (List.mem_singleton.mpr z)))
      rw [if_neg e]
      exact r.zero n h1
/-- the list at f: its dicts at fs, new beside H0, tell the table t -/
structure DictsAt (H0 H : Hp) (f : Addr) (fs : List Addr) (t : Tab) (m : Nat) : Prop where
  ex : Ex H0 H
  lst : H f = some (.lst (fs.map V.ref))
  len : fs.length = m
  nd : fs.Nodup
  nf : f ∉ fs
  new : ∀ a ∈ fs, H0 a = none
  newf : H0 f = none
  tab : ∀ p a, fs[p]? = some a → ∃ kvs ks, H a = some (.dK kvs) ∧ Rep (t p) kvs ks m
theorem DictsAt.go {H0 H H1 : Hp} {f : Addr} {fs : List Addr} {t : Tab} {m : Nat} (d : DictsAt H0 H f fs t m) (e : Ex H H1) : DictsAt H0 H1 f fs t m :=
  ⟨d.ex.trans e, e f _ d.lst, d.len, d.nd, d.nf, d.new, d.newf, fun p a h => (d.tab p a h).elim fun kvs z => z.elim fun ks y => ⟨kvs, ks, e a _ y.1, y.2⟩⟩
theorem DictsAt.at {H0 H : Hp} {f : Addr} {fs : List Addr} {t : Tab} {m p : Nat} (d : DictsAt H0 H f fs t m) (hp : p < m) : ∃ a, fs[p]? = some a ∧ a ∈ fs := by
  have h : p < fs.length := by
    rw [d.len]
    exact hp
  exact ⟨fs[p], List.getElem?_eq_getElem h, List.getElem_mem h⟩
theorem DictsAt.put {H0 H : Hp} {f : Addr} {fs : List Addr} {t : Tab} {m q l v : Nat} {a : Addr} {kvs : List (Key × V)} {ks : List Nat} (d : DictsAt H0 H f fs t m) (ha : fs[q]? = some a) (hk : H a = some (.dK kvs)) (r : Rep (t q) kvs ks m) (hl : l < m) :
    DictsAt H0 (upd H a (.dK (putK kvs (Sum.inl (l : Int)) (vN (t q l + v))))) f fs (addT t q l v) m := by
  have ham : a ∈ fs := List.mem_of_getElem? ha
  refine ⟨Ex.mut d.ex (d.new a ham), ?_, d.len, d.nd, d.nf, d.new, d.newf, fun p b hb => ?_⟩
  · rw [upd_ne (fun z => d.nf (by rw [z]; exact ham))]
    exact d.lst
  · by_cases e : p = q
    · subst e
      have eb : b = a := Option.some.inj (hb.symm.trans ha)
      subst eb
      obtain ⟨ks2, r2⟩ := r.put (v := v) hl
      refine ⟨_, ks2, upd_same, ?_⟩
      have e2 : addT t p l v p = fun n => if n = l then t p n + v else t p n := by
        funext n
        unfold addT
        by_cases h : n = l
        · rw [if_pos ⟨rfl, h⟩, if_pos h]
        · rw [if_neg (fun z => h z.2), if_neg h]
      rw [e2]
      exact r2
    · have nb : b ≠ a := fun z => by
        subst z
        exact e (nd_ix d.nd hb ha)
      obtain ⟨kv, k2, h1, h2⟩ := d.tab p b hb
      refine ⟨kv, k2, by rw [upd_ne nb]; exact h1, ?_⟩
      have e2 : addT t q l v p = t p := by
        funext n
        unfold addT
        rw [if_neg (fun z => e z.1)]
      rw [e2]
      exact h2
section
variable {K : PySem.W.Frag} {σ : L2.St} {H : Hp} {ta tb td te ty : TE} {x v : V} {D : Ends} {tz : TS}
/-- found[p], a list of dicts -/
theorem ev_dict {H0 : Hp} {f : Addr} {fs : List Addr} {t : Tab} {m p : Nat} {a : Addr} (d : DictsAt H0 H f fs t m) (ha : fs[p]? = some a) (h1 : Ev ta σ H (.ref f)) (h2 : Ev tb σ H (vN p)) : Ev (tOp (rIxL K) ta tb) σ H (.ref a) :=
  ev_op h1 h2 (rv_ixL (sq_of d.lst) (atI_nat (by rw [List.getElem?_map, ha]; rfl)))
theorem q_dput {a : Addr} {kvs : List (Key × V)} {k : Key} (ha : H a = some (.dK kvs)) (hv : Ev te σ H v) (hd : Ev td σ H (.ref a)) (hk : Ev ty σ H (kV k)) (hl : kvs.length < 100000) (q : ∀ H1, Ex H H1 → tz D σ (upd H1 a (.dK (putK kvs k v)))) : tSeq (sDPut td ty te) tz D σ H := s_dput (D := { D with nx := tz D }) ha hv hd hk hl q
/-- found = [{} for p in range(n)] -/
theorem q_dicts {ta : TA} {i j n : Nat} {vs : List Nat} (h : EvA ta σ H [vN n]) (hn : n ≤ 40000) (k : ∀ f fs H1, DictsAt H H1 f fs (fun _ _ => 0) n → tz D (σ.set i (some (.ref f))) H1) (hw : ∀ x, wipe ((wipe σ vs).set j (some x)) vs = wipe σ vs := by intro _; rfl) :
    tSeq (tAsg (tLc (iRng1 ta) (gName j) tYes tDNewK vs) (gName i)) tz D σ H :=
  h H (Ex.refl H) _ fun H1 e1 => ⟨(n : Int), rfl, by omega, by omega, fun L hL =>
    lc_range (lo := 0) (n := (n : Int).toNat) (fun c H' => Ex H1 H' ∧ ∃ fs : List Addr, H' L = some (.lst (fs.map V.ref)) ∧ fs.length = c ∧ fs.Nodup ∧ L ∉ fs ∧ ∀ a ∈ fs, H1 a = none ∧ H' a = some (.dK []))
      ⟨Ex.new hL, [], upd_same, rfl, List.nodup_nil, (fun z => by cases z), (fun a z => by cases z)⟩
      (fun c H' hc ⟨x1, fs, x2, x3, x4, x5, x6⟩ => ⟨hw _, fun p hp => by
        have npL : p ≠ L := fun z => by
          rw [z, x2] at hp
          cases hp
        have npf : p ∉ fs := fun z => by
          rw [(x6 p z).2] at hp
          cases hp
        refine ⟨fs.map V.ref, by rw [upd_ne (Ne.symm npL)]; exact x2, sz_lt (by rw [List.length_map]; omega), Ex.mut (x1.trans (Ex.new hp)) hL, fs ++ [p], ?_, ?_, nd_snoc x4 npf, ?_, ?_⟩
        · rw [upd_same, List.map_append]
          rfl
        · rw [List.length_append, x3]
          rfl
        · rw [List.mem_append, List.mem_singleton]
          exact fun z => z.elim x5 fun z => npL z.symm
        · intro a ha
          rcases List.mem_append.mp ha with h1 | h1
          · have naL : a ≠ L := fun z => x5 (by rw [← z]; exact h1)
            have nap : a ≠ p := fun z => npf (by rw [← z]; exact h1)
            rw [upd_ne naL, upd_ne nap]
            exact x6 a h1
          · rw [List.mem_singleton.mp h1, upd_ne npL, upd_same]
            exact ⟨fresh_back x1 hp, rfl⟩⟩)
      (fun H' ⟨x1, fs, x2, x3, x4, x5, x6⟩ => k L fs H' ⟨e1.trans x1, x2, by rw [Int.toNat_natCast] at x3; exact x3, x4, x5, fun a ha => fresh_back e1 (x6 a ha).1, fresh_back e1 hL, fun p a ha => ⟨[], [], (x6 a (List.mem_of_getElem? ha)).2, Rep.nil n⟩⟩)⟩
def rAbs : List V → Hp → VK → Prop := fun xs H Q => ∃ i, xs = [.int i] ∧ Q (.int (if i < 0 then -i else i)) H
theorem ev_abs {i : Int} (h : Ev ta σ H (.int i)) : Ev (tCB rAbs (tCons ta tNil)) σ H (.int (if i < 0 then -i else i)) := fun H1 e Q q => h H1 e _ fun H2 e2 => ⟨i, rfl, q H2 e2⟩
theorem vNs_sum (l : List Nat) : (l.map fun n : Nat => (n : Int)).sum = ((l.sum : Nat) : Int) := by
  induction l with
  | nil => rfl
  | cons n r ih => rw [List.map_cons, List.sum_cons, List.sum_cons, ih, Int.natCast_add]
/-- sum(a new list) -/
theorem ev_sumN {l : List Nat} (h : EvL ta σ H (vNs l)) : Ev (tCB (rSum K) (tCons ta tNil)) σ H (vN l.sum) := fun H1 e Q q =>
  h H1 e _ fun p H2 np e2 hp => ⟨p, l.map fun n : Nat => (n : Int), rfl, sq_of (by rw [hp, List.map_map]; rfl), by
    rw [vNs_sum]
    exact q H2 e2⟩
theorem ev_sum {l : List Nat} {a : Addr} (h : Ev ta σ H (.ref a)) (ha : SqL K H a (vNs l)) : Ev (tCB (rSum K) (tCons ta tNil)) σ H (vN l.sum) := fun H1 e Q q =>
  h H1 e _ fun H2 e2 => ⟨a, l.map fun n : Nat => (n : Int), rfl, by rw [List.map_map]; exact ex_l (e.trans e2) ha, by
    rw [vNs_sum]
    exact q H2 e2⟩
end
/-- a def that tells a new tuple -/
def RetU (xs : List V) (H : Hp) (Q : VK) : Prop := ∀ p H2, H p = none → Ex H H2 → H2 p = some (.tup xs) → Q (.ref p) H2
def SpU (sp : Sp) (vs : List V) (H : Hp) (xs : List V) : Prop := ∀ H1, Ex H H1 → ∀ Q : VK, RetU xs H1 Q → ∀ E : XK, sp vs H1 Q E
theorem eu_call {σ : L2.St} {H : Hp} {sp : Sp} {dvs vs xs : List V} {E : XK} {ta : TA} (h : EvA ta σ H vs) (hs : SpU sp (vs ++ dvs) H xs) : EvU (tCall sp dvs E ta) σ H xs := fun H1 e Q q =>
  h H1 e _ fun H2 e2 => hs H2 (e.trans e2) Q (fun p H3 hp e3 h3 => q p H3 (fresh_back e2 hp) (e2.trans e3) h3) E
end Rt

/-! All rows counted, and the table of states against any weights that go back by the cards. Plain Lean. -/
namespace Rt
def sumN : Nat → (Nat → Nat) → Nat
  | 0, _ => 0
  | n + 1, f => sumN n f + f n
theorem sumN_congr {f g : Nat → Nat} : ∀ {n}, (∀ i, i < n → f i = g i) → sumN n f = sumN n g
  | 0, _ => rfl
  | n + 1, h => by
    show sumN n f + f n = sumN n g + g n
    rw [sumN_congr fun i hi => h i (by omega), h n (by omega)]
theorem sumN_zero : ∀ n, sumN n (fun _ => 0) = 0
  | 0 => rfl
  | n + 1 => by
    show sumN n _ + 0 = 0
    rw [sumN_zero n]
theorem sumN_nil {f : Nat → Nat} {n : Nat} (h : ∀ i, i < n → f i = 0) : sumN n f = 0 := (sumN_congr h).trans (sumN_zero n)
theorem sumN_add (f g : Nat → Nat) : ∀ n, sumN n (fun i => f i + g i) = sumN n f + sumN n g
  | 0 => rfl
  | n + 1 => by
    show sumN n _ + (f n + g n) = (sumN n f + f n) + (sumN n g + g n)
    rw [sumN_add f g n]
    omega
theorem sumN_mul (v : Nat) (f : Nat → Nat) : ∀ n, sumN n (fun i => v * f i) = v * sumN n f
  | 0 => rfl
  | n + 1 => by
    show sumN n _ + _ = v * (sumN n f + f n)
    rw [sumN_mul v f n, Nat.mul_add]
/-- one place of a sum -/
theorem sumN_one {f g : Nat → Nat} {j v : Nat} : ∀ {n}, j < n → f j = g j + v → (∀ i, i < n → i ≠ j → f i = g i) → sumN n f = sumN n g + v
  | 0, h, _, _ => by omega
  | n + 1, h, h1, h2 => by
    show sumN n f + f n = sumN n g + g n + v
    by_cases e : j = n
    · subst e
      rw [sumN_congr fun i hi => h2 i (by omega) (by omega), h1]
      omega
    · rw [sumN_one (n := n) (by omega) h1 fun i hi hn => h2 i (by omega) hn, h2 n (by omega) (by omega)]
      omega
theorem sumN_range (f : Nat → Nat) : ∀ n, ((List.range n).map f).sum = sumN n f
  | 0 => rfl
  | n + 1 => by
    rw [List.range_succ, List.map_append, List.sum_append, sumN_range f n]
    show _ + (f n + 0) = _ + f n
    rfl
def pairT (m : Nat) (t W : Tab) : Nat := sumN m fun q => sumN m fun l => t q l * W q l
theorem pair_put {m : Nat} {t t2 W W2 : Tab} {q l v : Nat} (hq : q < m) (hl : l < m) (h : t2 q l * W2 q l = t q l * W q l + v) (hn : ∀ q2 l2, ¬ (q2 = q ∧ l2 = l) → t2 q2 l2 * W2 q2 l2 = t q2 l2 * W q2 l2) : pairT m t2 W2 = pairT m t W + v := by
  unfold pairT
  refine sumN_one hq (sumN_one hl h fun i hi hne => hn q i fun z => hne z.2) fun i hi hne => ?_
  exact sumN_congr fun j hj => hn i j fun z => hne z.1
theorem pair_addT {m : Nat} {t W : Tab} {q l v : Nat} (hq : q < m) (hl : l < m) : pairT m (addT t q l v) W = pairT m t W + v * W q l := by
  refine pair_put hq hl ?_ fun q2 l2 hn => ?_
  · unfold addT
    rw [if_pos ⟨rfl, rfl⟩, Nat.add_mul]
  · unfold addT
    rw [if_neg hn]
/-- what a card from a state with weight one brings -/
def goW (c m p a : Nat) (W : Tab) (k : Nat) : Nat := if 0 < a ∧ (p + min k a) + gap a k < m then c ^ (min k a - 1) * W (p + min k a) (gap a k) else 0
theorem pair_card {c m p a w : Nat} {t W : Tab} {k : Nat} : pairT m (cardS c m p a w t k) W = pairT m t W + w * goW c m p a W k := by
  unfold cardS goW
  split
  · rename_i h
    rw [pair_addT (by omega) (by omega), Nat.mul_assoc]
  · rw [Nat.mul_zero, Nat.add_zero]
theorem pair_cards {c m p a w : Nat} {t W : Tab} : ∀ n, pairT m (cardsS c m p a w t n) W = pairT m t W + w * sumN n fun i => goW c m p a W (i + 1)
  | 0 => by
    show pairT m t W = pairT m t W + w * 0
    rw [Nat.mul_zero, Nat.add_zero]
  | n + 1 => by
    rw [cardsS_succ, pair_card, pair_cards n]
    show _ = _ + w * (sumN n _ + _)
    rw [Nat.mul_add, Nat.add_assoc]
/-- weights that go back by the cards -/
def Back (c m : Nat) (W : Tab) : Prop := ∀ p a, p < m → 0 < a → a < m → W p a = sumN c fun i => goW c m p a W (i + 1)
def doneW (p a : Nat) (W : Tab) : Tab := fun q l => if 0 < l ∧ (q < p ∨ (q = p ∧ l < a)) then 0 else W q l
theorem pair_ahead {c m p a : Nat} {t W : Tab} (hb : Back c m W) (hp : p < m) (ha : a < m) : pairT m (aheadS c m p t a) (doneW p (a + 1) W) = pairT m t (doneW p a W) := by
  unfold aheadS
  rw [pair_cards]
  by_cases h0 : 0 < a
  · have e : (sumN c fun i => goW c m p a (doneW p (a + 1) W) (i + 1)) = W p a := by
      rw [hb p a hp h0 ha]
      refine sumN_congr fun i hi => ?_
      unfold goW
      split
      · rename_i h
        unfold doneW
        rw [if_neg (by omega)]
      · rfl
    rw [e]
    refine (pair_put hp ha ?_ fun q2 l2 hn => ?_).symm
    · unfold doneW
      rw [if_neg (by omega), if_pos (by omega), Nat.mul_zero, Nat.zero_add]
    · congr 1
      unfold doneW
      by_cases h : 0 < l2 ∧ (q2 < p ∨ q2 = p ∧ l2 < a)
      · rw [if_pos h, if_pos (by omega)]
      · rw [if_neg h, if_neg (by omega)]
  · have ea : a = 0 := by omega
    subst ea
    have e : (sumN c fun i => goW c m p 0 (doneW p (0 + 1) W) (i + 1)) = 0 := by
      refine sumN_nil fun i hi => ?_
      unfold goW
      rw [if_neg (by omega)]
    rw [e, Nat.mul_zero, Nat.add_zero]
    congr 1
    funext q l
    unfold doneW
    by_cases h : 0 < l ∧ (q < p ∨ q = p ∧ l < 0)
    · rw [if_pos h, if_pos (by omega)]
    · rw [if_neg h, if_neg (by omega)]
theorem pair_aheads {c m p : Nat} {t W : Tab} (hb : Back c m W) (hp : p < m) : ∀ n, n ≤ m → pairT m ((List.range n).foldl (aheadS c m p) t) (doneW p n W) = pairT m t (doneW p 0 W)
  | 0, _ => rfl
  | n + 1, h => by
    rw [List.range_succ, List.foldl_append]
    show pairT m (aheadS c m p _ n) _ = _
    rw [pair_ahead hb hp (by omega), pair_aheads hb hp n (by omega)]
theorem pair_cong {m : Nat} {t W W2 : Tab} (h : ∀ q l, q < m → l < m → W q l = W2 q l) : pairT m t W = pairT m t W2 :=
  sumN_congr fun q hq => sumN_congr fun l hl => by rw [h q l hq hl]
theorem pair_place {c m p : Nat} {t W : Tab} (hb : Back c m W) (hp : p < m) : pairT m (placeS c m t p) (doneW (p + 1) 0 W) = pairT m t (doneW p 0 W) := by
  unfold placeS
  rw [← pair_aheads hb hp m (Nat.le_refl _)]
  refine pair_cong fun q l hq hl => ?_
  unfold doneW
  by_cases h : 0 < l ∧ (q < p + 1 ∨ q = p + 1 ∧ l < 0)
  · rw [if_pos h, if_pos (by omega)]
  · rw [if_neg h, if_neg (by omega)]
theorem pair_places {c m far : Nat} {W : Tab} (hb : Back c m W) : ∀ n, n ≤ m → pairT m (tabS c m far n) (doneW n 0 W) = pairT m (initT far) (doneW 0 0 W)
  | 0, _ => rfl
  | n + 1, h => by
    rw [tabS_succ, pair_place hb (by omega), pair_places hb n (by omega)]
/-- all that the table has at distance 0, weighed, is the weight of the beginning -/
theorem table_back {c m far : Nat} {W : Tab} (hb : Back c m W) (hf : far < m) : (sumN m fun q => tabS c m far m q 0 * W q 0) = W 0 far := by
  have h1 : pairT m (tabS c m far m) (doneW m 0 W) = sumN m fun q => tabS c m far m q 0 * W q 0 := by
    unfold pairT
    refine sumN_congr fun q hq => ?_
    have : (sumN m fun l => tabS c m far m q l * doneW m 0 W q l) = sumN m (fun _ => 0) + tabS c m far m q 0 * W q 0 := by
      refine sumN_one (j := 0) (by omega) ?_ fun i hi hn => ?_
      · unfold doneW
        rw [if_neg (by omega), Nat.zero_add]
      · unfold doneW
        rw [if_pos (by omega), Nat.mul_zero]
    rw [this, sumN_zero, Nat.zero_add]
  have h2 : pairT m (initT far) (doneW 0 0 W) = W 0 far := by
    have : pairT m (initT far) (doneW 0 0 W) = pairT m (fun _ _ => 0) (fun _ _ => 0) + W 0 far := by
      refine pair_put (q := 0) (l := far) (by omega) hf ?_ fun q2 l2 hn => ?_
      · unfold initT doneW
        rw [if_pos ⟨rfl, rfl⟩, if_neg (by omega), Nat.one_mul, Nat.zero_mul, Nat.zero_add]
      · unfold initT
        rw [if_neg hn, Nat.zero_mul, Nat.zero_mul]
    rw [this]
    have z : pairT m (fun _ _ => 0) (fun _ _ => 0) = 0 := by
      exact sumN_nil fun q _ => sumN_nil fun l _ => rfl
    rw [z, Nat.zero_add]
  rw [← h1, pair_places hb m (Nat.le_refl _), h2]
/-! all rows -/
def allN (c : Nat) : Nat → (List Nat → Nat) → Nat
  | 0, g => g []
  | n + 1, g => sumN c fun k => allN c n fun r => g ((k + 1) :: r)
theorem allN_congr {c : Nat} : ∀ {n : Nat} {g h : List Nat → Nat}, (∀ r, r.length = n → (∀ x ∈ r, 1 ≤ x ∧ x ≤ c) → g r = h r) → allN c n g = allN c n h
  | 0, g, h, e => e [] rfl (fun x hx => absurd hx List.not_mem_nil)
  | n + 1, g, h, e => by
    unfold allN
    refine sumN_congr fun k hk => allN_congr fun r hr hx => e _ (by rw [List.length_cons, hr]) fun x hm => ?_
    rcases List.mem_cons.mp hm with z | z
    · omega
    · exact hx x z
theorem allN_const (c v : Nat) : ∀ n, allN c n (fun _ => v) = c ^ n * v
  | 0 => by
    show v = 1 * v
    omega
  | n + 1 => by
    show (sumN c fun k => allN c n fun _ => v) = _
    rw [sumN_congr (g := fun _ => (c ^ n * v) * 1) fun k _ => by rw [allN_const c v n, Nat.mul_one], sumN_mul]
    have : ∀ c, sumN c (fun _ => 1) = c := fun c => by
      induction c with
      | zero => rfl
      | succ c ih =>
        show sumN c _ + 1 = c + 1
        rw [ih]
    rw [this, Nat.pow_succ, Nat.mul_assoc, Nat.mul_comm v c, ← Nat.mul_assoc]
theorem allN_drop {c : Nat} (g : List Nat → Nat) : ∀ j n, j ≤ n → allN c n (fun r => g (r.drop j)) = c ^ j * allN c (n - j) g
  | 0, n, _ => by
    show allN c n (fun r => g r) = 1 * allN c n g
    rw [Nat.one_mul]
  | j + 1, 0, h => by omega
  | j + 1, n + 1, h => by
    show (sumN c fun k => allN c n fun r => g (r.drop j)) = _
    rw [sumN_congr (g := fun _ => (c ^ j * allN c (n - j) g) * 1) fun k _ => by rw [allN_drop g j n (by omega), Nat.mul_one], sumN_mul]
    have : ∀ c, sumN c (fun _ => 1) = c := fun c => by
      induction c with
      | zero => rfl
      | succ c ih =>
        show sumN c _ + 1 = c + 1
        rw [ih]
    rw [this, Nat.pow_succ, show n + 1 - (j + 1) = n - j by omega, Nat.mul_assoc, Nat.mul_comm _ c, ← Nat.mul_assoc]
theorem allN_end {c : Nat} : ∀ (n : Nat) (g : List Nat → Nat), allN c (n + 1) g = allN c n fun r => sumN c fun k => g (r ++ [k + 1])
  | 0, g => rfl
  | n + 1, g => by
    show (sumN c fun j => allN c (n + 1) fun r => g ((j + 1) :: r)) = sumN c fun j => allN c n fun r => sumN c fun k => g ((j + 1) :: (r ++ [k + 1]))
    exact sumN_congr fun j _ => allN_end n _
def rowsL (c : Nat) : Nat → List (List Nat)
  | 0 => [[]]
  | n + 1 => (rowsL c n).flatMap fun r => (List.range c).map fun k => r ++ [k + 1]
theorem sum_flat {α β : Type} (f : α → List β) (g : β → Nat) : ∀ l : List α, ((l.flatMap f).map g).sum = (l.map fun a => ((f a).map g).sum).sum
  | [] => rfl
  | a :: l => by
    rw [List.flatMap_cons, List.map_append, List.sum_append, sum_flat f g l, List.map_cons, List.sum_cons]
theorem rowsL_sum {c : Nat} : ∀ (n : Nat) (g : List Nat → Nat), ((rowsL c n).map g).sum = allN c n g
  | 0, g => by
    show g [] + 0 = g []
    rfl
  | n + 1, g => by
    rw [allN_end, ← rowsL_sum n]
    show (((rowsL c n).flatMap _).map g).sum = _
    rw [sum_flat]
    congr 1
    refine List.map_congr_left fun r _ => ?_
    rw [List.map_map, ← sumN_range]
    rfl
theorem rowsL_len (c : Nat) (n : Nat) : (rowsL c n).length = c ^ n := by
  have h := rowsL_sum (c := c) n (fun _ => 1)
  rw [allN_const, Nat.mul_one] at h
  rw [← h]
  clear h
  induction rowsL c n with
  | nil => rfl
  | cons a l ih => rw [List.length_cons, List.map_cons, List.sum_cons, ih, Nat.add_comm]
theorem rowsL_mem {c : Nat} : ∀ {n : Nat} {r : List Nat}, r ∈ rowsL c n → r.length = n ∧ ∀ x ∈ r, 1 ≤ x ∧ x ≤ c
  | 0, r, h => by
    rw [List.mem_singleton.mp h]
    exact ⟨rfl, fun x hx => absurd hx List.not_mem_nil⟩
  | n + 1, r, h => by
    obtain ⟨r2, h2, h3⟩ := List.mem_flatMap.mp h
    obtain ⟨k, hk, rfl⟩ := List.mem_map.mp h3
    obtain ⟨i1, i2⟩ := rowsL_mem h2
    refine ⟨by rw [List.length_append, i1]; rfl, fun x hx => ?_⟩
    rcases List.mem_append.mp hx with z | z
    · exact i2 x z
    · have := List.mem_singleton.mp z
      have := List.mem_range.mp hk
      omega
end Rt

/-! Where two ways first meet, by the first card: plain Lean. -/
namespace Rt
theorem getD_drop (row : List Nat) (j p : Nat) : (row.drop j).getD p 0 = row.getD (j + p) 0 := by
  rw [List.getD_eq_getElem?_getD, List.getD_eq_getElem?_getD, List.getElem?_drop]
theorem wayF_drop {row : List Nat} {j : Nat} (hj : j ≤ row.length) : ∀ f p, wayF row f (j + p) = (wayF (row.drop j) f p).map (j + ·)
  | 0, p => rfl
  | f + 1, p => by
    rw [wayF_succ, wayF_succ, getD_drop, List.length_drop]
    by_cases h : j + p + row.getD (j + p) 0 < row.length
    · rw [if_pos h, if_pos (by omega), List.map_cons, Nat.add_assoc, wayF_drop hj f]
    · rw [if_neg h, if_neg (by omega)]
      rfl
theorem way_drop {row : List Nat} {j p : Nat} (hc : ∀ c ∈ row, 1 ≤ c) (h : j + p < row.length) : way row (j + p) = (way (row.drop j) p).map (j + ·) := by
  unfold way
  rw [wayF_drop (by omega), wayF_same (row := row.drop j) (fun c hm => hc c (List.mem_of_mem_drop hm)) row.length (row.drop j).length p (by rw [List.length_drop]; omega) (by rw [List.length_drop]; omega) (by omega)]
theorem first_drop {row : List Nat} {j x y : Nat} (hc : ∀ c ∈ row, 1 ≤ c) (hx : j + x < row.length) (hy : j + y < row.length) : firstC row (j + x) (j + y) = (firstC (row.drop j) x y).map (j + ·) := by
  unfold firstC bothL
  rw [way_drop hc hx, way_drop hc hy, List.filter_map, List.head?_map]
  congr 2
  refine List.filter_congr fun q _ => ?_
  show decide (j + q ∈ _) = decide (q ∈ _)
  refine decide_eq_decide.mpr ⟨fun h => ?_, fun h => List.mem_map.mpr ⟨q, h, rfl⟩⟩
  obtain ⟨q2, h2, h3⟩ := List.mem_map.mp h
  have : q2 = q := by omega
  rw [← this]
  exact h2
theorem first_sym {row : List Nat} (hc : ∀ c ∈ row, 1 ≤ c) {p q : Nat} (hp : p < row.length) (hq : q < row.length) : firstC row p q = firstC row q p := by
  unfold firstC
  rw [both_sym hc hp hq]
theorem first_same {row : List Nat} (hc : ∀ c ∈ row, 1 ≤ c) {p : Nat} (hp : p < row.length) : firstC row p p = some p := by
  unfold firstC bothL
  rw [List.filter_eq_self.mpr fun q hq => decide_eq_true hq, way_eq hc hp]
  split <;> rfl
theorem first_go {row : List Nat} {k : Nat} {r : List Nat} (e : row = k :: r) (hc : ∀ c ∈ row, 1 ≤ c) {a : Nat} (h0 : 0 < a) : firstC row 0 a = if k < row.length then firstC row k a else none := by
  have hl : 0 < row.length := by rw [e]; exact Nat.succ_pos _
  have hk : row.getD 0 0 = k := by rw [e]; rfl
  unfold firstC bothL
  rw [way_eq (p := 0) hc hl, hk, Nat.zero_add]
  split
  · congr 1
    refine List.filter_congr fun q hq => decide_eq_decide.mpr ⟨fun h => ?_, fun h => List.mem_cons_of_mem _ h⟩
    have := wayF_ge row _ a q hq
    rcases List.mem_cons.mp h with z | z
    · omega
    · exact z
  · rw [List.head?_eq_none_iff, List.filter_eq_nil_iff]
    intro q hq
    have := wayF_ge row _ a q hq
    rw [decide_eq_true_iff, List.mem_singleton]
    omega
/-- where the ways from the first place and from so far on first meet -/
def firstF (row : List Nat) (a : Nat) : Option Nat := if a < row.length then firstC row 0 a else none
theorem firstF_go {row : List Nat} {k : Nat} {r : List Nat} (e : row = k :: r) (hc : ∀ c ∈ row, 1 ≤ c) {a : Nat} (h0 : 0 < a) :
    firstF row a = if min k a + gap a k < row.length then (firstF (row.drop (min k a)) (gap a k)).map (min k a + ·) else none := by
  unfold firstF
  have hg : min k a + gap a k = max k a := by
    unfold gap
    omega
  rw [List.length_drop, hg]
  by_cases ha : a < row.length
  · rw [if_pos ha, first_go e hc h0]
    by_cases hk : k < row.length
    · rw [if_pos hk, if_pos (by omega), if_pos (by omega)]
      by_cases h : k ≤ a
      · rw [show min k a = k by omega, show gap a k = a - k by unfold gap; omega]
        have := first_drop (row := row) (j := k) (x := 0) (y := a - k) hc (by omega) (by omega)
        rw [show k + 0 = k by omega, show k + (a - k) = a by omega] at this
        exact this
      · rw [show min k a = a by omega, show gap a k = k - a by unfold gap; omega, first_sym hc hk ha]
        have := first_drop (row := row) (j := a) (x := 0) (y := k - a) hc (by omega) (by omega)
        rw [show a + 0 = a by omega, show a + (k - a) = k by omega] at this
        exact this
    · rw [if_neg hk, if_neg (by omega)]
  · rw [if_neg ha, if_neg (by omega)]
theorem firstF_zero {row : List Nat} (hc : ∀ c ∈ row, 1 ≤ c) (h : 0 < row.length) : firstF row 0 = some 0 := by
  unfold firstF
  rw [if_pos h, first_same hc h]
/-- the rows from a place on, weighed by where the ways first meet -/
def rowW (c m : Nat) (G : Option Nat → Nat) : Tab := fun p a => allN c (m - p) fun row => G ((firstF row a).map (p + ·))
theorem rowW_back {c m : Nat} {G : Option Nat → Nat} (g0 : G none = 0) : Back c m (rowW c m G) := by
  intro p a hp ha _
  show allN c (m - p) _ = _
  obtain ⟨n, hn⟩ : ∃ n, m - p = n + 1 := ⟨m - p - 1, by omega⟩
  rw [hn]
  show sumN c _ = sumN c _
  refine sumN_congr fun i hi => ?_
  unfold goW
  by_cases h : p + min (i + 1) a + gap a (i + 1) < m
  · rw [if_pos ⟨ha, h⟩]
    have e : allN c n (fun r => G ((firstF ((i + 1) :: r) a).map (p + ·))) = allN c n fun r => (fun s => G ((firstF s (gap a (i + 1))).map (p + min (i + 1) a + ·))) (r.drop (min (i + 1) a - 1)) := by
      refine allN_congr fun r hr hx => ?_
      show _ = G ((firstF (r.drop (min (i + 1) a - 1)) (gap a (i + 1))).map (p + min (i + 1) a + ·))
      rw [firstF_go (row := (i + 1) :: r) rfl (fun x hm => ?_) ha, if_pos (by rw [List.length_cons, hr]; omega), Option.map_map]
      · obtain ⟨j, hj⟩ : ∃ j, min (i + 1) a = j + 1 := ⟨min (i + 1) a - 1, by omega⟩
        rw [hj]
        show G (Option.map _ (firstF (r.drop j) _)) = _
        congr 2
        funext z
        show p + (j + 1 + z) = p + (j + 1) + z
        omega
      · rcases List.mem_cons.mp hm with z | z
        · omega
        · exact (hx x z).1
    rw [e, allN_drop (fun s => G ((firstF s (gap a (i + 1))).map (p + min (i + 1) a + ·))) (min (i + 1) a - 1) n (by unfold gap at h; omega)]
    unfold rowW
    rw [show n - (min (i + 1) a - 1) = m - (p + min (i + 1) a) by omega]
  · rw [if_neg fun z => h z.2]
    have e : allN c n (fun r => G ((firstF ((i + 1) :: r) a).map (p + ·))) = allN c n fun _ => 0 := by
      refine allN_congr fun r hr hx => ?_
      rw [firstF_go (row := (i + 1) :: r) rfl (fun x hm => ?_) ha, if_neg (by rw [List.length_cons, hr]; omega)]
      · exact g0
      · rcases List.mem_cons.mp hm with z | z
        · omega
        · exact (hx x z).1
    rw [e, allN_const, Nat.mul_zero]
theorem rowW_end {c m q : Nat} {G : Option Nat → Nat} (hq : q < m) : rowW c m G q 0 = c ^ (m - q) * G (some q) := by
  unfold rowW
  rw [← allN_const]
  refine allN_congr fun r hr hx => ?_
  rw [firstF_zero (fun x hm => (hx x hm).1) (by omega)]
  rfl
/-- the table counts the rows -/
theorem table_rows {c m far : Nat} {G : Option Nat → Nat} (g0 : G none = 0) (hf : far < m) : (sumN m fun q => tabS c m far m q 0 * c ^ (m - q) * G (some q)) = allN c m fun row => G (firstF row far) := by
  have h := table_back (far := far) (rowW_back (c := c) (m := m) g0) hf
  have e : rowW c m G 0 far = allN c m fun row => G (firstF row far) := by
    unfold rowW
    refine allN_congr fun r _ _ => ?_
    congr 1
    cases firstF r far with
    | none => rfl
    | some z =>
      show some (0 + z) = some z
      rw [Nat.zero_add]
  rw [← e, ← h]
  refine sumN_congr fun q hq => ?_
  rw [rowW_end hq, Nat.mul_assoc]
theorem meetL_rows {c m far : Nat} (hf : far < m) : meetL c m far = (List.range m).map fun q => allN c m fun row => if firstF row far = some q then 1 else 0 := by
  unfold meetL
  refine List.map_congr_left fun q hq => ?_
  have hq := List.mem_range.mp hq
  rw [← table_rows (G := fun o => if o = some q then 1 else 0) rfl hf]
  have : (sumN m fun q2 => tabS c m far m q2 0 * c ^ (m - q2) * (if some q2 = some q then 1 else 0)) = sumN m (fun _ => 0) + tabS c m far m q 0 * c ^ (m - q) := by
    refine sumN_one hq ?_ fun i hi hn => ?_
    · rw [if_pos rfl, Nat.mul_one, Nat.zero_add]
    · rw [if_neg (fun z => hn (Option.some.inj z)), Nat.mul_zero]
  rw [this, sumN_zero, Nat.zero_add]
end Rt

/-! The law's own tally over all rows: plain Lean. -/
namespace Rt
def tallyL (m far : Nat) (rs : List (List Nat)) : List Nat := (List.range m).map fun q => rs.countP fun r => decide (firstF r far = some q)
theorem tally_len (m far : Nat) (rs : List (List Nat)) : (tallyL m far rs).length = m := by
  unfold tallyL
  rw [List.length_map, List.length_range]
theorem tally_at {m far q : Nat} {rs : List (List Nat)} (hq : q < m) : (tallyL m far rs)[q]? = some (rs.countP fun r => decide (firstF r far = some q)) := by
  unfold tallyL
  rw [List.getElem?_map, List.getElem?_range hq]
  rfl
theorem tally_put {m far q : Nat} {rs : List (List Nat)} {r : List Nat} (hr : firstF r far = some q) : tallyL m far (rs ++ [r]) = (tallyL m far rs).set q ((rs.countP fun r => decide (firstF r far = some q)) + 1) := by
  refine List.ext_getElem? fun i => ?_
  rw [List.getElem?_set]
  by_cases hi : i < m
  · rw [tally_at hi, List.countP_append, tally_len]
    by_cases e : q = i
    · subst e
      rw [if_pos rfl, if_pos hi, List.countP_singleton, hr, if_pos (decide_eq_true rfl)]
    · rw [if_neg e, tally_at hi, List.countP_singleton, hr, if_neg (by rw [decide_eq_true_iff]; exact fun z => e (Option.some.inj z))]
      rfl
  · rw [List.getElem?_eq_none (by rw [tally_len]; omega)]
    split
    · rename_i e
      rw [if_neg (by rw [tally_len]; omega)]
    · rw [List.getElem?_eq_none (by rw [tally_len]; omega)]
theorem tally_skip {m far : Nat} {rs : List (List Nat)} {r : List Nat} (hr : firstF r far = none) : tallyL m far (rs ++ [r]) = tallyL m far rs := by
  unfold tallyL
  refine List.map_congr_left fun q _ => ?_
  rw [List.countP_append, List.countP_singleton, hr, if_neg (by rw [decide_eq_true_iff]; exact fun z => nomatch z)]
  rfl
theorem tally_nil (m far : Nat) : tallyL m far [] = List.replicate m 0 := by
  unfold tallyL
  refine List.ext_getElem? fun i => ?_
  rw [List.getElem?_map, List.getElem?_replicate]
  by_cases hi : i < m
  · rw [List.getElem?_range hi, if_pos hi]
    rfl
  · rw [List.getElem?_eq_none (by rw [List.length_range]; omega), if_neg hi]
    rfl
theorem count_sum {α : Type} (p : α → Prop) [DecidablePred p] : ∀ l : List α, (l.map fun a => if p a then 1 else 0).sum = l.countP fun a => decide (p a)
  | [] => rfl
  | a :: l => by
    rw [List.map_cons, List.sum_cons, count_sum p l, List.countP_cons]
    by_cases h : p a
    · rw [if_pos h, if_pos (decide_eq_true h), Nat.add_comm]
    · rw [if_neg h, if_neg (by rw [decide_eq_true_iff]; exact h), Nat.zero_add, Nat.add_zero]
theorem tally_meet {c m far : Nat} (hf : far < m) : tallyL m far (rowsL c m) = meetL c m far := by
  rw [meetL_rows hf]
  unfold tallyL
  refine List.map_congr_left fun q _ => ?_
  rw [← rowsL_sum, count_sum]
theorem meetL_le {c m far : Nat} (hf : far < m) : ∀ n ∈ meetL c m far, n ≤ c ^ m := by
  intro n hn
  rw [← tally_meet hf] at hn
  obtain ⟨q, _, rfl⟩ := List.mem_map.mp hn
  rw [← rowsL_len c m]
  exact List.countP_le_length
theorem meetL_len (c m far : Nat) : (meetL c m far).length = m := by
  unfold meetL
  rw [List.length_map, List.length_range]
theorem allN_le {c : Nat} {g h : List Nat → Nat} : ∀ {n}, (∀ r, r.length = n → g r ≤ h r) → allN c n g ≤ allN c n h := by
  intro n
  induction n generalizing g h with
  | zero => exact fun e => e [] rfl
  | succ n ih =>
    intro e
    have : ∀ k, (sumN k fun k => allN c n fun r => g ((k + 1) :: r)) ≤ sumN k fun k => allN c n fun r => h ((k + 1) :: r) := fun k => by
      induction k with
      | zero => exact Nat.le_refl _
      | succ k ih2 => exact Nat.add_le_add ih2 (ih fun r hr => e _ (by rw [List.length_cons, hr]))
    exact this c
/-- of all rows no more than all -/
theorem meetL_sum {c m far : Nat} (hf : far < m) : (meetL c m far).sum = allN c m fun row => if (firstF row far).isSome then 1 else 0 := by
  have h := table_rows (c := c) (m := m) (far := far) (G := fun o => if o.isSome then 1 else 0) rfl hf
  rw [← h]
  unfold meetL
  rw [sumN_range]
  exact sumN_congr fun q _ => by
    show _ = _ * 1
    rw [Nat.mul_one]
theorem meetL_sum_le {c m far : Nat} (hf : far < m) : (meetL c m far).sum ≤ c ^ m := by
  rw [meetL_sum hf, show c ^ m = allN c m (fun _ => 1) by rw [allN_const, Nat.mul_one]]
  exact allN_le fun r _ => by split <;> omega
end Rt

/-! Lists of rows, as a law builds them. -/
namespace Rt
open PySem PySem.Spec PyProof.Rows L2 Evl
def RowsAt (H : Hp) (xs : List V) (rs : List (List Nat)) : Prop := xs.length = rs.length ∧ ∀ (i : Nat) (r : List Nat), rs[i]? = some r → ∃ a : Addr, xs[i]? = some (V.ref a) ∧ H a = some (.lst (vNs r))
theorem RowsAt.ex {H H' : Hp} {xs : List V} {rs : List (List Nat)} (h : RowsAt H xs rs) (e : Ex H H') : RowsAt H' xs rs := ⟨h.1, fun i r hr => by
  obtain ⟨a, h1, h2⟩ := h.2 i r hr
  exact ⟨a, h1, e a _ h2⟩⟩
theorem RowsAt.app {H : Hp} {xs ys : List V} {rs es : List (List Nat)} (h : RowsAt H xs rs) (g : RowsAt H ys es) : RowsAt H (xs ++ ys) (rs ++ es) := by
  refine ⟨by rw [List.length_append, List.length_append, h.1, g.1], fun i r hr => ?_⟩
  by_cases hi : i < rs.length
  · rw [List.getElem?_append_left hi] at hr
    obtain ⟨a, h1, h2⟩ := h.2 i r hr
    exact ⟨a, by rw [List.getElem?_append_left (by rw [h.1]; exact hi)]; exact h1, h2⟩
  · rw [List.getElem?_append_right (by omega)] at hr
    obtain ⟨a, h1, h2⟩ := g.2 _ r hr
    exact ⟨a, by rw [List.getElem?_append_right (by rw [h.1]; omega), h.1]; exact h1, h2⟩
theorem RowsAt.nil {H : Hp} : RowsAt H [] [] := ⟨rfl, fun i r h => by simp at h⟩
theorem RowsAt.one {H : Hp} {a : Addr} {r : List Nat} (h : H a = some (.lst (vNs r))) : RowsAt H [.ref a] [r] := ⟨rfl, fun i r2 h2 => by
  cases i with
  | zero =>
    have e := Option.some.inj h2
    subst e
    exact ⟨a, rfl, h⟩
  | succ i => simp at h2⟩
/-- the new list at L tells these rows -/
def Rw (H1 : Hp) (L : Addr) (rs : List (List Nat)) (H' : Hp) : Prop := H1 L = none ∧ Ex H1 H' ∧ ∃ acc, H' L = some (.lst acc) ∧ RowsAt (New (upd H1 L (.lst [])) H') acc rs
def EvR (te : TE) (σ : L2.St) (H : Hp) (rs : List (List Nat)) : Prop := ∀ H1, Ex H H1 → ∀ Q : VK, (∀ p xs H2, Ex H1 H2 → H1 p = none → H2 p = some (.lst xs) → RowsAt (New H1 H2) xs rs → Q (.ref p) H2) → te σ H1 Q
section
variable {K : PySem.W.Frag} {σ : L2.St} {H H' : Hp} {te ta : TE} {D : Ends} {tz : TS}
theorem rw_grow {H1 H4 : Hp} {L : Addr} {rs es : List (List Nat)} {ys : List V} (p : Rw H1 L rs H') (e4 : Ex H' H4) (hy : RowsAt (New H' H4) ys es) : ∃ acc, H4 L = some (.lst acc) ∧ acc.length = rs.length ∧ Rw H1 L (rs ++ es) (upd H4 L (.lst (acc ++ ys))) := by
  obtain ⟨p1, p2, acc, p3, p4⟩ := p
  refine ⟨acc, e4 L _ p3, p4.1, p1, Ex.mut (p2.trans e4) p1, acc ++ ys, upd_same, ?_⟩
  have ne : ∀ c : Addr, upd H1 L (.lst []) c = none → c ≠ L := fun c hc z => by
    rw [z, upd_same] at hc
    cases hc
  have ne2 : ∀ c : Addr, H' c = none → c ≠ L := fun c hc z => by
    rw [z, p3] at hc
    cases hc
  refine RowsAt.app (p4.ex (new_sub (fun _ h => h) fun c o hc ho => ?_)) (hy.ex (new_sub (fun c hc => ?_) fun c o hc ho => ?_))
  · rw [upd_ne (ne c hc)]
    exact e4 c o ho
  · rw [upd_ne (ne2 c hc)]
    exact fresh_back p2 hc
  · rw [upd_ne (ne2 c hc)]
    exact ho
theorem rw_start {H1 : Hp} {L : Addr} (hL : H1 L = none) : Rw H1 L [] (upd H1 L (.lst [])) := ⟨hL, Ex.new hL, [], upd_same, .nil⟩
theorem Rw.go {H1 H2 : Hp} {L : Addr} {rs : List (List Nat)} (p : Rw H1 L rs H') (e : Ex H' H2) : Rw H1 L rs H2 := by
  obtain ⟨p1, p2, acc, p3, p4⟩ := p
  exact ⟨p1, p2.trans e, acc, e L _ p3, p4.ex (new_mono (Ex.refl _) e)⟩
/-- [row for k in range(lo, hi)] -/
theorem er_mapR2 {tb : TA} {j : Nat} {vs : List Nat} {lo hi : Int} {n : Nat} (g : Nat → List Nat) (h : EvA tb σ H [.int lo, .int hi]) (hlo : 0 ≤ lo) (hh : hi ≤ 40000) (hn : (hi - lo).toNat = n) (hlh : lo ≤ hi)
    (he : ∀ i : Nat, i < n → ∀ H1, Ex H H1 → EvL te ((wipe σ vs).set j (some (.int (lo + (i : Int))))) H1 (vNs (g i))) (hw : ∀ x, wipe ((wipe σ vs).set j (some x)) vs = wipe σ vs := by intro _; rfl) :
    EvR (tLc (iRng2 tb) (gName j) tYes te vs) σ H ((List.range n).map g) := fun H0 e Q q =>
  h H0 e _ fun H1 e1 => ⟨lo, hi, rfl, by omega, fun L hL => lc_range (lo := lo) (n := (hi - lo).toNat) (fun i H' => Rw H1 L ((List.range i).map g) H') (rw_start hL) (fun i H' hi2 p => by
      refine ⟨hw _, he i (by omega) H' ((e.trans e1).trans p.2.1) H' (Ex.refl H') _ fun r H4 nr e4 hr => ?_⟩
      obtain ⟨acc, h1, h2, h3⟩ := rw_grow p e4 (RowsAt.one (a := r) (r := g i) (by rw [new_at nr]; exact hr))
      refine ⟨acc, h1, sz_lt (by rw [h2, List.length_map, List.length_range]; omega), ?_⟩
      rw [List.range_succ, List.map_append]
      exact h3)
    (fun H' p => by
      rw [hn] at p
      obtain ⟨p1, p2, acc, p3, p4⟩ := p
      refine q L acc H' (e1.trans p2) (fresh_back e1 p1) p3 (p4.ex (new_sub (fun c hc => ?_) fun _ _ _ h => h))
      refine fresh_back e1 ?_
      by_cases z : c = L
      · rw [z, upd_same] at hc
        cases hc
      · rw [upd_ne z] at hc
        exact hc)⟩
/-- xs.extend([..rows..]) -/
theorem s_extR {H1 : Hp} {L : Addr} {rs es : List (List Nat)} (p : Rw H1 L rs H) (ha : Ev ta σ H (.ref L)) (h : EvR te σ H es) (hz : rs.length + es.length ≤ 100000) (k : ∀ H2, Rw H1 L (rs ++ es) H2 → D.nx σ H2) :
    tDrop (tBM K "list" rExtend ta (tCons te tNil)) D σ H := ha H (Ex.refl H) _ fun H2 e2 => by
  have p2 := p.go e2
  obtain ⟨q1, q2, acc, q3, q4⟩ := p2
  exact ⟨Or.inl ⟨rfl, acc, sq_of q3⟩, h H2 e2 _ fun b xs H3 e3 nb hb hr => by
    obtain ⟨acc3, h1, h2, h3⟩ := rw_grow ⟨q1, q2, acc, q3, q4⟩ e3 hr
    exact ⟨L, b, acc3, xs, rfl, rfl, h1, hb, sz_of (by rw [h2, hr.1]; exact hz), k _ h3⟩⟩
/-- [row] -/
theorem er_one {r : List Nat} (h : EvL te σ H (vNs r)) : EvR (tLst (tCons te tNil)) σ H [r] := fun H1 e Q q => h H1 e _ fun a H2 na e2 ha =>
  ⟨sz_of (show 1 ≤ 100000 by decide), fun p hp => q p [.ref a] _ (e2.trans (Ex.new hp)) (fresh_back e2 hp) upd_same (RowsAt.one (by rw [new_at na]; exact Ex.new hp a _ ha))⟩
theorem q_asgR {i : Nat} {rs : List (List Nat)} (h : EvR te σ H rs) (k : ∀ p xs H1, Ex H H1 → H p = none → H1 p = some (.lst xs) → RowsAt (New H H1) xs rs → tz D (σ.set i (some (.ref p))) H1) : tSeq (tAsg te (gName i)) tz D σ H := h H (Ex.refl H) _ k
theorem ev_lenR {rs : List (List Nat)} (h : EvR te σ H rs) : Ev (tCB (Evl.rLenS K) (tCons te tNil)) σ H (vN rs.length) := fun H1 e Q q =>
  h H1 e _ fun p xs H2 e2 _ hp hr => ⟨p, xs, rfl, Or.inl (sq_of hp), by
    rw [hr.1]
    exact q H2 e2⟩
/-- for row in rows, new ones: these stand apart from what stood before -/
theorem s_forRw {tu : TS} {j : Nat} {rs : List (List Nat)} (h : EvR te σ H rs) (Pv : Nat → L2.St → Hp → Prop) (h0 : ∀ H1, Ex H H1 → Pv 0 σ H1)
    (hs : ∀ B i r a σ' H', (∀ c o, H c = some o → B c = none) → rs[i]? = some r → B a = some (HO.lst (vNs r)) → Ex B H' → Pv i σ' H' → tu { D with nx := fun σ3 H3 => Ex B H3 ∧ Pv (i + 1) σ3 H3, ct := fun σ3 H3 => Ex B H3 ∧ Pv (i + 1) σ3 H3, bk := D.nx } (σ'.set j (some (V.ref a))) H')
    (hd : ∀ σ' H', Pv rs.length σ' H' → D.nx σ' H') : tFor (iList K te) (gName j) tu D σ H :=
  h H (Ex.refl H) _ fun p xs H1 e np hp hr => ⟨p, rfl, ⟨xs, sq_of hp⟩, for_list (fun i σ' H' => Ex (New H H1) H' ∧ Pv i σ' H') ⟨new_ex H H1, h0 H1 e⟩ (fun i σ' H' _ w => sq_of (w.1 p _ (by rw [new_at np]; exact hp))) (fun i x σ' H' hi w => by
    have hi2 : i < rs.length := by
      rw [← hr.1]
      exact (List.getElem?_eq_some_iff.mp hi).1
    obtain ⟨a, h1, h2⟩ := hr.2 i _ (List.getElem?_eq_getElem hi2)
    have hx : x = .ref a := Option.some.inj (hi.symm.trans h1)
    subst hx
    exact hs (New H H1) i _ a σ' H' (fun c o hc => new_old hc) (List.getElem?_eq_getElem hi2) h2 w.1 w.2) fun σ' H' w => hd σ' H' (by rw [← hr.1]; exact w.2)⟩
theorem q_forRw {tu : TS} {j : Nat} {rs : List (List Nat)} (h : EvR te σ H rs) (Pv : Nat → L2.St → Hp → Prop) (h0 : ∀ H1, Ex H H1 → Pv 0 σ H1)
    (hs : ∀ B i r a σ' H', (∀ c o, H c = some o → B c = none) → rs[i]? = some r → B a = some (HO.lst (vNs r)) → Ex B H' → Pv i σ' H' → tu { D with nx := fun σ3 H3 => Ex B H3 ∧ Pv (i + 1) σ3 H3, ct := fun σ3 H3 => Ex B H3 ∧ Pv (i + 1) σ3 H3, bk := tz D } (σ'.set j (some (V.ref a))) H')
    (hd : ∀ σ' H', Pv rs.length σ' H' → tz D σ' H') : tSeq (tFor (iList K te) (gName j) tu) tz D σ H := s_forRw (D := { D with nx := tz D }) h Pv h0 hs hd
/-- a def that tells new rows -/
def RetR (rs : List (List Nat)) (H : Hp) (Q : VK) : Prop := ∀ p xs H2, Ex H H2 → H p = none → H2 p = some (.lst xs) → RowsAt (New H H2) xs rs → Q (.ref p) H2
def SpR (sp : Sp) (vs : List V) (H : Hp) (rs : List (List Nat)) : Prop := ∀ H1, Ex H H1 → ∀ Q : VK, RetR rs H1 Q → ∀ E : XK, sp vs H1 Q E
theorem er_call {sp : Sp} {dvs vs : List V} {E : XK} {tb : TA} {rs : List (List Nat)} (h : EvA tb σ H vs) (hs : SpR sp (vs ++ dvs) H rs) : EvR (tCall sp dvs E tb) σ H rs := fun H1 e Q q =>
  h H1 e _ fun H2 e2 => hs H2 (e.trans e2) Q (fun p xs H3 e3 np hp hall => q p xs H3 (e2.trans e3) (fresh_back e2 np) hp (hall.ex (new_mono e2 (Ex.refl H3)))) E
theorem q_forU {tu : TS} {tl : TE} {j : Nat} {xs : List V} (h : EvU tl σ H xs) (Pv : Hp → Nat → L2.St → Hp → Prop) (h0 : ∀ H1, Ex H H1 → Pv H1 0 σ H1) (hx : ∀ H1 i σ' H', Pv H1 i σ' H' → Ex H1 H')
    (hs : ∀ H1, Ex H H1 → ∀ i x σ' H', xs[i]? = some x → Pv H1 i σ' H' → tu { D with nx := Pv H1 (i + 1), ct := Pv H1 (i + 1), bk := tz D } (σ'.set j (some x)) H')
    (hd : ∀ H1, Ex H H1 → ∀ σ' H', Pv H1 xs.length σ' H' → tz D σ' H') : tSeq (tFor (iTup K tl) (gName j) tu) tz D σ H := s_forU (D := { D with nx := tz D }) h Pv h0 hx hs hd
end
theorem good_T2 {a b : Nat} (ha : a < 10 ^ 6) (hb : b < 10 ^ 6) : Good (.tuple [.int (a : Int), .int (b : Int)]) := by
  obtain ⟨h1, h2, h3, h4, h5⟩ := good_all [a, b] fun n hn => by
    simp only [List.mem_cons, List.not_mem_nil, or_false] at hn
    rcases hn with e | e
    · omega
    · omega
  refine ⟨?_, ?_, ?_, ?_, ?_⟩
  · exact h1
  · show (PyData.tuple _).depth ≤ 60
    rw [PyData.depth]
    have : PyData.depthAll [.int (a : Int), .int (b : Int)] = 0 := h2
    omega
  · exact h3
  · exact h4
  · rw [PyData.weight]
    have : PyData.weightAll [.int (a : Int), .int (b : Int)] ≤ 21 * 2 := h5
    omega
end Rt

/-! Dicts whose keys are pairs; slices; any() of numbers. -/
namespace Rt
open PySem PySem.Spec PyProof.Rows L2 Evl
def rAnyI (K : PySem.W.Frag) : List V → Hp → VK → Prop := fun vs H Q => ∃ (a : Addr) (ns : List Int), vs = [V.ref a] ∧ SqL K H a (ns.map V.int) ∧ Q (.bl ((List.range ns.length).any fun i => (ns.getD i 0 != 0))) H
section
variable {X : Cx}
theorem truth_ints {prog : Program} {w : World} {A : Around} {ns : List Int} {its : List Value} (r : Vals (ns.map V.int) its) : TruthOf prog w A (fun i v => its.toArray[i]? = some v) (fun i => (ns.getD i 0 != 0)) := fun i v s Q E hv hq => by
  have hv' : its[i]? = some v := by simpa using hv
  obtain ⟨n, t, rfl, hn⟩ := at_int r hv'
  have hg : ns.getD i 0 = n := by rw [List.getD_eq_getElem?_getD, hn]; rfl
  have hq' : Q (ns.getD i 0 != 0) s := hq
  rw [hg] at hq'
  exact PyProof.Rows.truthy_int hq'
where
  at_int {ns : List Int} {its : List Value} {i : Nat} {v : Value} (r : Vals (ns.map V.int) its) (h : its[i]? = some v) : ∃ n t, v = .int n t ∧ ns[i]? = some n := by
    have h2 := intsAre_of r
    clear r
    induction h2 generalizing i with
    | nil => simp at h
    | cons n t r ih =>
      cases i with
      | zero =>
        have e := Option.some.inj h
        subst e
        exact ⟨n, t, rfl, rfl⟩
      | succ i =>
        exact ih (i := i) h
theorem cr_anyI (hc : X.calm = true) : CallR X (.builtin "any") (rAnyI X.K) := by
  intro pins s σ H vs us Q I r h
  obtain ⟨a, ns, rfl, hs, q⟩ := h
  obtain ⟨its, rv, hl, _⟩ := I.list hs
  rw [Vals.ref1 r]
  have hb : its.length = ns.length := by
    have := rv.length
    rw [List.length_map] at this
    exact this.symm
  refine call_any_walk (iter_any hl.isList fun s₂ e2 st hne => ?_)
  subst e2
  refine ⟨_, _, _, _, _, _, _, rfl, Walks.list (A := X.A.in1) (I.ok.hd hc) _ a hne its.toArray, st, truth_ints rv, fun h' tk hk => ?_⟩
  refine ⟨.bl _, H, I.kept fun b o eo => hk b o (fun hmem => ?_) (Heap.get?_push_of_some _ eo), ?_, q⟩
  · rcases List.mem_cons.mp hmem with e1 | hmem
    · exact absurd (e1 ▸ Heap.lt_size eo) (Nat.lt_irrefl _)
    · cases hmem
  · show Value.bool _ = Value.bool _
    rw [List.size_toArray, hb]
end
section
variable {K : PySem.W.Frag} {σ : L2.St} {H H' : Hp} {ta tb tc td te tl tx ty : TE} {x y z v : V} {D : Ends} {tz : TS}
/-- any(xs), all of them 0 -/
theorem ev_anyZ {l : List Nat} (h : EvL ta σ H (vNs l)) (hz : ∀ n ∈ l, n = 0) : Ev (tCB (rAnyI K) (tCons ta tNil)) σ H (.bl false) := fun H1 e Q q =>
  h H1 e _ fun p H2 np e2 hp => ⟨p, l.map fun n : Nat => (n : Int), rfl, sq_of (by rw [hp, List.map_map]; rfl), by
    have e0 : ((List.range (l.map fun n : Nat => (n : Int)).length).any fun i => ((l.map fun n : Nat => (n : Int)).getD i 0 != 0)) = false := by
      rw [List.any_eq_false]
      intro i hi
      rw [List.getD_eq_getElem?_getD, List.getElem?_map]
      cases hl : l[i]? with
      | none => exact fun z => nomatch z
      | some n =>
        rw [hz n (List.mem_of_getElem? hl)]
        exact fun z => nomatch z
    rw [e0]
    exact q H2 e2⟩
theorem ev_get2T {a b : Addr} {kvs : List (List Key × V)} {k : List Key} (hd : Ev td σ H (.ref a)) (ha : H a = some (.dT kvs)) (hk : Ev ty σ H (.ref b)) (hb : H b = some (.tup (k.map kV))) (hz : Ev tx σ H z) : Ev (tDGet2 td ty tx) σ H ((valV kvs k).getD z) := fun H1 e Q q =>
  hd H1 e _ fun H2 e2 => ⟨a, rfl, .inr ⟨kvs, .inl ((e.trans e2) a _ ha)⟩, hk H2 (e.trans e2) _ fun H3 e3 => hz H3 ((e.trans e2).trans e3) _ fun H4 e4 =>
    ⟨valV kvs k, DGet.t ((((e.trans e2).trans e3).trans e4) a _ ha) ((((e.trans e2).trans e3).trans e4) b _ hb), q H4 ((e2.trans e3).trans e4)⟩⟩
theorem ev_dgetT {a : Addr} {kvs : List (List Key × V)} {k : List Key} (hd : Ev td σ H (.ref a)) (ha : H a = some (.dT kvs)) (hk : EvU ty σ H (k.map kV)) (hv : valV kvs k = some v) : Ev (tDGet td ty) σ H v := fun H1 e Q q =>
  hd H1 e _ fun H2 e2 => hk H2 (e.trans e2) _ fun b H3 nb e3 hb => ⟨a, v, rfl, by rw [← hv]; exact DGet.t (((e.trans e2).trans e3) a _ ha) hb, q H3 (e2.trans e3)⟩
theorem s_dputT {a : Addr} {kvs : List (List Key × V)} {k : List Key} (ha : H a = some (.dT kvs)) (hv : Ev te σ H v) (hd : Ev td σ H (.ref a)) (hk : EvU ty σ H (k.map kV)) (hl : kvs.length < 100000) (q : ∀ H1, Ex H H1 → D.nx σ (upd H1 a (.dT (putK kvs k v)))) : sDPut td ty te D σ H :=
  hv H (Ex.refl H) _ fun H1 e1 => hd H1 e1 _ fun H2 e2 => hk H2 (e1.trans e2) _ fun b H3 nb e3 hb => ⟨a, _, rfl, DPut.t (((e1.trans e2).trans e3) a _ ha) hb (sz_lt hl), q H3 ((e1.trans e2).trans e3)⟩
theorem q_dputT {a : Addr} {kvs : List (List Key × V)} {k : List Key} (ha : H a = some (.dT kvs)) (hv : Ev te σ H v) (hd : Ev td σ H (.ref a)) (hk : EvU ty σ H (k.map kV)) (hl : kvs.length < 100000) (q : ∀ H1, Ex H H1 → tz D σ (upd H1 a (.dT (putK kvs k v)))) : tSeq (sDPut td ty te) tz D σ H := s_dputT (D := { D with nx := tz D }) ha hv hd hk hl q
theorem q_dnewT {i : Nat} (q : ∀ p H1, H p = none → Ex H H1 → H1 p = some (.dT []) → tz D (σ.set i (some (.ref p))) H1) : tSeq (tAsg tDNewT (gName i)) tz D σ H := fun p hp => q p _ hp (Ex.new hp) upd_same
/-- xs[::-1], xs new -/
theorem el_rev {xs : List V} (h : EvL ta σ H xs) : EvL (tRevL K ta) σ H xs.reverse := fun H1 e Q q =>
  h H1 e _ fun p H2 np e2 hp => ⟨p, xs, rfl, sq_of hp, fun c hc => q c _ (fresh_back e2 hc) (e2.trans (Ex.new hc)) upd_same⟩
/-- xs[lo:hi], xs new -/
theorem el_slN {xs : List V} {tl th : TO} {lo hi : Option Int} (h : EvL te σ H xs) (h1 : Evl.EvO tl σ H lo) (h2 : Evl.EvO th σ H hi) : EvL (tSl (rSlL K) te tl th) σ H (cutV xs lo hi) := fun H1 e _ q =>
  h H1 e _ fun p H2 np e2 hp => h1 H2 (e.trans e2) _ fun H3 e3 => h2 H3 ((e.trans e2).trans e3) _ fun H4 e4 =>
    ⟨p, xs, rfl, sq_of (e4 p _ (e3 p _ hp)), fun c hc => q c _ (fresh_back ((e2.trans e3).trans e4) hc) (((e2.trans e3).trans e4).trans (Ex.new hc)) upd_same⟩
theorem cut_to (xs : List V) (k : Nat) : cutV xs none (some (k : Int)) = xs.take k := by
  unfold cutV
  rw [HT.sIx_none, HT.sIx_nat, List.drop_zero, Nat.sub_zero]
  by_cases h : k ≤ xs.length
  · rw [show min k xs.length = k by omega]
  · rw [show min k xs.length = xs.length by omega, List.take_length, List.take_of_length_le (by omega)]
theorem cut_from (xs : List V) (k : Nat) : cutV xs (some (k : Int)) none = xs.drop k := by
  unfold cutV
  rw [HT.sIx_none, HT.sIx_nat]
  by_cases h : k ≤ xs.length
  · rw [show min k xs.length = k by omega, List.take_of_length_le (by rw [List.length_drop]; exact Nat.le_refl _)]
  · rw [show min k xs.length = xs.length by omega, List.drop_eq_nil_of_le (Nat.le_refl _), List.drop_eq_nil_of_le (by omega)]
    exact List.take_nil
/-- a, b = [..], (..), two locals -/
theorem q_parLU {i j : Nat} {xs ys : List V} (h1 : EvL ta σ H xs) (h2 : EvU tb σ H ys) (k : ∀ p r H1, H p = none → Ex H H1 → H1 p = some (.lst xs) → H1 r = some (.tup ys) → tz D ((σ.set i (some (.ref p))).set j (some (.ref r))) H1) :
    tSeq (tPar i j (tCons ta (tCons tb tNil))) tz D σ H :=
  h1 H (Ex.refl H) _ fun p H1 np e1 hp => h2 H1 e1 _ fun r H2 nr e2 hr => ⟨.ref p, .ref r, rfl, k p r H2 np (e1.trans e2) (e2 p _ hp) hr⟩
end
theorem layN : ∀ l : List Nat, PyData.canLayAll0 (l.map fun n : Nat => PyData.int (n : Int)) = true ∧ PyData.depthAll (l.map fun n : Nat => PyData.int (n : Int)) = 0
  | [] => ⟨rfl, rfl⟩
  | n :: r => by
    obtain ⟨h1, h2⟩ := layN r
    rw [List.map_cons]
    refine ⟨?_, ?_⟩
    · rw [PyData.canLayAll0, h1]
      rfl
    · rw [PyData.depthAll, h2]
      rfl
theorem shN (l : List Nat) : SeqAt.shaped (pdN l) = true := by
  obtain ⟨h1, h2⟩ := layN l
  show ((pdN l).canLay0 && decide ((pdN l).depth ≤ 64)) = true
  have e1 : (pdN l).canLay0 = true := h1
  have e2 : (pdN l).depth ≤ 64 := by
    show (PyData.list _).depth ≤ 64
    rw [PyData.depth, h2]
    decide
  rw [e1, decide_eq_true e2]
  rfl
theorem reflN (l : List Nat) : PyData.eqv (pdN l) (pdN l) = true := SeqAt.eqv_refl _ (layN l).1
theorem shT2 (a b : Int) : SeqAt.shaped (.tuple [.int a, .int b]) = true := rfl
theorem reflT2 (a b : Int) : PyData.eqv (.tuple [.int a, .int b]) (.tuple [.int a, .int b]) = true := SeqAt.eqv_refl _ rfl
end Rt
namespace Rt
open PySem PySem.Spec PyProof.Rows L2 Evl
section
variable {K : PySem.W.Frag} {σ : L2.St} {H : Hp} {te : TE} {x : V} {D : Ends} {t u : TS}
theorem q_cut (Mid : L2.St → Hp → Prop) (h1 : t { D with nx := Mid } σ H) (h2 : ∀ σ' H', Mid σ' H' → u D σ' H') : tCut t u D σ H := ⟨Mid, h1, h2⟩
theorem en_u2 {a b : Nat} (h : EvU te σ H [vN a, vN b]) : EvN K te σ H (.tuple [.int (a : Int), .int (b : Int)]) := fun H1 e Q q =>
  h H1 e Q fun p H2 np e2 hp => q (.ref p) H2 e2 (.tup (st_of (by rw [new_at np]; exact hp)) (.cons (.int _) (.cons (.int _) .nil)))
/-- three numbers and a list taken apart -/
theorem g_four {i j k n : Nat} {a b c : Int} {l : List Nat} {Q : L2.St → Hp → Prop} (h : Dp K H x (.tuple [.int a, .int b, .int c, pdN l]))
    (kk : ∀ r, SqL K H r (vNs l) → Q ((((σ.set i (some (.int a))).set j (some (.int b))).set k (some (.int c))).set n (some (.ref r))) H) : gTup K 4 (gCons (gName i) (gCons (gName j) (gCons (gName k) (gCons (gName n) gNil)))) x σ H Q := by
  cases h with
  | tup hq hall =>
    cases hall with
    | cons h1 hr =>
      cases hr with
      | cons h2 hn =>
        cases hn with
        | cons h3 hm =>
          cases hm with
          | cons h4 ho =>
            cases ho
            cases h1
            cases h2
            cases h3
            obtain ⟨r, rfl, hs⟩ := dp_N_inv h4
            exact ⟨_, _, rfl, hq, rfl, _, _, rfl, _, _, rfl, _, _, rfl, _, _, rfl, rfl, kk r hs⟩
end
end Rt

/-! Great counts: with a card more; distance 0; one card; numbers told outright. Plain Lean. -/
namespace Rt
theorem first_ge {row : List Nat} {a z : Nat} (h : firstF row a = some z) : a ≤ z := by
  unfold firstF at h
  split at h
  · exact wayF_ge row _ a z (List.mem_filter.mp (List.mem_of_head? h)).1
  · cases h
theorem firstF_more (k : Nat) (hk : 1 ≤ k) : ∀ (n : Nat) (r : List Nat) (a q : Nat), r.length = n → (∀ x ∈ r, 1 ≤ x) → a < n → q < n → (firstF (r ++ [k]) a = some q ↔ firstF r a = some q) := by
  intro n
  induction n using Nat.strongRecOn with
  | _ n ih =>
    intro r a q hr hc ha hq
    have hc2 : ∀ x ∈ r ++ [k], 1 ≤ x := fun x hx => by
      rcases List.mem_append.mp hx with z | z
      · exact hc x z
      · rw [List.mem_singleton.mp z]
        exact hk
    by_cases h0 : 0 < a
    · obtain ⟨c, s, rfl⟩ : ∃ c s, r = c :: s := by
        cases r with
        | nil => exact absurd hr (by show ¬ 0 = n; omega)
        | cons c s => exact ⟨c, s, rfl⟩
      have c1 : 1 ≤ c := hc c List.mem_cons_self
      rw [firstF_go (row := (c :: s) ++ [k]) (r := s ++ [k]) rfl hc2 h0, firstF_go rfl hc h0]
      have hg : min c a + gap a c = max c a := by
        unfold gap
        omega
      rw [List.length_append, hr, hg]
      show (if max c a < n + 1 then _ else _) = _ ↔ _
      by_cases hm : max c a < n
      · rw [if_pos (by omega), if_pos hm, List.drop_append_of_le_length (by rw [hr]; omega)]
        have := ih (n - min c a) (by omega) ((c :: s).drop (min c a)) (gap a c)
        constructor
        · intro h
          obtain ⟨z, hz, e⟩ := Option.map_eq_some_iff.mp h
          refine Option.map_eq_some_iff.mpr ⟨z, (this z (by rw [List.length_drop, hr]) (fun x hx => hc x (List.mem_of_mem_drop hx)) (by omega) (by omega)).mp hz, e⟩
        · intro h
          obtain ⟨z, hz, e⟩ := Option.map_eq_some_iff.mp h
          refine Option.map_eq_some_iff.mpr ⟨z, (this z (by rw [List.length_drop, hr]) (fun x hx => hc x (List.mem_of_mem_drop hx)) (by omega) (by omega)).mpr hz, e⟩
      · rw [if_neg hm]
        constructor
        · intro h
          split at h
          · obtain ⟨z, hz, e⟩ := Option.map_eq_some_iff.mp h
            have := first_ge hz
            omega
          · cases h
        · intro h
          cases h
    · have e : a = 0 := by omega
      subst e
      rw [firstF_zero hc2 (by rw [List.length_append]; omega), firstF_zero hc (by omega)]
theorem allN_mul {c : Nat} (v : Nat) : ∀ (n : Nat) (g : List Nat → Nat), allN c n (fun r => v * g r) = v * allN c n g
  | 0, g => rfl
  | n + 1, g => by
    show (sumN c fun k => allN c n fun r => v * g ((k + 1) :: r)) = v * sumN c fun k => allN c n fun r => g ((k + 1) :: r)
    rw [← sumN_mul]
    exact sumN_congr fun k _ => allN_mul v n _
theorem sumN_const (v : Nat) : ∀ c, sumN c (fun _ => v) = c * v
  | 0 => (Nat.zero_mul v).symm
  | c + 1 => by
    show sumN c _ + v = _
    rw [sumN_const v c, Nat.add_mul, Nat.one_mul]
/-- rows whose ways first meet there -/
def meetN (c m far q : Nat) : Nat := allN c m fun row => if firstF row far = some q then 1 else 0
theorem meetL_N {c m far : Nat} (hf : far < m) : meetL c m far = (List.range m).map (meetN c m far) := meetL_rows hf
theorem meetN_more {c m far q : Nat} (hf : far < m) (hq : q < m) : meetN c (m + 1) far q = c * meetN c m far q := by
  unfold meetN
  rw [allN_end, ← allN_mul]
  refine allN_congr fun r hr hx => ?_
  rw [← sumN_const]
  refine sumN_congr fun k _ => ?_
  have h := firstF_more (k + 1) (by omega) m r far q hr (fun x hm => (hx x hm).1) hf hq
  by_cases z : firstF r far = some q
  · rw [if_pos z, if_pos (h.mpr z)]
  · rw [if_neg z, if_neg fun y => z (h.mp y)]
theorem meetN_low {c m far q : Nat} (hq : q < far) : meetN c m far q = 0 := by
  unfold meetN
  have : allN c m (fun row => if firstF row far = some q then 1 else 0) = allN c m fun _ => 0 := allN_congr fun r _ _ => by
    rw [if_neg fun z => by have := first_ge z; omega]
  rw [this, allN_const, Nat.mul_zero]
theorem meetN_zero {c m q : Nat} (hm : 0 < m) : meetN c m 0 q = if q = 0 then c ^ m else 0 := by
  unfold meetN
  have : allN c m (fun row => if firstF row 0 = some q then 1 else 0) = allN c m fun _ => if q = 0 then 1 else 0 := allN_congr fun r hr hx => by
    rw [firstF_zero (fun x h => (hx x h).1) (by omega)]
    by_cases e : q = 0
    · subst e
      rfl
    · rw [if_neg e, if_neg fun z => e (Option.some.inj z).symm]
  rw [this, allN_const]
  split
  · rw [Nat.mul_one]
  · rw [Nat.mul_zero]
theorem meetL_more {c m far : Nat} (hf : far < m) : (meetL c (m + 1) far).take m = (meetL c m far).map (· * c) := by
  rw [meetL_N (show far < m + 1 by omega), meetL_N hf, List.range_succ, List.map_append, List.take_left' (by rw [List.length_map, List.length_range]), List.map_map]
  refine List.map_congr_left fun q hq => ?_
  show _ = meetN c m far q * c
  rw [meetN_more hf (List.mem_range.mp hq), Nat.mul_comm]
theorem sum_more {c m far : Nat} (hf : far < m) : c * (meetL c m far).sum ≤ (meetL c (m + 1) far).sum := by
  rw [meetL_N (show far < m + 1 by omega), meetL_N hf, sumN_range, sumN_range, ← sumN_mul]
  show _ ≤ sumN m _ + _
  rw [sumN_congr (f := meetN c (m + 1) far) (g := fun q => c * meetN c m far q) fun q hq => meetN_more hf hq]
  exact Nat.le_add_right _ _
theorem sum_mores {c m far : Nat} (hf : far < m) : ∀ j, c ^ j * (meetL c m far).sum ≤ (meetL c (m + j) far).sum
  | 0 => by
    rw [Nat.pow_zero, Nat.one_mul]
    exact Nat.le_refl _
  | j + 1 => by
    have h1 := sum_mores (c := c) hf j
    have h2 := sum_more (c := c) (m := m + j) (far := far) (by omega)
    have h3 : c * (c ^ j * (meetL c m far).sum) ≤ c * (meetL c (m + j) far).sum := Nat.mul_le_mul_left c h1
    rw [Nat.pow_succ, Nat.mul_comm (c ^ j) c, Nat.mul_assoc]
    exact Nat.le_trans h3 h2
theorem meetL_low {c m far : Nat} (hf : far < m) : ∀ n ∈ (meetL c m far).take far, n = 0 := by
  intro n hn
  obtain ⟨i, hi, rfl⟩ := List.getElem_of_mem hn
  rw [List.getElem_take]
  rw [List.length_take] at hi
  have e : (meetL c m far)[i]? = some (meetN c m far i) := by
    rw [meetL_N hf, List.getElem?_map, List.getElem?_range (by omega)]
    rfl
  rw [List.getElem?_eq_getElem (by rw [meetL_len]; omega)] at e
  rw [Option.some.inj e]
  exact meetN_low (by omega)
theorem meetL_zero {c m : Nat} : meetL c (m + 1) 0 = c ^ (m + 1) :: List.replicate m 0 := by
  rw [meetL_N (by omega), List.range_succ_eq_map, List.map_cons, meetN_zero (by omega), if_pos rfl, List.map_map]
  congr 1
  refine List.ext_getElem? fun i => ?_
  rw [List.getElem?_map, List.getElem?_replicate]
  by_cases hi : i < m
  · rw [List.getElem?_range hi, if_pos hi]
    show some (meetN c (m + 1) 0 (i + 1)) = some 0
    rw [meetN_zero (by omega), if_neg (by omega)]
  · rw [List.getElem?_eq_none (by rw [List.length_range]; omega), if_neg hi]
    rfl
theorem sum_zero {c m : Nat} (hm : 0 < m) : (meetL c m 0).sum = c ^ m := by
  obtain ⟨n, rfl⟩ : ∃ n, m = n + 1 := ⟨m - 1, by omega⟩
  rw [meetL_zero, List.sum_cons, List.sum_replicate_nat, Nat.mul_zero, Nat.add_zero]
theorem first_ones : ∀ (n : Nat) (r : List Nat) (a : Nat), r.length = n → (∀ x ∈ r, x = 1) → a < n → (firstF r a).isSome = true
  | 0, _, _, _, _, h => by omega
  | n + 1, [], _, hr, _, _ => by cases hr
  | n + 1, c :: s, a, hr, hx, ha => by
    have hc : ∀ x ∈ c :: s, 1 ≤ x := fun x h => by rw [hx x h]; exact Nat.le_refl _
    by_cases h0 : 0 < a
    · have e : c = 1 := hx c List.mem_cons_self
      subst e
      rw [firstF_go rfl hc h0, hr, if_pos (by unfold gap; omega), Option.isSome_map, show min 1 a = 1 by omega]
      exact first_ones n s _ (by rw [List.length_cons] at hr; omega) (fun x h => hx x (List.mem_cons_of_mem _ h)) (by unfold gap; omega)
    · have e : a = 0 := by omega
      subst e
      rw [firstF_zero hc (by omega)]
      rfl
theorem sum_ones {m far : Nat} (hf : far < m) : (meetL 1 m far).sum = 1 := by
  rw [meetL_sum hf]
  have : allN 1 m (fun row => if (firstF row far).isSome then 1 else 0) = allN 1 m fun _ => 1 := allN_congr fun r hr hx => by
    rw [if_pos (first_ones m r far hr (fun x h => by have := hx x h; omega) hf)]
  rw [this, allN_const, Nat.one_pow]
/-! the share, in lowest terms -/
def topOf (S B : Nat) : Nat := S / Nat.gcd S B
def botOf (S B : Nat) : Nat := B / Nat.gcd S B
theorem low_terms {S B : Nat} (hB : 0 < B) : ∃ g, 0 < g ∧ S = topOf S B * g ∧ B = botOf S B * g := by
  refine ⟨Nat.gcd S B, Nat.gcd_pos_of_pos_right _ hB, ?_, ?_⟩
  · exact (Nat.div_mul_cancel (Nat.gcd_dvd_left S B)).symm
  · exact (Nat.div_mul_cancel (Nat.gcd_dvd_right S B)).symm
theorem low_cross {S B : Nat} (hB : 0 < B) : topOf S B * B = botOf S B * S := by
  obtain ⟨g, hg, h1, h2⟩ := low_terms (S := S) hB
  generalize topOf S B = s at *
  generalize botOf S B = b at *
  rw [h1, h2, Nat.mul_left_comm]
theorem low_le {S B : Nat} (h : S ≤ B) : topOf S B ≤ botOf S B := Nat.div_le_div_right h
theorem low_gcd {S B : Nat} (hB : 0 < B) : Nat.gcd (topOf S B) (botOf S B) = 1 := by
  have hg : 0 < Nat.gcd S B := Nat.gcd_pos_of_pos_right _ hB
  have h1 : topOf S B * Nat.gcd S B = S := Nat.div_mul_cancel (Nat.gcd_dvd_left S B)
  have h2 : botOf S B * Nat.gcd S B = B := Nat.div_mul_cancel (Nat.gcd_dvd_right S B)
  have h3 : Nat.gcd (topOf S B * Nat.gcd S B) (botOf S B * Nat.gcd S B) = Nat.gcd S B := by
    conv => lhs; rw [h1, h2]
  rw [Nat.gcd_mul_right] at h3
  exact Nat.eq_of_mul_eq_mul_right hg (by rw [h3, Nat.one_mul])
theorem low_grow {S B S2 B2 c : Nat} (hB : 0 < B) (hB2 : 0 < B2) (hc : B2 = c * B) (h : c * S ≤ S2) : topOf S B * botOf S2 B2 ≤ topOf S2 B2 * botOf S B := by
  obtain ⟨g, hg, h1, h2⟩ := low_terms (S := S) hB
  obtain ⟨g2, hg2, h3, h4⟩ := low_terms (S := S2) hB2
  generalize topOf S B = s at *
  generalize botOf S B = b at *
  generalize topOf S2 B2 = s2 at *
  generalize botOf S2 B2 = b2 at *
  have hk : S * B2 ≤ S2 * B := by
    rw [hc, ← Nat.mul_assoc, Nat.mul_comm S c]
    exact Nat.mul_le_mul_right B h
  rw [h1, h4, h3, h2, Nat.mul_mul_mul_comm, Nat.mul_mul_mul_comm s2 g2 b g, Nat.mul_comm g2 g] at hk
  exact Nat.le_of_mul_le_mul_right hk (Nat.mul_pos hg hg2)
theorem low_same {B : Nat} (hB : 0 < B) : topOf B B = 1 ∧ botOf B B = 1 := by
  unfold topOf botOf
  rw [Nat.gcd_self, Nat.div_self hB]
  exact ⟨rfl, rfl⟩
theorem low_half {S B : Nat} (hB : 0 < B) (h : B < S * 2) : botOf S B < topOf S B * 2 := by
  obtain ⟨g, hg, h1, h2⟩ := low_terms (S := S) hB
  generalize topOf S B = s at *
  generalize botOf S B = b at *
  rw [h1, h2, Nat.mul_right_comm] at h
  exact Nat.lt_of_mul_lt_mul_right h
/-! numbers outright -/
def evW (c m : Nat) (g : Nat → Nat) : Nat → Nat → Nat → Nat
  | 0, _, _ => 0
  | f + 1, p, a => if a = 0 then c ^ (m - p) * g p else sumN c fun i => if p + min (i + 1) a + gap a (i + 1) < m then c ^ (min (i + 1) a - 1) * evW c m g f (p + min (i + 1) a) (gap a (i + 1)) else 0
theorem evW_is {c m : Nat} {G : Option Nat → Nat} (g0 : G none = 0) : ∀ f p a, p < m → a < m → m - p ≤ f → rowW c m G p a = evW c m (fun q => G (some q)) f p a
  | 0, p, a, hp, ha, hf => by omega
  | f + 1, p, a, hp, ha, hf => by
    show _ = if a = 0 then _ else _
    by_cases h0 : a = 0
    · subst h0
      rw [if_pos rfl, rowW_end hp]
    · rw [if_neg h0, rowW_back g0 p a hp (by omega) ha]
      refine sumN_congr fun i _ => ?_
      unfold goW
      by_cases h : p + min (i + 1) a + gap a (i + 1) < m
      · rw [if_pos ⟨by omega, h⟩, if_pos h, evW_is g0 f _ _ (by omega) (by omega) (by omega)]
      · rw [if_neg fun z => h z.2, if_neg h]
theorem rowW_first {c m far : Nat} {G : Option Nat → Nat} : rowW c m G 0 far = allN c m fun row => G (firstF row far) := by
  unfold rowW
  refine allN_congr fun r _ _ => ?_
  congr 1
  cases firstF r far with
  | none => rfl
  | some z =>
    show some (0 + z) = some z
    rw [Nat.zero_add]
theorem meetL_ev {c m far : Nat} (hf : far < m) : meetL c m far = (List.range m).map fun q => evW c m (fun p => if p = q then 1 else 0) m 0 far := by
  rw [meetL_N hf]
  refine List.map_congr_left fun q _ => ?_
  unfold meetN
  rw [← rowW_first (G := fun o => if o = some q then 1 else 0), evW_is rfl m 0 far (by omega) hf (by omega)]
  congr 1
  funext p
  by_cases e : p = q
  · subst e
    rw [if_pos rfl, if_pos rfl]
  · rw [if_neg e, if_neg fun z => e (Option.some.inj z)]
def tab21 : List (List Nat) := [[1000000000000000000000, 515761768261103352780, 506591310176239278320, 497387812641576643600, 488329685282400846720, 479565484433181329920, 471217222631004835040, 463383134767144518960, 456139948152571687400, 449544695777288550010, 443636104698619700010, 359342457543320439660, 337411874803886810280, 316501870617080097840, 296447780719698215520, 277070614677204622560, 258175728325487245680, 239551136657024276040, 220965453858138400620, 202165441774145462910, 182873142484145462910],
  [100000000000000000000, 49723864041741665720, 48761862613938293600, 47815442168792191520, 46899478381058902720, 46026260457237348640, 45205770767145865360, 44445916616470153400, 43752718082117140910, 43130455132601790910, 41758405231210949060, 33082814509444255480, 31064487728825463440, 29142089447245292320, 27298671297927692960, 25516001556862476880, 23774408459729479640, 22052590732558036420, 20327393624922314810, 18573548234922314810],
  [10000000000000000000, 4775522926957908400, 4676454965972736320, 4580663804634107520, 4489360169659286240, 4403533263873987760, 4323974019304559400, 4251294148447012810, 4185941314600162810, 4037119428291904460, 3916619500858568680, 3032370738984133040, 2848580058840481120, 2673554990720699360, 2505589305169316080, 2342858259975407240, 2183401175687094220, 2025100974992937710, 1865660484992937710],
  [1000000000000000000, 457075168649543520, 447048581344608320, 437500996428247840, 428528282753126160, 420207544433505400, 412599020062455710, 405747613909105710, 389926761117445860, 376888958259869880, 366579158089466640, 277079932621861920, 260492053701881760, 244685645924483280, 229491514543218840, 214729215971554020, 200205188635721610, 185710598635721610],
  [100000000000000000, 43617982921800320, 42619074947625440, 41681023059840560, 40811164444791400, 40015264175859610, 39297667039009610, 37640178574313260, 36255624569079080, 35137188917224240, 34279993874714720, 25266695791080160, 23780949629498480, 22363264958474440, 20997037815595820, 19664571694156510, 18346881694156510],
  [10000000000000000, 4152126090588640, 4054006397906960, 3963053570777400, 3879803754314510, 3804662881364510, 3632877775846660, 3487823469916280, 3368705901565840, 3274923079519520, 3206063253734560, 2301613602681680, 2169424087134040, 2043021619599620, 1920788335832410, 1800998335832410],
  [1000000000000000, 394478820566160, 384961946791400, 376249749890410, 368378732560410, 350716423986060, 335670140901480, 323150791051440, 313088279956320, 305431204884960, 300146691152880, 209620371557640, 197929238145420, 186717121439310, 175827121439310],
  [100000000000000, 37423590741800, 36510931921310, 35685711327310, 33880343671460, 32330951354680, 31027784641040, 29962970905120, 29130473171360, 28526062832080, 28147306505240, 19102658013220, 18074283767210, 17084283767210],
  [10000000000000, 3546919115410, 3460286017210, 3276513462860, 3117797595880, 2983089694640, 2871526445920, 2782424833760, 2715278439280, 2669755136840, 2645696183020, 1743116706110, 1653116706110],
  [1000000000000, 336007344210, 317352031260, 301151755080, 287295072240, 275688858720, 266257712160, 258943494480, 253705012440, 250517834820, 249374246010, 159374246010],
  [100000000000, 30798901760, 29148993280, 27728243840, 26526723520, 25536246560, 24750317680, 24164092040, 23774348620, 23579476910, 23579476910],
  [10000000000, 2649908480, 2520749440, 2411520320, 2321476960, 2250028880, 2196735640, 2161304420, 2143588810, 2143588810],
  [1000000000, 229159040, 219229120, 211043360, 204548080, 199703240, 196482220, 194871710, 194871710],
  [100000000, 19929920, 19185760, 18595280, 18154840, 17862020, 17715610, 17715610],
  [10000000, 1744160, 1690480, 1650440, 1623820, 1610510, 1610510],
  [1000000, 153680, 150040, 147620, 146410, 146410],
  [100000, 13640, 13420, 13310, 13310],
  [10000, 1220, 1210, 1210],
  [1000, 110, 110],
  [100, 10],
  [10]]
def tabW : Tab := fun p a => (tab21.getD p []).getD a 0
theorem tab_back : Back 10 21 tabW := by
  have h : ∀ p, p < 21 → ∀ a, a < 21 → 0 < a → tabW p a = sumN 10 fun i => goW 10 21 p a tabW (i + 1) := by decide +kernel
  exact fun p a hp h0 ha => h p hp a ha h0
theorem tab_end : ∀ q, q < 21 → tabW q 0 = 10 ^ (21 - q) := by decide +kernel
theorem sum_21 : (meetL 10 21 1).sum = tabW 0 1 := by
  rw [← table_back tab_back (show 1 < 21 by decide)]
  unfold meetL
  rw [sumN_range]
  exact sumN_congr fun q hq => by rw [tab_end q hq]
theorem half_52 : 10 ^ 52 < (meetL 10 52 1).sum * 2 := by
  have h := sum_mores (c := 10) (m := 21) (far := 1) (by decide) 31
  rw [sum_21] at h
  have h2 : 10 ^ 52 < 10 ^ 31 * tabW 0 1 * 2 := by decide +kernel
  have h3 : (meetL 10 (21 + 31) 1).sum = (meetL 10 52 1).sum := rfl
  rw [h3] at h
  generalize (meetL 10 52 1).sum = S at *
  omega
end Rt

/-! len(range(..)); rows by +; comprehensions over data taken apart; a caught error's class. -/
namespace Rt
open PySem PySem.Spec PyProof.Rows L2 Evl
def tLenRg3 (ta : TA) : TE := fun σ H Q => ta σ H fun vs H1 => ∃ (i j c : Int) (n : Nat), vs = [.int i, .int j, .int c] ∧ RgC i j c n ∧ n ≤ 100000 ∧ Q (.int (n : Int)) H1
section
variable {X : Cx}
theorem pe_lenRg3 {a b c : Expr} {ta : TA} {p p2 pos pos2 : Pos} (hgl : Gl X "len") (hml : X.mg "len" = none) (hg : Gl X "range") (hm : X.mg "range" = none) (ha : PA X [a, b, c] ta)
    (hs : starEach [a, b, c] X.env = (false, eval a X.env) :: starEach [b, c] X.env := by rfl) (hpl : (backTo pos2 (starEach [b, c] X.env)).any (·.1) = false := by rfl)
    (hs2 : starEach [Expr.Call (.Name "range" p2) [a, b, c] [] pos2] X.env = (false, eval (Expr.Call (.Name "range" p2) [a, b, c] [] pos2) X.env) :: starEach [] X.env := by rfl) :
    PE X (.Call (.Name "len" p) [.Call (.Name "range" p2) [a, b, c] [] pos2] [] pos) (tLenRg3 ta) := by
  refine ⟨fun pins s σ H Q I h => ?_⟩
  refine wpAny_Call_Name_kw (ld_blt I hgl hml (u := .builtin "len") (by decide +kernel) ?_ (by decide) (by decide))
  refine PyProof.Rows.callWith_builtin1 (args_cons (e := Expr.Call (.Name "range" p2) [a, b, c] [] pos2) ?_ hs2) hs2
  refine Call_ (ld_blt I hg hm boot_range (PyProof.Rows.callWith_type1 (thn (ha.run pos2 pins s σ H _ I h) fun us s1 ⟨vs, H1, I1, r1, q1⟩ => ?_) hs hpl))
  obtain ⟨i, j, k, n, e, ⟨c0, c1, c2, c3⟩, hn, q⟩ := q1
  subst e
  cases r1 with
  | cons r rr =>
    cases rr with
    | cons r' rr =>
      cases rr with
      | cons r'' rr =>
        cases rr
        obtain ⟨t, rfl⟩ := r
        obtain ⟨t', rfl⟩ := r'
        obtain ⟨t'', rfl⟩ := r''
        refine call_range_3 c0 ?_ (.inl (PyProof.noPylong_small c1))
        refine args_nil ?_
        have I2 : Inv X pins σ H1 { s1 with heap := s1.heap.push { cls := .type "range", data := .fields #[.int i t, .int j t', .int k t''] } } := I1.kept (t' := s1.toks) fun b o e => Heap.get?_push_of_some _ e
        refine call_len_range (IsRange.new ..) c3 (by omega) ?_
        exact ⟨.int (n : Int), H1, I2.tok _, ⟨_, rfl⟩, q⟩
end
section
variable {K : PySem.W.Frag} {σ : L2.St} {H H' : Hp} {ta tb te tl : TE} {x y z v : V} {D : Ends} {tz : TS}
theorem ev_lenRg3 {tr : TA} {i j c : Int} {n : Nat} (h : EvA tr σ H [.int i, .int j, .int c]) (hr : RgC i j c n) (hn : n ≤ 100000) : Ev (tLenRg3 tr) σ H (vN n) := fun H1 e Q q => h H1 e _ fun H2 e2 => ⟨i, j, c, n, rfl, hr, hn, q H2 e2⟩
def rNotNon : R2 := fun x y H Q => y = .non ∧ Q (.bl (!decide (x = .non))) H
theorem rv_notN : RV rNotNon x .non H (.bl (!decide (x = .non))) := fun H1 _ _ q => ⟨rfl, q H1 (Ex.refl H1)⟩
/-- rows + [row ..] -/
theorem er_cat {l : Addr} {xs : List V} {rs es : List (List Nat)} {H0 : Hp} (h1 : Ev ta σ H (.ref l)) (hl : H l = some (.lst xs)) (hr : RowsAt (New H0 H) xs rs) (e0 : Ex H0 H) (h2 : EvR tb σ H es) (hz : rs.length + es.length ≤ 100000) :
    ∀ H1, Ex H H1 → ∀ Q : VK, (∀ p xs H2, Ex H1 H2 → H1 p = none → H2 p = some (.lst xs) → RowsAt (New H0 H2) xs (rs ++ es) → Q (.ref p) H2) → tOp rCat ta tb σ H1 Q := fun H1 e Q q =>
  h1 H1 e _ fun H2 e2 => h2 H2 (e.trans e2) _ fun b ys H3 e3 nb hb hy => ⟨l, b, xs, ys, rfl, rfl, ((e.trans e2).trans e3) l _ hl, hb, sz_of (by rw [hr.1, hy.1]; exact hz), fun p hp => by
    have e03 : Ex H3 (upd H3 p (.lst (xs ++ ys))) := Ex.new hp
    refine q p (xs ++ ys) _ ((e2.trans e3).trans e03) (fresh_back (e2.trans e3) hp) upd_same (RowsAt.app (hr.ex (new_mono (Ex.refl H0) (((e.trans e2).trans e3).trans e03))) (hy.ex ?_))
    exact new_mono (e0.trans (e.trans e2)) e03⟩
/-- a, b = [..], [..], two locals -/
theorem q_parLL {i j : Nat} {xs ys : List V} (h1 : EvL ta σ H xs) (h2 : EvL tb σ H ys) (k : ∀ p r H1, H p = none → H r = none → p ≠ r → Ex H H1 → H1 p = some (.lst xs) → H1 r = some (.lst ys) → tz D ((σ.set i (some (.ref p))).set j (some (.ref r))) H1) :
    tSeq (tPar i j (tCons ta (tCons tb tNil))) tz D σ H :=
  h1 H (Ex.refl H) _ fun p H1 np e1 hp => h2 H1 e1 _ fun r H2 nr e2 hr => ⟨.ref p, .ref r, rfl, k p r H2 np (fresh_back e1 nr) (fun z => by rw [← z, hp] at nr; cases nr) (e1.trans e2) (e2 p _ hp) hr⟩
/-- [e for target in data] -/
theorem el_lcD {g : TG} {vs : List Nat} {ds : List PyData} (v : Nat → V) (h : EvD K tl σ H (.list ds)) (hz : ds.length ≤ 40000)
    (he : ∀ (i : Nat) x d H1, ds[i]? = some d → Ex H H1 → Dp K H1 x d → ∃ σ2, (∀ H', Ex H1 H' → ∀ Q : L2.St → Hp → Prop, Q σ2 H' → g x (wipe σ vs) H' Q) ∧ wipe σ2 vs = wipe σ vs ∧ Ev te σ2 H1 (v i)) :
    EvL (tLc (iList K tl) g tYes te vs) σ H ((List.range ds.length).map v) := fun H0 e Q q =>
  h H0 e _ fun a H1 e1 hd => by
    cases hd with
    | @lst a xs _ hq hall =>
      refine ⟨a, rfl, ⟨xs, hq⟩, fun L hL => lc_list (xs := xs) (Cw H1 (fun _ => true) v L) ⟨hL, Ex.new hL, upd_same⟩ (fun i H' _ p => ex_l p.2.1 hq) (fun i x H' hi p => ?_) fun H' p => ?_⟩
      · have hi2 : i < ds.length := by
          rw [← dpAll_len hall]
          exact (List.getElem?_eq_some_iff.mp hi).1
        obtain ⟨x2, h1, h2⟩ := dpAll_at hall (List.getElem?_eq_getElem hi2)
        have hx : x = x2 := Option.some.inj (hi.symm.trans h1)
        subst hx
        obtain ⟨σ2, g1, g2, g3⟩ := he i x _ H1 (List.getElem?_eq_getElem hi2) (e.trans e1) h2
        exact g1 H' p.2.1 _ ⟨g2, cw_turn p (by omega) et_yes fun _ => g3⟩
      · have h3 := p.2.2
        refine q L H' (fresh_back e1 p.1) (e1.trans p.2.1) ?_
        rw [h3, dpAll_len hall]
        exact congrArg (fun z => some (HO.lst z)) (given_all ds.length v)
where
  given_all (n : Nat) (v : Nat → V) : given n (fun _ => true) v = (List.range n).map v := by
    unfold given
    rw [List.filter_eq_self.mpr fun _ _ => rfl]
/-- xs[i], name = a, b -/
theorem s_asgSN {l : Addr} {xs : List V} {j k : Nat} {to ti : TE} (hl : H l = some (.lst xs)) (h1 : Ev ta σ H x) (h2 : Ev tb σ H y) (ho : Ev to σ H (.ref l)) (hi : Ev ti σ H (.int (j : Int))) (hj : j < xs.length)
    (q : ∀ H1, Ex H H1 → D.nx (σ.set k (some y)) (upd H1 l (.lst (xs.set j x)))) : tAsg (tTup (tCons ta (tCons tb tNil))) (gTup K 2 (gCons (gSub to ti L2.rSetL) (gCons (gName k) gNil))) D σ H :=
  h1 H (Ex.refl H) _ fun H1 e1 => h2 H1 e1 _ fun H2 e2 => ⟨by show 2 ≤ sizeLine; decide, fun c nc => by
    have e3 : Ex H (upd H2 c (.tup [x, y])) := (e1.trans e2).trans (Ex.new nc)
    refine ⟨c, [x, y], rfl, st_of upd_same, rfl, x, [y], rfl, ?_⟩
    refine ho _ e3 _ fun H4 e4 => hi H4 (e3.trans e4) _ fun H5 e5 => ?_
    exact ⟨l, xs, (j : Int), j, rfl, rfl, ((e3.trans e4).trans e5) l _ hl, ixN_nat hj, y, [], rfl, rfl, q H5 ((e3.trans e4).trans e5)⟩⟩
end
/-! what class a caught error is of -/
def rIsX (K : PySem.W.Frag) (a : Addr) (cls : Value) (d : Option Addr) : List V → Hp → VK → Prop := fun xs H Q => ∃ A, cls = .ref A ∧ d = none ∧ ExcC K A ∧ rIsE K A a xs H Q
theorem call_isX {X : Cx} {a : Addr} {cls : Value} {d : Option Addr} {oe : Obj} {pn : List (Addr × Obj)} (hz : Zc cls d oe) (hf : ∃ vs, oe.data = .fields vs) : CallR (X.suite a ((a, oe) :: pn)) (.builtin "isinstance") (rIsX X.K a cls d) := by
  intro pins s σ H xs us Q I r h
  obtain ⟨A, rfl, rfl, C, h⟩ := h
  exact call_isE C hz hf pins s σ H xs us Q I r h
end Rt

/-! What k09 holds on paper: plain Lean. -/
namespace Rt
theorem getLast_of {α : Type} {l m : List α} (e : l = m) (hl : l ≠ []) (hm : m ≠ []) : l.getLast hl = m.getLast hm := by
  subst e
  rfl
theorem lastOf_go {row : List Nat} (hc : ∀ c ∈ row, 1 ≤ c) {p : Nat} (hp : p < row.length) : lastOf row p = if p + row.getD p 0 < row.length then lastOf row (p + row.getD p 0) else p := by
  unfold lastOf
  by_cases h : p + row.getD p 0 < row.length
  · rw [if_pos h, getLast_of (way_go hc hp h) (way_ne row p) (List.cons_ne_nil _ _), List.getLast_cons (way_ne row _)]
  · rw [if_neg h, getLast_of (way_end hc hp h) (way_ne row p) (List.cons_ne_nil _ _)]
    rfl
theorem last_alike {c : Nat} (hc : 1 ≤ c) : ∀ k p, k = 60 - p → p < 60 → lastOf (List.replicate 60 c) p = 59 - (59 - p) % c := by
  intro k
  induction k using Nat.strongRecOn with
  | _ k ih =>
    intro p hk hp
    have hg : (List.replicate 60 c).getD p 0 = c := by
      rw [List.getD_eq_getElem?_getD, List.getElem?_replicate, if_pos hp]
      rfl
    rw [lastOf_go (fun x hx => by rw [List.eq_of_mem_replicate hx]; exact hc) (by rw [List.length_replicate]; exact hp), hg, List.length_replicate]
    by_cases h : p + c < 60
    · rw [if_pos h, ih (60 - (p + c)) (by omega) (p + c) rfl h, Nat.mod_eq_sub_mod (show 59 - p ≥ c by omega), show 59 - p - c = 59 - (p + c) by omega]
    · rw [if_neg h, Nat.mod_eq_of_lt (show 59 - p < c by omega)]
      omega
theorem lasts_alike {c : Nat} (hc : 1 ≤ c) : lastsL (List.replicate 60 c) 60 = (List.range 60).map fun p => 59 - (59 - p) % c := by
  unfold lastsL
  exact List.map_congr_left fun p hp => last_alike hc _ p rfl (List.mem_range.mp hp)
def alikeL (c : Nat) : List Nat := (List.range 60).map fun p => 59 - (59 - p) % c
def endsL (c : Nat) : List Nat := (List.range 60).filter fun p => decide (59 < p + c)
theorem alike_rise : ∀ c, c < 21 → 1 ≤ c → riseL (alikeL c) = endsL c := by decide +kernel
theorem alike_count : ∀ c, c < 21 → 1 ≤ c → ∀ p ∈ endsL c, (alikeL c).count p = p / c + 1 := by decide +kernel
theorem hand_ways : ∀ c, c < 21 → 1 ≤ c → way [c] 0 = [0] ∧ lastOf [c] 0 = 0 ∧ way [1, c] 0 = [0, 1] ∧ way [2, c] 0 = [0] ∧ way [2, 1, 1, 5, c] 0 = [0, 2, 3] ∧ way [2, 1, 1, 5, c] 4 = [4] := by decide +kernel
theorem hand_lasts : ∀ c, c < 21 → 1 ≤ c → (List.range 5).map (lastOf [2, 1, 1, 5, c]) = [3, 3, 3, 3, 4] ∧ lastsL [2, 1, 1, 5, c] 5 = [3, 3, 3, 3, 4] ∧ lastsL [2, 1, 1, 5, c] 1 = [3] ∧ lastsL [c] 1 = [0] := by decide +kernel
theorem hand_runs : ∀ c, c < 21 → 1 ≤ c → runBy [2, 1, 1, 5, c] 4 = some 3 ∧ runBy [2, 1, 1, 5, c] 5 = none ∧ runBy [2, 1, 1, 5, c] 1 = some 0 ∧ runBy [2, 1, 1, 5, c] 2 = some 2 ∧ runBy [c] 1 = some 0 := by decide +kernel
def handL : List (Nat × Nat × Nat) := [(0, 1, 2), (1, 0, 2), (0, 2, 2), (2, 0, 2), (3, 3, 3), (4, 4, 4), (0, 3, 3)]
theorem hand_meet : ∀ c, c < 21 → 1 ≤ c → ∀ r ∈ handL, firstC [2, 1, 1, 5, c] r.1 r.2.1 = some r.2.2 := by decide +kernel
theorem hand_lt : ∀ r ∈ handL, r.1 < 5 ∧ r.2.1 < 5 := by decide
theorem hand_apart : ∀ c, c < 21 → 1 ≤ c → firstC [2, 1, 1, 5, c] 0 4 = none ∧ firstC [2, 1, 1, 5, c] 4 0 = none ∧ lastOf [2, 1, 1, 5, c] 0 = 3 ∧ lastOf [2, 1, 1, 5, c] 4 = 4 := by decide +kernel
theorem last_111 : lastOf [1, 1, 1] 0 = 2 := by decide +kernel
theorem run_60 : runBy (List.replicate 60 1) 60 = some 59 := by decide +kernel
theorem rok {l : List Nat} (h1 : 1 ≤ l.length) (h2 : l.length ≤ 60) (h : ∀ x ∈ l, 1 ≤ x ∧ x ≤ 20) : RowOk l := ⟨h1, h2, fun c hc => (h c hc).1, fun c hc => (h c hc).2⟩
theorem rok1 {c : Nat} (h1 : 1 ≤ c) (h2 : c ≤ 20) : RowOk [c] := rok (show 1 ≤ 1 by decide) (show 1 ≤ 60 by decide) fun x hx => by
  simp only [List.mem_cons, List.not_mem_nil, or_false] at hx
  omega
theorem rok2 {b c : Nat} (h1 : 1 ≤ c) (h2 : c ≤ 20) (hb : 1 ≤ b ∧ b ≤ 20) : RowOk [b, c] := rok (show 1 ≤ 2 by decide) (show 2 ≤ 60 by decide) fun x hx => by
  simp only [List.mem_cons, List.not_mem_nil, or_false] at hx
  omega
theorem rok5 {c : Nat} (h1 : 1 ≤ c) (h2 : c ≤ 20) : RowOk [2, 1, 1, 5, c] := rok (show 1 ≤ 5 by decide) (show 5 ≤ 60 by decide) fun x hx => by
  simp only [List.mem_cons, List.not_mem_nil, or_false] at hx
  omega
theorem rok60 {c : Nat} (h1 : 1 ≤ c) (h2 : c ≤ 20) : RowOk (List.replicate 60 c) := rok (by rw [List.length_replicate]; decide) (by rw [List.length_replicate]; exact Nat.le_refl _) fun x hx => by
  rw [List.eq_of_mem_replicate hx]
  exact ⟨h1, h2⟩
end Rt

namespace Rt
open PySem PySem.Spec PyProof.Rows L2 Evl
def topS (i : Nat) : Stmt := PySem.Challenge.pw_runtogether_k09_promises_by_hand.main.body.getD i (.Pass ⟨0, 0, 0, 0⟩)
abbrev s_is_whole : Stmt := topS 9
abbrev s_check_row : Stmt := topS 10
abbrev s_check_place : Stmt := topS 11
abbrev s_check_count : Stmt := topS 12
abbrev s_way_from : Stmt := topS 13
abbrev s_way : Stmt := topS 14
abbrev s_last : Stmt := topS 15
abbrev s_endings : Stmt := topS 16
abbrev s_first_common : Stmt := topS 19
abbrev s_compared : Stmt := topS 23
abbrev s_run_by : Stmt := topS 24
abbrev s_check_far : Stmt := topS 26
abbrev s_power : Stmt := topS 27
abbrev s_states : Stmt := topS 28
abbrev s_meetings_of : Stmt := topS 29
abbrev s_check_all : Stmt := topS 30
abbrev s_meetings : Stmt := topS 31
abbrev s_common : Stmt := topS 32
abbrev s_share : Stmt := topS 33
abbrev s__law_ways_right : Stmt := topS 35
abbrev s__law_long_right : Stmt := topS 36
abbrev s__law_compared_right : Stmt := topS 37
abbrev s__law_rows : Stmt := topS 38
abbrev s__law_longer : Stmt := topS 39
abbrev s__law_met : Stmt := topS 40
abbrev s__law_shares_right : Stmt := topS 41
abbrev s_law : Stmt := topS 42
abbrev s_Meet_init : Stmt := inClass (topS 20) 0
abbrev s_Meet_shows : Stmt := inClass (topS 20) 1
abbrev s_Apart_init : Stmt := inClass (topS 21) 0
abbrev s_Apart_shows : Stmt := inClass (topS 21) 1
theorem sc_is_whole : FnScope ["thing"] ["thing"] (defScope s_is_whole) := ⟨rfl, rfl, rfl, by decide +kernel, rfl, by decide +kernel, by decide +kernel⟩
theorem sc_check_row : FnScope ["row", "card"] ["row"] (defScope s_check_row) := ⟨rfl, rfl, rfl, by decide +kernel, rfl, by decide +kernel, by decide +kernel⟩
theorem sc_check_place : FnScope ["row", "place"] ["row", "place"] (defScope s_check_place) := ⟨rfl, rfl, rfl, by decide +kernel, rfl, by decide +kernel, by decide +kernel⟩
theorem sc_check_count : FnScope ["count", "least", "most"] ["count", "least", "most"] (defScope s_check_count) := ⟨rfl, rfl, rfl, by decide +kernel, rfl, by decide +kernel, by decide +kernel⟩
theorem sc_way_from : FnScope ["row", "place", "found"] ["row", "place"] (defScope s_way_from) := ⟨rfl, rfl, rfl, by decide +kernel, rfl, by decide +kernel, by decide +kernel⟩
theorem sc_way : FnScope ["row", "place"] ["row", "place"] (defScope s_way) := ⟨rfl, rfl, rfl, by decide +kernel, rfl, by decide +kernel, by decide +kernel⟩
theorem sc_last : FnScope ["row", "place"] ["row", "place"] (defScope s_last) := ⟨rfl, rfl, rfl, by decide +kernel, rfl, by decide +kernel, by decide +kernel⟩
theorem sc_endings : FnScope ["row", "many", "found", "place", "there"] ["row", "many"] (defScope s_endings) := ⟨rfl, rfl, rfl, by decide +kernel, rfl, by decide +kernel, by decide +kernel⟩
theorem sc_first_common : FnScope ["row", "one", "other", "mine", "some", "place"] ["row", "one", "other"] (defScope s_first_common) := ⟨rfl, rfl, rfl, by decide +kernel, rfl, by decide +kernel, by decide +kernel⟩
theorem sc_compared : FnScope ["row", "one", "other", "place"] ["row", "one", "other"] (defScope s_compared) := ⟨rfl, rfl, rfl, by decide +kernel, rfl, by decide +kernel, by decide +kernel⟩
theorem sc_run_by : FnScope ["row", "many", "some", "place", "mine", "there"] ["row", "many"] (defScope s_run_by) := ⟨rfl, rfl, rfl, by decide +kernel, rfl, by decide +kernel, by decide +kernel⟩
theorem sc_check_far : FnScope ["many", "far"] ["many", "far"] (defScope s_check_far) := ⟨rfl, rfl, rfl, by decide +kernel, rfl, by decide +kernel, by decide +kernel⟩
theorem sc_power : FnScope ["number", "many", "found", "turn"] ["number", "many"] (defScope s_power) := ⟨rfl, rfl, rfl, by decide +kernel, rfl, by decide +kernel, by decide +kernel⟩
theorem sc_states : FnScope ["cards", "many", "far", "found", "place", "ahead", "often", "card", "there", "left", "free"] ["cards", "many", "far"] (defScope s_states) := ⟨rfl, rfl, rfl, by decide +kernel, rfl, by decide +kernel, by decide +kernel⟩
theorem sc_meetings_of : FnScope ["cards", "many", "far", "found", "place"] ["cards", "many", "far"] (defScope s_meetings_of) := ⟨rfl, rfl, rfl, by decide +kernel, rfl, by decide +kernel, by decide +kernel⟩
theorem sc_check_all : FnScope ["cards", "many", "far"] ["cards", "many", "far"] (defScope s_check_all) := ⟨rfl, rfl, rfl, by decide +kernel, rfl, by decide +kernel, by decide +kernel⟩
theorem sc_meetings : FnScope ["cards", "many", "far"] ["cards", "many", "far"] (defScope s_meetings) := ⟨rfl, rfl, rfl, by decide +kernel, rfl, by decide +kernel, by decide +kernel⟩
theorem sc_common : FnScope ["one", "other"] ["one", "other"] (defScope s_common) := ⟨rfl, rfl, rfl, by decide +kernel, rfl, by decide +kernel, by decide +kernel⟩
theorem sc_share : FnScope ["cards", "many", "far", "top", "bottom", "both"] ["cards", "many", "far"] (defScope s_share) := ⟨rfl, rfl, rfl, by decide +kernel, rfl, by decide +kernel, by decide +kernel⟩
theorem sc__law_ways_right : FnScope ["_law_card", "_law_row", "_law_at"] ["_law_card"] (defScope s__law_ways_right) := ⟨rfl, rfl, rfl, by decide +kernel, rfl, by decide +kernel, by decide +kernel⟩
theorem sc__law_long_right : FnScope ["_law_card", "_law_long", "_law_ends", "_law_at"] ["_law_card"] (defScope s__law_long_right) := ⟨rfl, rfl, rfl, by decide +kernel, rfl, by decide +kernel, by decide +kernel⟩
theorem sc__law_compared_right : FnScope ["_law_card", "_law_row", "_law_lines", "_law_one", "_law_other", "_law_place", "_law_found", "_law_at", "_law_pair", "_law_due"] ["_law_card"] (defScope s__law_compared_right) := ⟨rfl, rfl, rfl, by decide +kernel, rfl, by decide +kernel, by decide +kernel⟩
theorem sc__law_rows : FnScope ["_law_cards", "_law_many", "_law_found", "_law_at"] ["_law_cards", "_law_many"] (defScope s__law_rows) := ⟨rfl, rfl, rfl, by decide +kernel, rfl, by decide +kernel, by decide +kernel⟩
theorem sc__law_longer : FnScope ["_law_rows_here", "_law_cards", "_law_found", "_law_row", "_law_card"] ["_law_rows_here", "_law_cards"] (defScope s__law_longer) := ⟨rfl, rfl, rfl, by decide +kernel, rfl, by decide +kernel, by decide +kernel⟩
theorem sc__law_met : FnScope ["_law_row", "_law_far", "_law_mine", "_law_theirs", "_law_some", "_law_at"] ["_law_row", "_law_far"] (defScope s__law_met) := ⟨rfl, rfl, rfl, by decide +kernel, rfl, by decide +kernel, by decide +kernel⟩
theorem sc__law_shares_right : FnScope ["_law_card", "_law_cards", "_law_many", "_law_rows_here", "_law_far", "_law_due", "_law_met_here", "_law_row", "_law_place", "_law_top", "_law_bottom", "_law_part", "error"] ["_law_card"] (defScope s__law_shares_right) := ⟨rfl, rfl, rfl, by decide +kernel, rfl, by decide +kernel, by decide +kernel⟩
theorem sc_law : FnScope ["_law_script", "_law_card"] ["_law_script"] (defScope s_law) := ⟨rfl, rfl, rfl, by decide +kernel, rfl, by decide +kernel, by decide +kernel⟩
theorem sc_Meet_init : FnScope ["self", "place"] ["self", "place"] (defScope s_Meet_init) := ⟨rfl, rfl, rfl, by decide +kernel, rfl, by decide +kernel, by decide +kernel⟩
theorem sc_Meet_shows : FnScope ["self", "row", "one", "other"] ["self", "row", "one", "other"] (defScope s_Meet_shows) := ⟨rfl, rfl, rfl, by decide +kernel, rfl, by decide +kernel, by decide +kernel⟩
theorem sc_Apart_init : FnScope ["self", "mine", "theirs"] ["self", "mine", "theirs"] (defScope s_Apart_init) := ⟨rfl, rfl, rfl, by decide +kernel, rfl, by decide +kernel, by decide +kernel⟩
theorem sc_Apart_shows : FnScope ["self", "row", "one", "other"] ["self", "row", "one", "other"] (defScope s_Apart_shows) := ⟨rfl, rfl, rfl, by decide +kernel, rfl, by decide +kernel, by decide +kernel⟩
structure Tx (K : PySem.W.Frag) (mg : Str → Option Value) where
  f_is_whole : Addr
  d_is_whole : FuncData
  F_is_whole : Fun K "is_whole" "is_whole" s_is_whole f_is_whole d_is_whole
  b_is_whole : Binds K d_is_whole ["thing"] []
  m_is_whole : mg "is_whole" = some (.ref f_is_whole)
  f_check_row : Addr
  d_check_row : FuncData
  F_check_row : Fun K "check_row" "check_row" s_check_row f_check_row d_check_row
  b_check_row : Binds K d_check_row ["row"] []
  m_check_row : mg "check_row" = some (.ref f_check_row)
  f_check_place : Addr
  d_check_place : FuncData
  F_check_place : Fun K "check_place" "check_place" s_check_place f_check_place d_check_place
  b_check_place : Binds K d_check_place ["row", "place"] []
  m_check_place : mg "check_place" = some (.ref f_check_place)
  f_check_count : Addr
  d_check_count : FuncData
  F_check_count : Fun K "check_count" "check_count" s_check_count f_check_count d_check_count
  b_check_count : Binds K d_check_count ["count", "least", "most"] []
  m_check_count : mg "check_count" = some (.ref f_check_count)
  f_way_from : Addr
  d_way_from : FuncData
  F_way_from : Fun K "way_from" "way_from" s_way_from f_way_from d_way_from
  b_way_from : Binds K d_way_from ["row", "place"] []
  m_way_from : mg "way_from" = some (.ref f_way_from)
  f_way : Addr
  d_way : FuncData
  F_way : Fun K "way" "way" s_way f_way d_way
  b_way : Binds K d_way ["row", "place"] []
  m_way : mg "way" = some (.ref f_way)
  f_last : Addr
  d_last : FuncData
  F_last : Fun K "last" "last" s_last f_last d_last
  b_last : Binds K d_last ["row", "place"] []
  m_last : mg "last" = some (.ref f_last)
  f_endings : Addr
  d_endings : FuncData
  F_endings : Fun K "endings" "endings" s_endings f_endings d_endings
  b_endings : Binds K d_endings ["row", "many"] []
  m_endings : mg "endings" = some (.ref f_endings)
  f_first_common : Addr
  d_first_common : FuncData
  F_first_common : Fun K "first_common" "first_common" s_first_common f_first_common d_first_common
  b_first_common : Binds K d_first_common ["row", "one", "other"] []
  m_first_common : mg "first_common" = some (.ref f_first_common)
  f_compared : Addr
  d_compared : FuncData
  F_compared : Fun K "compared" "compared" s_compared f_compared d_compared
  b_compared : Binds K d_compared ["row", "one", "other"] []
  m_compared : mg "compared" = some (.ref f_compared)
  f_run_by : Addr
  d_run_by : FuncData
  F_run_by : Fun K "run_by" "run_by" s_run_by f_run_by d_run_by
  b_run_by : Binds K d_run_by ["row", "many"] []
  m_run_by : mg "run_by" = some (.ref f_run_by)
  f_check_far : Addr
  d_check_far : FuncData
  F_check_far : Fun K "check_far" "check_far" s_check_far f_check_far d_check_far
  b_check_far : Binds K d_check_far ["many", "far"] []
  m_check_far : mg "check_far" = some (.ref f_check_far)
  f_power : Addr
  d_power : FuncData
  F_power : Fun K "power" "power" s_power f_power d_power
  b_power : Binds K d_power ["number", "many"] []
  m_power : mg "power" = some (.ref f_power)
  f_states : Addr
  d_states : FuncData
  F_states : Fun K "states" "states" s_states f_states d_states
  b_states : Binds K d_states ["cards", "many", "far"] []
  m_states : mg "states" = some (.ref f_states)
  f_meetings_of : Addr
  d_meetings_of : FuncData
  F_meetings_of : Fun K "meetings_of" "meetings_of" s_meetings_of f_meetings_of d_meetings_of
  b_meetings_of : Binds K d_meetings_of ["cards", "many", "far"] []
  m_meetings_of : mg "meetings_of" = some (.ref f_meetings_of)
  f_check_all : Addr
  d_check_all : FuncData
  F_check_all : Fun K "check_all" "check_all" s_check_all f_check_all d_check_all
  b_check_all : Binds K d_check_all ["cards", "many", "far"] []
  m_check_all : mg "check_all" = some (.ref f_check_all)
  f_meetings : Addr
  d_meetings : FuncData
  F_meetings : Fun K "meetings" "meetings" s_meetings f_meetings d_meetings
  b_meetings : Binds K d_meetings ["cards", "many", "far"] []
  m_meetings : mg "meetings" = some (.ref f_meetings)
  f_common : Addr
  d_common : FuncData
  F_common : Fun K "common" "common" s_common f_common d_common
  b_common : Binds K d_common ["one", "other"] []
  m_common : mg "common" = some (.ref f_common)
  f_share : Addr
  d_share : FuncData
  F_share : Fun K "share" "share" s_share f_share d_share
  b_share : Binds K d_share ["cards", "many", "far"] []
  m_share : mg "share" = some (.ref f_share)
  f__law_ways_right : Addr
  d__law_ways_right : FuncData
  F__law_ways_right : Fun K "_law_ways_right" "_law_ways_right" s__law_ways_right f__law_ways_right d__law_ways_right
  b__law_ways_right : Binds K d__law_ways_right ["_law_card"] []
  m__law_ways_right : mg "_law_ways_right" = some (.ref f__law_ways_right)
  f__law_long_right : Addr
  d__law_long_right : FuncData
  F__law_long_right : Fun K "_law_long_right" "_law_long_right" s__law_long_right f__law_long_right d__law_long_right
  b__law_long_right : Binds K d__law_long_right ["_law_card"] []
  m__law_long_right : mg "_law_long_right" = some (.ref f__law_long_right)
  f__law_compared_right : Addr
  d__law_compared_right : FuncData
  F__law_compared_right : Fun K "_law_compared_right" "_law_compared_right" s__law_compared_right f__law_compared_right d__law_compared_right
  b__law_compared_right : Binds K d__law_compared_right ["_law_card"] []
  m__law_compared_right : mg "_law_compared_right" = some (.ref f__law_compared_right)
  f__law_rows : Addr
  d__law_rows : FuncData
  F__law_rows : Fun K "_law_rows" "_law_rows" s__law_rows f__law_rows d__law_rows
  b__law_rows : Binds K d__law_rows ["_law_cards", "_law_many"] []
  m__law_rows : mg "_law_rows" = some (.ref f__law_rows)
  f__law_longer : Addr
  d__law_longer : FuncData
  F__law_longer : Fun K "_law_longer" "_law_longer" s__law_longer f__law_longer d__law_longer
  b__law_longer : Binds K d__law_longer ["_law_rows_here", "_law_cards"] []
  m__law_longer : mg "_law_longer" = some (.ref f__law_longer)
  f__law_met : Addr
  d__law_met : FuncData
  F__law_met : Fun K "_law_met" "_law_met" s__law_met f__law_met d__law_met
  b__law_met : Binds K d__law_met ["_law_row", "_law_far"] []
  m__law_met : mg "_law_met" = some (.ref f__law_met)
  f__law_shares_right : Addr
  d__law_shares_right : FuncData
  F__law_shares_right : Fun K "_law_shares_right" "_law_shares_right" s__law_shares_right f__law_shares_right d__law_shares_right
  b__law_shares_right : Binds K d__law_shares_right ["_law_card"] []
  m__law_shares_right : mg "_law_shares_right" = some (.ref f__law_shares_right)
  f_law : Addr
  d_law : FuncData
  F_law : Fun K "law" "law" s_law f_law d_law
  b_law : Binds K d_law ["_law_script"] []
  m_law : mg "law" = some (.ref f_law)
  f_Meet_init : Addr
  d_Meet_init : FuncData
  F_Meet_init : Fun K "__init__" "Meet.__init__" s_Meet_init f_Meet_init d_Meet_init
  b_Meet_init : Binds K d_Meet_init ["self", "place"] []
  f_Meet_shows : Addr
  d_Meet_shows : FuncData
  F_Meet_shows : Fun K "shows" "Meet.shows" s_Meet_shows f_Meet_shows d_Meet_shows
  b_Meet_shows : Binds K d_Meet_shows ["self", "row", "one", "other"] []
  f_Apart_init : Addr
  d_Apart_init : FuncData
  F_Apart_init : Fun K "__init__" "Apart.__init__" s_Apart_init f_Apart_init d_Apart_init
  b_Apart_init : Binds K d_Apart_init ["self", "mine", "theirs"] []
  f_Apart_shows : Addr
  d_Apart_shows : FuncData
  F_Apart_shows : Fun K "shows" "Apart.shows" s_Apart_shows f_Apart_shows d_Apart_shows
  b_Apart_shows : Binds K d_Apart_shows ["self", "row", "one", "other"] []
  c_LONGEST : PSigma fun t : Tok => mg "LONGEST" = some (.int 60 t)
  c_GREATEST : PSigma fun t : Tok => mg "GREATEST" = some (.int 20 t)
  z_abs : mg "abs" = none
  z_all : mg "all" = none
  z_bool : mg "bool" = none
  z_int : mg "int" = none
  z_isinstance : mg "isinstance" = none
  z_len : mg "len" = none
  z_list : mg "list" = none
  z_min : mg "min" = none
  z_range : mg "range" = none
  z_sorted : mg "sorted" = none
  z_sum : mg "sum" = none
  a_Answer : Addr
  m_Answer : mg "Answer" = some (.ref a_Answer)
  a_Meet : Addr
  m_Meet : mg "Meet" = some (.ref a_Meet)
  a_Apart : Addr
  m_Apart : mg "Apart" = some (.ref a_Apart)
  a_CardError : Addr
  m_CardError : mg "CardError" = some (.ref a_CardError)
  a_BadFar : Addr
  m_BadFar : mg "BadFar" = some (.ref a_BadFar)
  cl_Meet : Cls K a_Meet
  k_Meet : Mk K a_Meet f_Meet_init
  n_Meet_place : NoAttr K a_Meet "place"
  me_Meet_shows : Meth K a_Meet "shows" f_Meet_shows
  ty_Meet : ∀ (H1 : Hp) (a dx : Addr) (fs : List (Str × V)), H1 a = some (.ins a_Meet dx fs) → TyOf K H1 (.ref a) (.ref a_Meet)
  cl_Apart : Cls K a_Apart
  k_Apart : Mk K a_Apart f_Apart_init
  n_Apart_mine : NoAttr K a_Apart "mine"
  n_Apart_theirs : NoAttr K a_Apart "theirs"
  me_Apart_shows : Meth K a_Apart "shows" f_Apart_shows
  ty_Apart : ∀ (H1 : Hp) (a dx : Addr) (fs : List (Str × V)), H1 a = some (.ins a_Apart dx fs) → TyOf K H1 (.ref a) (.ref a_Apart)
  ki_Meet_Meet : PySem.W.kitOne K (.ref a_Meet) (.ref a_Meet) = some true
  ki_Apart_Apart : PySem.W.kitOne K (.ref a_Apart) (.ref a_Apart) = some true
  ki_BadFar_BadFar : PySem.W.kitOne K (.ref a_BadFar) (.ref a_BadFar) = some true
  x_CardError : PySem.W.excIn K a_CardError [.type "ValueError", .type "Exception", .type "BaseException", .type "object"] "ValueError.__new__" = true
  kc_CardError : PySem.W.keepIn K (.ref a_CardError) = true
  bx_CardError : PySem.W.subIn K (.ref a_CardError) (.type "BaseException") = some true
  tx_CardError : PySem.W.typeIn K (.ref a_CardError) = some (.type "type")
  ec_CardError : ExcC K a_CardError
  x_BadFar : PySem.W.excIn K a_BadFar [.type "ValueError", .type "Exception", .type "BaseException", .type "object"] "ValueError.__new__" = true
  kc_BadFar : PySem.W.keepIn K (.ref a_BadFar) = true
  bx_BadFar : PySem.W.subIn K (.ref a_BadFar) (.type "BaseException") = some true
  tx_BadFar : PySem.W.typeIn K (.ref a_BadFar) = some (.type "type")
  ec_BadFar : ExcC K a_BadFar
  xm_BadFar_CardError : PySem.W.exmOne K (.ref a_BadFar) (.ref a_CardError) = some true
def sp_is_whole : Sp := fun vs H Q _ => ∃ i : Int, vs = [.int i] ∧ RetV (.bl true) H Q
theorem sv_is_whole {H : Hp} {i : Int} : SpV sp_is_whole ([.int i] ++ []) H (.bl true) := fun H1 _ Q q E => ⟨i, rfl, q⟩

/-! ### the program: rows -/
section
variable {P : Program} {w : World} {K : PySem.W.Frag} {mg : Str → Option Value} {base : Heap}
theorem ok_is_whole (T : Tx K mg) : FnOk P w K mg base CX0 1 T.f_is_whole T.d_is_whole ["thing"] sp_is_whole := by
  refine T.F_is_whole.ok sc_is_whole (fun vs H Q E h => ?_) (fun cdv A outer s H vs Q E hr h => ?_)
  · obtain ⟨i, rfl, _⟩ := h
    rfl
  · obtain ⟨i, rfl, k⟩ := h
    refine ⟨_, (pss_one (ps_ret (pe_and (pe_callB (r := rIsi K) call_isi (by rfl) T.z_isinstance (by decide +kernel) (pa_cons (pv 0) (pa_cons (pe_bltn (v := .ty "int") (by rfl) T.z_int (by decide +kernel) rfl) pa_nil))) (pe_one (pe_not (pe_callB (r := rIsi K) call_isi (by rfl) T.z_isinstance (by decide +kernel) (pa_cons (pv 0) (pa_cons (pe_bltn (v := .ty "bool") (by rfl) T.z_bool (by decide +kernel) rfl) pa_nil)))))))), ?_⟩
    refine s_ret (ev_andV (ev_isiB (K := K) (b := true) (ev_var rfl) (fun _ _ => tyx_int i) (by decide +kernel)) fun _ => ev_notV (ev_isiB (K := K) (b := false) (ev_var rfl) (fun _ _ => tyx_int i) (by decide +kernel))) ?_
    exact fun H1 e => k H1 e
end

section
variable {P : Program} {w : World} {K : PySem.W.Frag} {mg : Str → Option Value} {base : Heap}
def sp_check_row (K : PySem.W.Frag) : Sp := fun vs H Q _ => ∃ (a : Addr) (row : List Nat), vs = [.ref a] ∧ SqL K H a (vNs row) ∧ RowOk row ∧ RetV .non H Q
theorem ok_check_row (T : Tx K mg) : FnOk P w K mg base CX0 2 T.f_check_row T.d_check_row ["row"] (sp_check_row K) := by
  refine T.F_check_row.ok sc_check_row (fun vs H Q E h => ?_) (fun cdv A outer s H vs Q E hr h => ?_)
  · obtain ⟨a, row, rfl, _⟩ := h
    rfl
  · obtain ⟨a, row, rfl, hS, ok, k⟩ := h
    refine ⟨_, (pss_cons (ps_if (PW.pt (pw_or (pt_not (pt_val (pe_callB (r := rIsi K) call_isi (by rfl) T.z_isinstance (by decide +kernel) (pa_cons (pv 0) (pa_cons (pe_bltn (v := .ty "list") (by rfl) T.z_list (by decide +kernel) rfl) pa_nil))))) (pw_or1 (pt_not (pt_chain op_le op_le pe_int (pe_callB (r := Evl.rLenS K) call_len_seq (by rfl) T.z_len (by decide +kernel) (pa_cons (pv 0) pa_nil)) (pe_glob (v := .int 60) (by rfl) T.c_LONGEST.2 ⟨_, rfl⟩)))))) (pss_one ps_never) pss_nil)
      (pss_one (ps_if (pt_not (pt_val (pe_callB (r := rAll K) (cr_all rfl) (by rfl) T.z_all (by decide +kernel) (pa_cons (pe_lc (own := [("card", 1)]) (by rfl) sc_check_row.nd (pi_list (pv 0)) (blkOk_by (own := [("card", 1)]) (N := ["row", "card"]) (sc := defScope s_check_row) (by decide +kernel)) (fun _ _ _ _ _ => (pg_name (i := 1) sc_check_row.nd rfl (by first | exact Or.inl rfl | exact Or.inr rfl))) (fun _ _ _ _ _ => pts_nil) (fun _ _ _ _ _ => (pe_and (pe_call (ok_is_whole T) hr (by rfl) T.m_is_whole T.F_is_whole.kp T.b_is_whole .nil pass0 (pa_cons (pv 1) pa_nil)) (pe_one (pe_chain op_le op_le pe_int (pv 1) (pe_glob (v := .int 20) (by rfl) T.c_GREATEST.2 ⟨_, rfl⟩)))))) pa_nil)))) (pss_one ps_never) pss_nil))), ?_⟩
    have l1 := ok.l1
    have l60 := ok.l60
    have hlen : Ev (tCB (rLenS K) (tCons (tVar 0) tNil)) (start ["row", "card"] [.ref a]) H (vN row.length) := ev_to (ev_len (ev_var rfl) hS) (by rw [vNs_len]; rfl)
    refine q_when (b := false) (evT_to (et_or (et_not (et_B (ev_isiB (K := K) (b := true) (ev_var rfl) (fun H1 e => tyx_l (ex_l e hS)) (by decide +kernel)))) fun _ =>
      et_not (et_test (ev_chain ev_c hlen rv_I0 (fun _ => ev_c) fun _ => rv_I0))) ?_) (fun z => nomatch z) fun _ H1 e1 => ?_
    · rw [decide_eq_true (show (1 : Int) ≤ (row.length : Int) by omega), decide_eq_true (show (row.length : Int) ≤ 60 by omega)]
      rfl
    have hS1 : SqL K H1 a (vNs row) := ex_l e1 hS
    refine s_when (b := false) (evT_to (et_not (et_B (ev_allN (K := K) (bs := row.map fun _ => true) (el_to (el_mapL (K := K) (fun _ => V.bl true) (ev_var rfl) hS1 ?_ ?_) ?_)))) ?_) (fun z => nomatch z) fun _ H2 e2 => ?_
    · rw [vNs_len]
      omega
    · intro x hx H2 e2
      obtain ⟨c, hc, rfl⟩ := List.mem_map.mp hx
      have h1 := ok.c1 c hc
      have h20 := ok.c20 c hc
      refine ev_to (ev_andV (ev_call (ea_cons (ev_var rfl) ea_nil) sv_is_whole) fun _ => ev_chain ev_c (ev_var rfl) rv_I0 (fun _ => ev_c) fun _ => rv_I0) ?_
      rw [decide_eq_true (show (1 : Int) ≤ (c : Int) by omega), decide_eq_true (show (c : Int) ≤ 20 by omega)]
      rfl
    · unfold vNs
      rw [List.map_map, List.map_map]
      rfl
    · rw [List.all_map]
      simp
    · exact k H2 (e1.trans e2)
theorem sv_check_row {H : Hp} {a : Addr} {row : List Nat} (hS : SqL K H a (vNs row)) (ok : RowOk row) : SpV (sp_check_row K) ([.ref a] ++ []) H .non := fun H1 e Q q E => ⟨a, row, rfl, ex_l e hS, ok, q⟩
end

section
variable {P : Program} {w : World} {K : PySem.W.Frag} {mg : Str → Option Value} {base : Heap}
def sp_check_place (K : PySem.W.Frag) : Sp := fun vs H Q _ => ∃ (a : Addr) (xs : List V) (p : Nat), vs = [.ref a, vN p] ∧ SqL K H a xs ∧ p < xs.length ∧ RetV .non H Q
theorem ok_check_place (T : Tx K mg) : FnOk P w K mg base CX0 2 T.f_check_place T.d_check_place ["row", "place"] (sp_check_place K) := by
  refine T.F_check_place.ok sc_check_place (fun vs H Q E h => ?_) (fun cdv A outer s H vs Q E hr h => ?_)
  · obtain ⟨a, xs, p, rfl, _⟩ := h
    rfl
  · obtain ⟨a, xs, p, rfl, hS, hp, k⟩ := h
    refine ⟨_, (pss_one (ps_if (PW.pt (pw_or (pt_not (pt_val (pe_call (ok_is_whole T) hr (by rfl) T.m_is_whole T.F_is_whole.kp T.b_is_whole .nil pass0 (pa_cons (pv 1) pa_nil)))) (pw_or1 (pt_not (pt_chain op_le op_lt pe_int (pv 1) (pe_callB (r := Evl.rLenS K) call_len_seq (by rfl) T.z_len (by decide +kernel) (pa_cons (pv 0) pa_nil))))))) (pss_one ps_never) pss_nil)), ?_⟩
    refine s_when (b := false) (evT_to (et_or (et_not (et_B (ev_call (ea_cons (ev_var rfl) ea_nil) sv_is_whole))) fun _ =>
      et_not (et_test (ev_chain ev_c (ev_var rfl) rv_I0 (fun _ => ev_len (K := K) (ev_var rfl) hS) fun _ => rv_I0))) ?_) (fun z => nomatch z) fun _ H1 e1 => k H1 e1
    rw [decide_eq_true (show (0 : Int) ≤ (p : Int) by omega), decide_eq_true (show (p : Int) < (xs.length : Int) by omega)]
    rfl
theorem sv_check_place {H : Hp} {a : Addr} {xs : List V} {p : Nat} (hS : SqL K H a xs) (hp : p < xs.length) : SpV (sp_check_place K) ([.ref a, vN p] ++ []) H .non := fun H1 e Q q E => ⟨a, xs, p, rfl, ex_l e hS, hp, q⟩
end

section
variable {P : Program} {w : World} {K : PySem.W.Frag} {mg : Str → Option Value} {base : Heap}
def sp_check_count : Sp := fun vs H Q _ => ∃ c lo hi : Int, vs = [.int c, .int lo, .int hi] ∧ lo ≤ c ∧ c ≤ hi ∧ RetV .non H Q
theorem ok_check_count (T : Tx K mg) : FnOk P w K mg base CX0 2 T.f_check_count T.d_check_count ["count", "least", "most"] sp_check_count := by
  refine T.F_check_count.ok sc_check_count (fun vs H Q E h => ?_) (fun cdv A outer s H vs Q E hr h => ?_)
  · obtain ⟨c, lo, hi, rfl, _⟩ := h
    rfl
  · obtain ⟨c, lo, hi, rfl, h1, h2, k⟩ := h
    refine ⟨_, (pss_one (ps_if (PW.pt (pw_or (pt_not (pt_val (pe_call (ok_is_whole T) hr (by rfl) T.m_is_whole T.F_is_whole.kp T.b_is_whole .nil pass0 (pa_cons (pv 0) pa_nil)))) (pw_or1 (pt_not (pt_chain op_le op_le (pv 1) (pv 0) (pv 2)))))) (pss_one ps_never) pss_nil)), ?_⟩
    refine s_when (b := false) (evT_to (et_or (et_not (et_B (ev_call (ea_cons (ev_var rfl) ea_nil) sv_is_whole))) fun _ =>
      et_not (et_test (ev_chain (ev_var rfl) (ev_var rfl) rv_I0 (fun _ => ev_var rfl) fun _ => rv_I0))) ?_) (fun z => nomatch z) fun _ H1 e1 => k H1 e1
    rw [decide_eq_true h1, decide_eq_true h2]
    rfl
theorem sv_check_count {H : Hp} {c lo hi : Int} (h1 : lo ≤ c) (h2 : c ≤ hi) : SpV sp_check_count ([.int c, .int lo, .int hi] ++ []) H .non := fun H1 e Q q E => ⟨c, lo, hi, rfl, h1, h2, q⟩
end

section
variable {P : Program} {w : World} {K : PySem.W.Frag} {mg : Str → Option Value} {base : Heap}
def sp_way_from (K : PySem.W.Frag) : Sp := fun vs H Q _ => ∃ (a : Addr) (row : List Nat) (p : Nat), vs = [.ref a, vN p] ∧ SqL K H a (vNs row) ∧ RowOk row ∧ p < row.length ∧ RetL (vNs (way row p)) H Q
theorem ok_way_from (T : Tx K mg) : FnOk P w K mg base CX0 1 T.f_way_from T.d_way_from ["row", "place"] (sp_way_from K) := by
  refine T.F_way_from.ok sc_way_from (fun vs H Q E h => ?_) (fun cdv A outer s H vs Q E hr h => ?_)
  · obtain ⟨a, row, p, rfl, _⟩ := h
    rfl
  · obtain ⟨a, row, p, rfl, hS, ok, hp, k⟩ := h
    have l60 := ok.l60
    refine ⟨_, (pss_cons (ps_set (i := 2) sc_way_from.nd rfl (by first | exact Or.inl rfl | exact Or.inr rfl) (pe_lst (pa_cons (pv 1) pa_nil)))
      (pss_cons (ps_while PassesOwn.never (pt_cmpR op_lt (pe_op op_add (pe_ix (r := rIxL K) ix_list (pv 2) (pe_un un_neg pe_int) (fun _ _ => rfl)) (pe_ix (r := rIxL K) ix_list (pv 0) (pe_ix (r := rIxL K) ix_list (pv 2) (pe_un un_neg pe_int) (fun _ _ => rfl)) (fun _ _ => rfl))) (pe_callB (r := Evl.rLenS K) call_len_seq (by rfl) T.z_len (by decide +kernel) (pa_cons (pv 0) pa_nil)) (nomark _))
      (pss_one (ps_expr (pe_bm PySem.F.plainAttrs_list PySem.F.slot_list_append PySem.F.type_list_append mt_append (pv 2) (pa_cons (pe_op op_add (pe_ix (r := rIxL K) ix_list (pv 2) (pe_un un_neg pe_int) (fun _ _ => rfl)) (pe_ix (r := rIxL K) ix_list (pv 0) (pe_ix (r := rIxL K) ix_list (pv 2) (pe_un un_neg pe_int) (fun _ _ => rfl)) (fun _ _ => rfl))) pa_nil)))))
      (pss_one (ps_ret (pv 2))))), ?_⟩
    refine q_asgL (el_lst (ea_cons (ev_var rfl) ea_nil) (show 1 ≤ 100000 by decide)) fun f H1 nf e1 hf => ?_
    refine q_while (fun m σ H' => ∃ acc q, σ = [some (.ref a), some (vN p), some (.ref f)] ∧ q < row.length ∧ acc.length ≤ q ∧ acc ++ way row q = way row p ∧ Ex H H' ∧ H' f = some (.lst (vNs (acc ++ [q]))) ∧ m = row.length - q) (row.length - p)
      ⟨[], p, rfl, hp, Nat.zero_le _, rfl, e1, hf, rfl⟩ ?_
    rintro m σ' H' ⟨acc, q, rfl, hq, hal, hw, ex, hf, rfl⟩
    have hrow : SqL K H' a (vNs row) := ex_l ex hS
    have hc1 := ok.c1 _ (mem_getD hq)
    have hlast : ∀ {H2 : Hp}, Ex H' H2 → Ev (tOp (rIxL K) (tVar 2) (tUn (rU fun i => .int (-i)) (tC (.int 1)))) [some (.ref a), some (vN p), some (.ref f)] H2 (vN q) := fun e2 =>
      ev_op (ev_var rfl) (ev_un ev_c ru_neg) (rv_ixL (sq_of (e2 f _ hf)) (by rw [vNs_app]; exact atI_last _ _))
    have hnext : ∀ {H2 : Hp}, Ex H' H2 → Ev (tOp (rI0 fun i j => .int (i + j)) (tOp (rIxL K) (tVar 2) (tUn (rU fun i => .int (-i)) (tC (.int 1)))) (tOp (rIxL K) (tVar 0) (tOp (rIxL K) (tVar 2) (tUn (rU fun i => .int (-i)) (tC (.int 1)))))) [some (.ref a), some (vN p), some (.ref f)] H2 (vN (q + row.getD q 0)) := fun e2 =>
      ev_to (ev_op (hlast e2) (ev_op (ev_var rfl) (hlast e2) (rv_ixL (ex_l e2 hrow) (vNs_at (getD_some hq)))) rv_I0) (by unfold vN; rw [Int.natCast_add])
    refine ⟨decide ((q + row.getD q 0 : Nat) < (row.length : Int)), et_test (ev_to (ev_op (hnext (Ex.refl H')) (ev_len (K := K) (ev_var rfl) hrow) rv_I0) (by rw [vNs_len])), fun hb H2 e2 => ?_, fun hb H2 e2 => ?_⟩
    · have hlt : q + row.getD q 0 < row.length := by
        have := of_decide_eq_true hb
        omega
      refine ⟨fun σ3 H3 => σ3 = [some (.ref a), some (vN p), some (.ref f)] ∧ Ex H H3 ∧ H3 f = some (.lst (vNs ((acc ++ [q]) ++ [q + row.getD q 0]))), fun σ3 H3 ⟨e3, x3, f3⟩ => ?_, ?_⟩
      · refine ⟨row.length - (q + row.getD q 0), by omega, acc ++ [q], q + row.getD q 0, e3, hlt, ?_, ?_, x3, f3, rfl⟩
        · rw [List.length_append, List.length_singleton]
          omega
        · rw [List.append_assoc, List.singleton_append, ← way_go ok.c1 hq hlt]
          exact hw
      · refine s_app (e2 f _ hf) (ev_var rfl) (hnext e2) ?_ fun H3 e3 => ⟨rfl, ?_, ?_⟩
        · rw [vNs_len, List.length_append, List.length_singleton]
          omega
        · exact Ex.mut ((ex.trans e2).trans e3) nf
        · rw [upd_same, vNs_app _ [q + row.getD q 0]]
          rfl
    · have hge : ¬ q + row.getD q 0 < row.length := by
        have := of_decide_eq_false hb
        omega
      refine s_ret (ev_var rfl) fun H3 e3 => ?_
      refine k f H3 nf ((ex.trans e2).trans e3) ?_
      rw [e3 f _ (e2 f _ hf), ← hw, way_end ok.c1 hq hge]
theorem sl_way_from {H : Hp} {a : Addr} {row : List Nat} {p : Nat} (hS : SqL K H a (vNs row)) (ok : RowOk row) (hp : p < row.length) : SpL (sp_way_from K) ([.ref a, vN p] ++ []) H (vNs (way row p)) :=
  fun H1 e Q q E => ⟨a, row, p, rfl, ex_l e hS, ok, hp, q⟩
end

section
variable {P : Program} {w : World} {K : PySem.W.Frag} {mg : Str → Option Value} {base : Heap}
theorem ok_way (T : Tx K mg) : FnOk P w K mg base CX0 3 T.f_way T.d_way ["row", "place"] (sp_way_from K) := by
  refine T.F_way.ok sc_way (fun vs H Q E h => ?_) (fun cdv A outer s H vs Q E hr h => ?_)
  · obtain ⟨a, row, p, rfl, _⟩ := h
    rfl
  · obtain ⟨a, row, p, rfl, hS, ok, hp, k⟩ := h
    refine ⟨_, (pss_cons (ps_expr (pe_call (ok_check_row T) hr (by rfl) T.m_check_row T.F_check_row.kp T.b_check_row .nil pass0 (pa_cons (pv 0) pa_nil)))
      (pss_cons (ps_expr (pe_call (ok_check_place T) hr (by rfl) T.m_check_place T.F_check_place.kp T.b_check_place .nil pass0 (pa_cons (pv 0) (pa_cons (pv 1) pa_nil))))
      (pss_one (ps_ret (pe_call (ok_way_from T) (hr.mono (by decide)) (by rfl) T.m_way_from T.F_way_from.kp T.b_way_from .nil pass0 (pa_cons (pv 0) (pa_cons (pv 1) pa_nil))))))), ?_⟩
    refine q_drop (ev_call (ea_cons (ev_var rfl) ea_nil) (sv_check_row hS ok)) fun H1 e1 => ?_
    refine q_drop (ev_call (ea_cons (ev_var rfl) (ea_cons (ev_var rfl) ea_nil)) (sv_check_place (p := p) (ex_l e1 hS) (by rw [vNs_len]; exact hp))) fun H2 e2 => ?_
    refine s_retL (el_call (ea_cons (ev_var rfl) (ea_cons (ev_var rfl) ea_nil)) (sl_way_from (p := p) (ex_l (e1.trans e2) hS) ok hp)) fun f H3 nf e3 hf => ?_
    exact k f H3 (fresh_back (e1.trans e2) nf) ((e1.trans e2).trans e3) hf
def sp_last (K : PySem.W.Frag) : Sp := fun vs H Q _ => ∃ (a : Addr) (row : List Nat) (p : Nat), vs = [.ref a, vN p] ∧ SqL K H a (vNs row) ∧ RowOk row ∧ p < row.length ∧ RetV (vN (lastOf row p)) H Q
theorem ok_last (T : Tx K mg) : FnOk P w K mg base CX0 3 T.f_last T.d_last ["row", "place"] (sp_last K) := by
  refine T.F_last.ok sc_last (fun vs H Q E h => ?_) (fun cdv A outer s H vs Q E hr h => ?_)
  · obtain ⟨a, row, p, rfl, _⟩ := h
    rfl
  · obtain ⟨a, row, p, rfl, hS, ok, hp, k⟩ := h
    refine ⟨_, (pss_cons (ps_expr (pe_call (ok_check_row T) hr (by rfl) T.m_check_row T.F_check_row.kp T.b_check_row .nil pass0 (pa_cons (pv 0) pa_nil)))
      (pss_cons (ps_expr (pe_call (ok_check_place T) hr (by rfl) T.m_check_place T.F_check_place.kp T.b_check_place .nil pass0 (pa_cons (pv 0) (pa_cons (pv 1) pa_nil))))
      (pss_one (ps_ret (pe_ix (r := rIxL K) ix_list (pe_call (ok_way_from T) (hr.mono (by decide)) (by rfl) T.m_way_from T.F_way_from.kp T.b_way_from .nil pass0 (pa_cons (pv 0) (pa_cons (pv 1) pa_nil))) (pe_un un_neg pe_int) (fun _ _ => rfl)))))), ?_⟩
    refine q_drop (ev_call (ea_cons (ev_var rfl) ea_nil) (sv_check_row hS ok)) fun H1 e1 => ?_
    refine q_drop (ev_call (ea_cons (ev_var rfl) (ea_cons (ev_var rfl) ea_nil)) (sv_check_place (p := p) (ex_l e1 hS) (by rw [vNs_len]; exact hp))) fun H2 e2 => ?_
    refine s_ret (ev_ixN (K := K) (el_call (ea_cons (ev_var rfl) (ea_cons (ev_var rfl) ea_nil)) (sl_way_from (p := p) (ex_l (e1.trans e2) hS) ok hp)) (ev_un ev_c ru_neg) (v := vN (lastOf row p)) ?_) fun H3 e3 => k H3 ((e1.trans e2).trans e3)
    rw [way_split row p, vNs_app]
    exact atI_last _ _
theorem sv_last {H : Hp} {a : Addr} {row : List Nat} {p : Nat} (hS : SqL K H a (vNs row)) (ok : RowOk row) (hp : p < row.length) : SpV (sp_last K) ([.ref a, vN p] ++ []) H (vN (lastOf row p)) :=
  fun H1 e Q q E => ⟨a, row, p, rfl, ex_l e hS, ok, hp, q⟩
end

/-! ### the program: answers -/
section
variable {P : Program} {w : World} {K : PySem.W.Frag} {mg : Str → Option Value} {base : Heap}
def sp_first_common (K : PySem.W.Frag) : Sp := fun vs H Q _ => ∃ (a : Addr) (row : List Nat) (one other : Nat), vs = [.ref a, vN one, vN other] ∧ SqL K H a (vNs row) ∧ RowOk row ∧ one < row.length ∧ other < row.length ∧ RetV (optV (firstC row one other)) H Q
theorem ok_first_common (T : Tx K mg) : FnOk P w K mg base CX0 2 T.f_first_common T.d_first_common ["row", "one", "other"] (sp_first_common K) := by
  refine T.F_first_common.ok sc_first_common (fun vs H Q E h => ?_) (fun cdv A outer s H vs Q E hr h => ?_)
  · obtain ⟨a, row, one, other, rfl, _⟩ := h
    rfl
  · obtain ⟨a, row, one, other, rfl, hS, ok, h1, h2, k⟩ := h
    refine ⟨_, (pss_cons (ps_set (i := 3) sc_first_common.nd rfl (by first | exact Or.inl rfl | exact Or.inr rfl) (pe_call (ok_way_from T) hr (by rfl) T.m_way_from T.F_way_from.kp T.b_way_from .nil pass0 (pa_cons (pv 0) (pa_cons (pv 1) pa_nil))))
      (pss_cons (ps_setLc (i := 4) (own := [("place", 5)]) (by rfl) sc_first_common.nd rfl rfl (sw_true rfl rfl rfl (by decide +kernel)) (pi_list (pe_call (ok_way_from T) hr (by rfl) T.m_way_from T.F_way_from.kp T.b_way_from .nil pass0 (pa_cons (pv 0) (pa_cons (pv 2) pa_nil)))) (blkOk_by (own := [("place", 5)]) (N := ["row", "one", "other", "mine", "some", "place"]) (sc := defScope s_first_common) (by decide +kernel)) (fun _ _ _ _ _ => (pg_name (i := 5) sc_first_common.nd rfl (by first | exact Or.inl rfl | exact Or.inr rfl))) (fun _ _ _ _ _ => (pts_one (pt_cmpR (r := rIn K false) op_in_seq (pv 5) (pv 3) (by rfl)))) (fun _ _ _ _ _ => (pv 5)))
      (pss_one (ps_ret (pe_ifExp (pt_cmpR (r := rNeD K) (op_neD hr.units) (pv 4) (pe_lst pa_nil) (nomark _)) (pe_ix (r := rIxL K) ix_list (pv 4) pe_int (fun _ _ => rfl)) pe_non))))), ?_⟩
    have l60 := ok.l60
    refine q_asgL (el_call (ea_cons (ev_var rfl) (ea_cons (ev_var rfl) ea_nil)) (sl_way_from (p := one) hS ok h1)) fun m H1 nm e1 hm => ?_
    refine q_asgL (xs := vNs (bothL row one other)) (el_to (el_filtN (fun x => inV x (vNs (way row one))) (fun x => x) (el_call (ea_cons (ev_var rfl) (ea_cons (ev_var rfl) ea_nil)) (sl_way_from (p := other) (ex_l e1 hS) ok h2)) ?_ ?_ ?_) ?_) fun so H2 ns e2 hso => ?_
    · rw [vNs_len]
      have := way_len row other
      omega
    · intro x hx H2 e2
      obtain ⟨n, hn, rfl⟩ := List.mem_map.mp hx
      exact et_test (ev_op (ev_var rfl) (ev_var rfl) (rv_isL (K := K) (sq_of (e2 m _ hm)) rfl (flat_N _)))
    · intro x hx H2 e2 _
      exact ev_var rfl
    · rw [List.map_id', filt_N]
      rfl
    generalize hb : bothL row one other = both at hso
    have hv : optV (firstC row one other) = optV both.head? := by
      unfold firstC
      rw [hb]
    refine s_ret (v := optV (firstC row one other)) ?_ fun H3 e3 => k H3 ((e1.trans e2).trans e3)
    rw [hv]
    cases both with
    | nil =>
      exact ev_if (b := false) (evT_to (et_test (ev_neD (K := K) (ed_var rfl (dp_N (sq_of hso))) (en_lst ena_nil (show 0 ≤ 100000 by decide)).toD (by decide +kernel) (by decide +kernel))) (by decide +kernel)) (fun z => nomatch z) fun _ => ev_c
    | cons p r =>
      have gp : Good (pdN (p :: r)) := good_N (fun n hn => by
        have : n ∈ bothL row one other := by rw [hb]; exact hn
        have := way_lt h2 n (List.mem_filter.mp this).1
        omega) (by
        have h5 : (bothL row one other).length ≤ (way row other).length := List.length_filter_le ..
        rw [hb] at h5
        have := way_len row other
        omega)
      exact ev_if (b := true) (evT_to (et_test (ev_neD (K := K) (ed_var rfl (dp_N (sq_of hso))) (en_lst ena_nil (show 0 ≤ 100000 by decide)).toD gp.shaped (by decide +kernel))) rfl) (fun _ => ev_op (ev_var rfl) ev_c (rv_ixL (K := K) (sq_of hso) (i := 0) (v := vN p) (atI_nat (j := 0) rfl))) (fun z => nomatch z)
theorem sv_first_common {H : Hp} {a : Addr} {row : List Nat} {one other : Nat} (hS : SqL K H a (vNs row)) (ok : RowOk row) (h1 : one < row.length) (h2 : other < row.length) : SpV (sp_first_common K) ([.ref a, vN one, vN other] ++ []) H (optV (firstC row one other)) :=
  fun H1 e Q q E => ⟨a, row, one, other, rfl, ex_l e hS, ok, h1, h2, q⟩
/-! objects -/
def ansCls (T : Tx K mg) : Ans → Addr
  | .meet _ => T.a_Meet
  | .apart _ _ => T.a_Apart
def ansFs : Ans → List (Str × V)
  | .meet z => [("place", .int z)]
  | .apart m t => [("mine", .int m), ("theirs", .int t)]
def AnsAt (T : Tx K mg) (H : Hp) (f : Addr) (a : Ans) : Prop := ∃ dx, H f = some (.ins (ansCls T a) dx (ansFs a))
theorem AnsAt.ex {T : Tx K mg} {H H' : Hp} {f : Addr} {a : Ans} (h : AnsAt T H f a) (e : Ex H H') : AnsAt T H' f a := h.elim fun dx q => ⟨dx, e f _ q⟩
def fsMeet : List V → List (Str × V)
  | [v] => [("place", v)]
  | _ => []
def fsApart : List V → List (Str × V)
  | [v, u] => [("mine", v), ("theirs", u)]
  | _ => []
theorem ok_Meet_init (T : Tx K mg) : FnOk P w K mg base CX0 1 T.f_Meet_init T.d_Meet_init ["self", "place"] (spInit T.a_Meet 1 fsMeet) := by
  refine T.F_Meet_init.ok sc_Meet_init (fun vs H Q E h => ?_) (fun cdv A outer s H vs Q E hr h => ?_)
  · obtain ⟨x, dx, us, rfl, hl, _⟩ := h
    rw [List.length_cons, hl]
    rfl
  · obtain ⟨x, dx, us, rfl, hl, hx, k⟩ := h
    obtain ⟨v, rfl⟩ : ∃ v, us = [v] := by
      match us, hl with
      | [v], _ => exact ⟨v, rfl⟩
    refine ⟨_, (pss_one (ps_fld (pv 0) (pv 1) rfl)), ?_⟩
    exact ⟨v, rfl, .ref x, rfl, x, T.a_Meet, dx, [], rfl, hx, T.cl_Meet, T.n_Meet_place, by decide, k⟩
theorem ok_Apart_init (T : Tx K mg) : FnOk P w K mg base CX0 1 T.f_Apart_init T.d_Apart_init ["self", "mine", "theirs"] (spInit T.a_Apart 2 fsApart) := by
  refine T.F_Apart_init.ok sc_Apart_init (fun vs H Q E h => ?_) (fun cdv A outer s H vs Q E hr h => ?_)
  · obtain ⟨x, dx, us, rfl, hl, _⟩ := h
    rw [List.length_cons, hl]
    rfl
  · obtain ⟨x, dx, us, rfl, hl, hx, k⟩ := h
    obtain ⟨v, u, rfl⟩ : ∃ v u, us = [v, u] := by
      match us, hl with
      | [v, u], _ => exact ⟨v, u, rfl⟩
    refine ⟨_, (pss_cons (ps_fld (pv 0) (pv 1) rfl)
      (pss_one (ps_fld (pv 0) (pv 2) rfl))), ?_⟩
    refine ⟨v, rfl, .ref x, rfl, x, T.a_Apart, dx, [], rfl, hx, T.cl_Apart, T.n_Apart_mine, by decide, ?_⟩
    refine ⟨u, rfl, .ref x, rfl, x, T.a_Apart, dx, _, rfl, upd_same, T.cl_Apart, T.n_Apart_theirs, (show 1 < 1000 by decide), ?_⟩
    rw [upd_upd]
    exact k
def sp_shM (T : Tx K mg) : Sp := fun vs H Q _ => ∃ (f a : Addr) (z : Int) (row : List Nat) (one other : Nat), vs = [.ref f, .ref a, vN one, vN other] ∧ AnsAt T H f (.meet z) ∧ SqL K H a (vNs row) ∧ RowOk row ∧ one < row.length ∧ other < row.length ∧ RetV (.bl (shB row one other (.meet z))) H Q
def sp_shA (T : Tx K mg) : Sp := fun vs H Q _ => ∃ (f a : Addr) (m t : Int) (row : List Nat) (one other : Nat), vs = [.ref f, .ref a, vN one, vN other] ∧ AnsAt T H f (.apart m t) ∧ SqL K H a (vNs row) ∧ RowOk row ∧ one < row.length ∧ other < row.length ∧ RetV (.bl (shB row one other (.apart m t))) H Q
theorem shM_eq (z : Int) (o : Option Nat) : (match o with | some p => decide (z = (p : Int)) | none => false) = decide (V.int z = optV o) := by
  cases o with
  | none => rfl
  | some p =>
    show decide (z = (p : Int)) = decide (V.int z = V.int (p : Int))
    rw [Bool.eq_iff_iff, decide_eq_true_iff, decide_eq_true_iff]
    exact ⟨fun h => by rw [h], fun h => V.int.inj h⟩
theorem scal_opt (z : Int) (o : Option Nat) : scal (.int z) (optV o) = true := by
  cases o <;> rfl
theorem ok_Meet_shows (T : Tx K mg) : FnOk P w K mg base CX0 3 T.f_Meet_shows T.d_Meet_shows ["self", "row", "one", "other"] (sp_shM T) := by
  refine T.F_Meet_shows.ok sc_Meet_shows (fun vs H Q E h => ?_) (fun cdv A outer s H vs Q E hr h => ?_)
  · obtain ⟨f, a, z, row, one, other, rfl, _⟩ := h
    rfl
  · obtain ⟨f, a, z, row, one, other, rfl, ⟨dx, hf⟩, hS, ok, h1, h2, k⟩ := h
    refine ⟨_, (pss_one (ps_ret (pe_cmpR op_eq (show PE _ _ (tFld K _ _) from pe_fld (pv 0) rfl) (pe_call (ok_first_common T) hr (by rfl) T.m_first_common T.F_first_common.kp T.b_first_common .nil pass0 (pa_cons (pv 1) (pa_cons (pv 2) (pa_cons (pv 3) pa_nil)))) (nomark _)))), ?_⟩
    refine s_ret (ev_to (ev_op (ev_fld (K := K) (ev_var rfl) hf T.cl_Meet T.n_Meet_place rfl) (ev_call (ea_cons (ev_var rfl) (ea_cons (ev_var rfl) (ea_cons (ev_var rfl) ea_nil))) (sv_first_common hS ok h1 h2)) (rv_eq (scal_opt z _))) ?_) fun H1 e1 => k H1 e1
    rw [← shM_eq]
    rfl
theorem ok_Apart_shows (T : Tx K mg) : FnOk P w K mg base CX0 2 T.f_Apart_shows T.d_Apart_shows ["self", "row", "one", "other"] (sp_shA T) := by
  refine T.F_Apart_shows.ok sc_Apart_shows (fun vs H Q E h => ?_) (fun cdv A outer s H vs Q E hr h => ?_)
  · obtain ⟨f, a, m, t, row, one, other, rfl, _⟩ := h
    rfl
  · obtain ⟨f, a, m, t, row, one, other, rfl, ⟨dx, hf⟩, hS, ok, h1, h2, k⟩ := h
    refine ⟨_, (pss_cons (ps_if (pt_cmpR op_eq (show PE _ _ (tFld K _ _) from pe_fld (pv 0) rfl) (show PE _ _ (tFld K _ _) from pe_fld (pv 0) rfl) (nomark _)) (pss_one (ps_ret pe_bl)) pss_nil)
      (pss_one (ps_ret (pe_cmpR (r := rEqD K) (op_eqD hr.units) (pe_tup (pa_cons (show PE _ _ (tFld K _ _) from pe_fld (pv 0) rfl) (pa_cons (show PE _ _ (tFld K _ _) from pe_fld (pv 0) rfl) pa_nil))) (pe_tup (pa_cons (pe_ix (r := rIxL K) ix_list (pe_call (ok_way_from T) hr (by rfl) T.m_way_from T.F_way_from.kp T.b_way_from .nil pass0 (pa_cons (pv 1) (pa_cons (pv 2) pa_nil))) (pe_un un_neg pe_int) (fun _ _ => rfl)) (pa_cons (pe_ix (r := rIxL K) ix_list (pe_call (ok_way_from T) hr (by rfl) T.m_way_from T.F_way_from.kp T.b_way_from .nil pass0 (pa_cons (pv 1) (pa_cons (pv 3) pa_nil))) (pe_un un_neg pe_int) (fun _ _ => rfl)) pa_nil))) (nomark _))))), ?_⟩
    have fm : ∀ {H1 : Hp}, Ex H H1 → Ev (tFld K (tVar 0) "mine") (start ["self", "row", "one", "other"] [.ref f, .ref a, vN one, vN other]) H1 (.int m) := fun e => ev_fld (K := K) (ev_var rfl) (e f _ hf) T.cl_Apart T.n_Apart_mine rfl
    have ft : ∀ {H1 : Hp}, Ex H H1 → Ev (tFld K (tVar 0) "theirs") (start ["self", "row", "one", "other"] [.ref f, .ref a, vN one, vN other]) H1 (.int t) := fun e => ev_fld (K := K) (ev_var rfl) (e f _ hf) T.cl_Apart T.n_Apart_theirs rfl
    have eq1 : decide (V.int m = V.int t) = decide (m = t) := by
      rw [Bool.eq_iff_iff, decide_eq_true_iff, decide_eq_true_iff]
      exact ⟨fun h => V.int.inj h, fun h => by rw [h]⟩
    refine q_when (b := decide (m = t)) (evT_to (et_test (ev_op (fm (Ex.refl H)) (ft (Ex.refl H)) (rv_eq rfl))) eq1) (fun hb H1 e1 => ?_) fun hb H1 e1 => ?_
    · have hmt := of_decide_eq_true hb
      refine s_ret ev_c fun H2 e2 => ?_
      have this : Q (.bl (if m = t then false else (m == (lastOf row one : Int) && (t == (lastOf row other : Int) && true)))) H2 := k H2 (e1.trans e2)
      rw [if_pos hmt] at this
      exact this
    · have hmt := of_decide_eq_false hb
      have lst : ∀ {p : Nat}, p < row.length → atI (vNs (way row p)) (-1) = some (vN (lastOf row p)) := fun {p} _ => by
        rw [way_split row p, vNs_app]
        exact atI_last _ _
      refine s_ret (v := .bl (m == (lastOf row one : Int) && (t == (lastOf row other : Int) && true))) (ev_eqD (K := K) (d := .tuple [.int m, .int t]) (d' := .tuple [.int (lastOf row one : Int), .int (lastOf row other : Int)])
        (en_tup (ena_cons (en_int (fm e1)) (ena_cons (en_int (ft e1)) ena_nil)) (show 2 ≤ 100000 by decide)).toD
        (en_tup (ena_cons (en_N (ev_ixN (K := K) (el_call (ea_cons (ev_var rfl) (ea_cons (ev_var rfl) ea_nil)) (sl_way_from (p := one) (ex_l e1 hS) ok h1)) (ev_un ev_c ru_neg) (lst h1)))
          (ena_cons (en_N (ev_ixN (K := K) (el_call (ea_cons (ev_var rfl) (ea_cons (ev_var rfl) ea_nil)) (sl_way_from (p := other) (ex_l e1 hS) ok h2)) (ev_un ev_c ru_neg) (lst h2))) ena_nil)) (show 2 ≤ 100000 by decide)).toD rfl rfl) fun H2 e2 => ?_
      have this : Q (.bl (if m = t then false else (m == (lastOf row one : Int) && (t == (lastOf row other : Int) && true)))) H2 := k H2 (e1.trans e2)
      rw [if_neg hmt] at this
      exact this
theorem sv_shM {T : Tx K mg} {H : Hp} {f a : Addr} {z : Int} {row : List Nat} {one other : Nat} (hf : AnsAt T H f (.meet z)) (hS : SqL K H a (vNs row)) (ok : RowOk row) (h1 : one < row.length) (h2 : other < row.length) : SpV (sp_shM T) (.ref f :: ([.ref a, vN one, vN other] ++ [])) H (.bl (shB row one other (.meet z))) :=
  fun H1 e Q q E => ⟨f, a, z, row, one, other, rfl, hf.ex e, ex_l e hS, ok, h1, h2, q⟩
theorem sv_shA {T : Tx K mg} {H : Hp} {f a : Addr} {m t : Int} {row : List Nat} {one other : Nat} (hf : AnsAt T H f (.apart m t)) (hS : SqL K H a (vNs row)) (ok : RowOk row) (h1 : one < row.length) (h2 : other < row.length) : SpV (sp_shA T) (.ref f :: ([.ref a, vN one, vN other] ++ [])) H (.bl (shB row one other (.apart m t))) :=
  fun H1 e Q q E => ⟨f, a, m, t, row, one, other, rfl, hf.ex e, ex_l e hS, ok, h1, h2, q⟩
/-- found.shows(row, one, other), whichever it is -/
theorem ev_shows {T : Tx K mg} {σ : L2.St} {H : Hp} {f a : Addr} {an : Ans} {row : List Nat} {one other : Nat} {ta : TE} {tr : TA} {E1 E2 : XK} (hf : AnsAt T H f an) (hS : SqL K H a (vNs row)) (ok : RowOk row) (h1 : one < row.length) (h2 : other < row.length)
    (h : Ev ta σ H (.ref f)) (hr : EvA tr σ H [.ref a, vN one, vN other]) :
    Ev (fun σ H Q => tMeth T.a_Meet "shows" (sp_shM T) [] E1 ta tr σ H Q ∨ tMeth T.a_Apart "shows" (sp_shA T) [] E2 ta tr σ H Q) σ H (.bl (shB row one other an)) := by
  cases an with
  | meet z =>
    obtain ⟨dx, q⟩ := hf
    exact ev_orL (ev_meth h q rfl hr (sv_shM ⟨dx, q⟩ hS ok h1 h2))
  | apart m t =>
    obtain ⟨dx, q⟩ := hf
    exact ev_orR (ev_meth h q rfl hr (sv_shA ⟨dx, q⟩ hS ok h1 h2))
end

section
variable {P : Program} {w : World} {K : PySem.W.Frag} {mg : Str → Option Value} {base : Heap}
def sp_compared (T : Tx K mg) : Sp := fun vs H Q _ => ∃ (a : Addr) (row : List Nat) (one other : Nat), vs = [.ref a, vN one, vN other] ∧ SqL K H a (vNs row) ∧ RowOk row ∧ one < row.length ∧ other < row.length ∧ RetO (ansCls T (cmpA row one other)) (ansFs (cmpA row one other)) H Q
theorem ok_compared (T : Tx K mg) : FnOk P w K mg base CX0 3 T.f_compared T.d_compared ["row", "one", "other"] (sp_compared T) := by
  refine T.F_compared.ok sc_compared (fun vs H Q E h => ?_) (fun cdv A outer s H vs Q E hr h => ?_)
  · obtain ⟨a, row, one, other, rfl, _⟩ := h
    rfl
  · obtain ⟨a, row, one, other, rfl, hS, ok, h1, h2, k⟩ := h
    refine ⟨_, (pss_cons (ps_expr (pe_call (ok_check_row T) hr (by rfl) T.m_check_row T.F_check_row.kp T.b_check_row .nil pass0 (pa_cons (pv 0) pa_nil)))
      (pss_cons (ps_expr (pe_call (ok_check_place T) hr (by rfl) T.m_check_place T.F_check_place.kp T.b_check_place .nil pass0 (pa_cons (pv 0) (pa_cons (pv 1) pa_nil))))
      (pss_cons (ps_expr (pe_call (ok_check_place T) hr (by rfl) T.m_check_place T.F_check_place.kp T.b_check_place .nil pass0 (pa_cons (pv 0) (pa_cons (pv 2) pa_nil))))
      (pss_cons (ps_set (i := 3) sc_compared.nd rfl (by first | exact Or.inl rfl | exact Or.inr rfl) (pe_call (ok_first_common T) hr (by rfl) T.m_first_common T.F_first_common.kp T.b_first_common .nil pass0 (pa_cons (pv 0) (pa_cons (pv 1) (pa_cons (pv 2) pa_nil)))))
      (pss_cons (ps_if (pt_cmpR op_isN (pv 3) pe_non (nomark _)) (pss_one (ps_ret (pe_make T.k_Apart (ok_Apart_init T) (hr.mono (by decide)) (by rfl) T.m_Apart T.b_Apart_init .nil pass0 (pa_cons (pe_ix (r := rIxL K) ix_list (pe_call (ok_way_from T) (hr.mono (by decide)) (by rfl) T.m_way_from T.F_way_from.kp T.b_way_from .nil pass0 (pa_cons (pv 0) (pa_cons (pv 1) pa_nil))) (pe_un un_neg pe_int) (fun _ _ => rfl)) (pa_cons (pe_ix (r := rIxL K) ix_list (pe_call (ok_way_from T) (hr.mono (by decide)) (by rfl) T.m_way_from T.F_way_from.kp T.b_way_from .nil pass0 (pa_cons (pv 0) (pa_cons (pv 2) pa_nil))) (pe_un un_neg pe_int) (fun _ _ => rfl)) pa_nil))))) pss_nil)
      (pss_one (ps_ret (pe_make T.k_Meet (ok_Meet_init T) (hr.mono (by decide)) (by rfl) T.m_Meet T.b_Meet_init .nil pass0 (pa_cons (pv 3) pa_nil))))))))), ?_⟩
    refine q_drop (ev_call (ea_cons (ev_var rfl) ea_nil) (sv_check_row hS ok)) fun H1 e1 => ?_
    refine q_drop (ev_call (ea_cons (ev_var rfl) (ea_cons (ev_var rfl) ea_nil)) (sv_check_place (p := one) (ex_l e1 hS) (by rw [vNs_len]; exact h1))) fun H2 e2 => ?_
    refine q_drop (ev_call (ea_cons (ev_var rfl) (ea_cons (ev_var rfl) ea_nil)) (sv_check_place (p := other) (ex_l (e1.trans e2) hS) (by rw [vNs_len]; exact h2))) fun H3 e3 => ?_
    have e13 := (e1.trans e2).trans e3
    refine q_asg (ev_call (ea_cons (ev_var rfl) (ea_cons (ev_var rfl) (ea_cons (ev_var rfl) ea_nil))) (sv_first_common (ex_l e13 hS) ok h1 h2)) fun H4 e4 => ?_
    have e14 := e13.trans e4
    have lst : ∀ p : Nat, atI (vNs (way row p)) (-1) = some (vN (lastOf row p)) := fun p => by
      rw [way_split row p, vNs_app]
      exact atI_last _ _
    unfold cmpA at k
    cases hc : firstC row one other with
    | none =>
      rw [hc] at k
      refine q_when (b := true) (et_test (ev_op (ev_var rfl) ev_c rv_isN)) (fun _ H5 e5 => ?_) (fun z => nomatch z)
      have hS5 := ex_l (e14.trans e5) hS
      refine s_retO (eo_make (ea_cons (ev_ixN (K := K) (el_call (ea_cons (ev_var rfl) (ea_cons (ev_var rfl) ea_nil)) (sl_way_from (p := one) hS5 ok h1)) (ev_un ev_c ru_neg) (lst one)) (ea_cons (ev_ixN (K := K) (el_call (ea_cons (ev_var rfl) (ea_cons (ev_var rfl) ea_nil)) (sl_way_from (p := other) hS5 ok h2)) (ev_un ev_c ru_neg) (lst other)) ea_nil)) rfl) fun p dx H6 np e6 hp => ?_
      exact k p dx H6 (fresh_back (e14.trans e5) np) ((e14.trans e5).trans e6) hp
    | some p =>
      rw [hc] at k
      refine q_when (b := false) (et_test (ev_op (ev_var rfl) ev_c rv_isN)) (fun z => nomatch z) fun _ H5 e5 => ?_
      refine s_retO (eo_make (ea_cons (ev_var rfl) ea_nil) rfl) fun p dx H6 np e6 hp => ?_
      exact k p dx H6 (fresh_back (e14.trans e5) np) ((e14.trans e5).trans e6) hp
theorem so_compared {T : Tx K mg} {H : Hp} {a : Addr} {row : List Nat} {one other : Nat} (hS : SqL K H a (vNs row)) (ok : RowOk row) (h1 : one < row.length) (h2 : other < row.length) : SpO (sp_compared T) ([.ref a, vN one, vN other] ++ []) H (ansCls T (cmpA row one other)) (ansFs (cmpA row one other)) :=
  fun H1 e Q q E => ⟨a, row, one, other, rfl, ex_l e hS, ok, h1, h2, q⟩
end

section
variable {P : Program} {w : World} {K : PySem.W.Frag} {mg : Str → Option Value} {base : Heap}
theorem way_at (row : List Nat) (p : Nat) : atI (vNs (way row p)) (-1) = some (vN (lastOf row p)) := by
  rw [way_split row p, vNs_app]
  exact atI_last _ _
def endG (l : List Nat) : V → PyData
  | .int i => endP l i.toNat
  | _ => .none
theorem end_map (l rs : List Nat) : (vNs rs).map (endG l) = rs.map (endP l) := by
  unfold vNs
  rw [List.map_map]
  rfl
def sp_endings (K : PySem.W.Frag) : Sp := fun vs H Q _ => ∃ (a : Addr) (row : List Nat) (many : Nat), vs = [.ref a, vN many] ∧ SqL K H a (vNs row) ∧ RowOk row ∧ 1 ≤ many ∧ many ≤ row.length ∧ RetM K (endD (lastsL row many)) H Q
theorem ok_endings (T : Tx K mg) : FnOk P w K mg base CX0 3 T.f_endings T.d_endings ["row", "many"] (sp_endings K) := by
  refine T.F_endings.ok sc_endings (fun vs H Q E h => ?_) (fun cdv A outer s H vs Q E hr h => ?_)
  · obtain ⟨a, row, many, rfl, _⟩ := h
    rfl
  · obtain ⟨a, row, many, rfl, hS, ok, h1, h2, k⟩ := h
    refine ⟨_, (pss_cons (ps_expr (pe_call (ok_check_row T) hr (by rfl) T.m_check_row T.F_check_row.kp T.b_check_row .nil pass0 (pa_cons (pv 0) pa_nil)))
      (pss_cons (ps_expr (pe_call (ok_check_count T) hr (by rfl) T.m_check_count T.F_check_count.kp T.b_check_count .nil pass0 (pa_cons (pv 1) (pa_cons pe_int (pa_cons (pe_callB (r := Evl.rLenS K) call_len_seq (by rfl) T.z_len (by decide +kernel) (pa_cons (pv 0) pa_nil)) pa_nil)))))
      (pss_cons (ps_set (i := 2) sc_endings.nd rfl (by first | exact Or.inl rfl | exact Or.inr rfl) pe_dnewK)
      (pss_cons (ps_for PassesOwn.never rfl (pi_range1 (by rfl) T.z_range (pa_cons (pv 1) pa_nil)) (pg_name (i := 3) sc_endings.nd rfl (by first | exact Or.inl rfl | exact Or.inr rfl))
      (pss_cons (ps_set (i := 4) sc_endings.nd rfl (by first | exact Or.inl rfl | exact Or.inr rfl) (pe_ix (r := rIxL K) ix_list (pe_call (ok_way_from T) (hr.mono (by decide)) (by rfl) T.m_way_from T.F_way_from.kp T.b_way_from .nil pass0 (pa_cons (pv 0) (pa_cons (pv 3) pa_nil))) (pe_un un_neg pe_int) (fun _ _ => rfl)))
      (pss_one (ps_dput (hu_of hr) (pv 2) (pv 4) (pe_op op_add (pe_dget2 (hu_of hr) (pv 2) (pv 4) pe_int ⟨by rfl, by rfl, by rfl, by rfl⟩) pe_int) rfl))))
      (pss_one (ps_ret (pe_lc (own := [("there", 4)]) (by rfl) sc_endings.nd (pi_list (pe_callB (r := rSortDI) (call_sortedDI rfl) (by rfl) T.z_sorted (by decide +kernel) (pa_cons (pv 2) pa_nil))) (blkOk_by (own := [("there", 4)]) (N := ["row", "many", "found", "place", "there"]) (sc := defScope s_endings) (by decide +kernel)) (fun _ _ _ _ _ => (pg_name (i := 4) sc_endings.nd rfl (by first | exact Or.inl rfl | exact Or.inr rfl))) (fun _ _ _ _ _ => pts_nil) (fun _ _ _ _ _ => (pe_tup (pa_cons (pv 4) (pa_cons (pe_dget (hu_of hr) (pv 2) (pv 4) (fun _ _ => rfl)) pa_nil))))))))))), ?_⟩
    have l60 := ok.l60
    refine q_drop (ev_call (ea_cons (ev_var rfl) ea_nil) (sv_check_row hS ok)) fun H1 e1 => ?_
    refine q_drop (ev_call (ea_cons (ev_var rfl) (ea_cons ev_c (ea_cons (ev_len (K := K) (ev_var rfl) (ex_l e1 hS)) ea_nil))) (sv_check_count (c := (many : Int)) (by omega) (by rw [vNs_len]; omega))) fun H2 e2 => ?_
    refine q_dnew fun f H3 nf e3 hf => ?_
    have e03 := (e1.trans e2).trans e3
    have nf0 : H f = none := fresh_back (e1.trans e2) nf
    have hlt := lasts_lt (row := row) h2
    refine q_forR1 (n := (many : Int)) (ea_cons (ev_var rfl) ea_nil) ⟨by omega, by omega⟩ (fun i σ' H' => ∃ y3 y4 kvs, σ' = [some (.ref a), some (vN many), some (.ref f), y3, y4] ∧ Ex H H' ∧ H' f = some (.dK kvs) ∧ Tal ((lastsL row many).take i) kvs)
      (fun H4 e4 => ⟨none, none, [], rfl, e03.trans e4, e4 f _ hf, by rw [List.take_zero]; exact Tal.nil⟩) ?_ ?_
    · rintro i σ' H4 hi ⟨y3, y4, kvs, rfl, e4, hf4, tal⟩
      have hi' : i < many := by omega
      have hlt4 : ∀ n ∈ (lastsL row many).take i, n < 60 := fun n hn => Nat.lt_of_lt_of_le (hlt n (List.mem_of_mem_take hn)) l60
      refine q_asg (v := vN (lastOf row i)) (ev_ixN (K := K) (el_call (ea_cons (ev_var rfl) (ea_cons (ev_var rfl) ea_nil)) (sl_way_from (p := i) (ex_l e4 hS) ok (by omega))) (ev_un ev_c ru_neg) (way_at row i)) fun H5 e5 => ?_
      have hf5 := e5 f _ hf4
      have hget : (valV kvs (Sum.inl ((lastOf row i : Nat) : Int))).getD (.int 0) = vN (((lastsL row many).take i).count (lastOf row i)) := by
        rw [tal.vals]
        split
        · rfl
        · rename_i hm
          rw [List.count_eq_zero.mpr hm]
          rfl
      refine s_dput (k := Sum.inl ((lastOf row i : Nat) : Int)) (v := vN (((lastsL row many).take i).count (lastOf row i) + 1)) hf5 (ev_to (ev_op (ev_to (ev_get2 (k := Sum.inl ((lastOf row i : Nat) : Int)) (ev_var rfl) hf5 (ev_var rfl) ev_c) hget) ev_c rv_I0) ?_) (ev_var rfl) (ev_var rfl) (by have := tal.len hlt4; omega) fun H6 e6 => ?_
      · show V.int _ = V.int _
        rw [Int.natCast_add]
        rfl
      · refine ⟨_, _, _, rfl, Ex.mut ((e4.trans e5).trans e6) nf0, upd_same, ?_⟩
        rw [lasts_take hi']
        exact tal.put _
    · rintro σ' H4 ⟨y3, y4, kvs, rfl, e4, hf4, tal⟩
      rw [Int.toNat_natCast, List.take_of_length_le (by rw [lasts_len]; exact Nat.le_refl _)] at tal
      have hlt60 : ∀ n ∈ lastsL row many, n < 60 := fun n hn => Nat.lt_of_lt_of_le (hlt n hn) l60
      generalize lastsL row many = l at *
      obtain ⟨ks, hk1, hk2, hk3⟩ := tal.keys
      have hkl := nodup_len 60 ks hk2 fun n hn => hlt60 n ((hk3 n).mp hn)
      refine s_retM (ds := endD l) ?_ (k.back e4)
      have em := em_mapN (K := K) (σ := [some (.ref a), some (vN many), some (.ref f), y3, y4]) (H := H4) (te := tTup (tCons (tVar 4) (tCons (tDGet (tVar 2) (tVar 4)) tNil))) (tl := tCB rSortDI (tCons (tVar 2) tNil)) (j := 4) (vs := [4]) (xs := vNs (riseL l)) (endG l) (el_sortD (ev_var rfl) hf4 hk1 (by omega) hk2 (rise_rise l) fun n => (hk3 n).trans (rise_mem hlt60 n)) (by rw [vNs_len]; have := rise_len l; omega) (fun x hx H5 e5 => by
        obtain ⟨n, hn, rfl⟩ := List.mem_map.mp hx
        have hnl : n ∈ l := (rise_mem hlt60 n).mpr hn
        exact en_tup (ena_cons (en_N (ev_var rfl)) (ena_cons (en_N (ev_dget (k := Sum.inl (n : Int)) (ev_var rfl) (e5 f _ hf4) (ev_var rfl) (by rw [tal.vals, if_pos hnl]; rfl))) ena_nil)) (show 2 ≤ 100000 by decide))
      rw [end_map] at em
      exact em
theorem sm_endings {H : Hp} {a : Addr} {row : List Nat} {many : Nat} (hS : SqL K H a (vNs row)) (ok : RowOk row) (h1 : 1 ≤ many) (h2 : many ≤ row.length) : SpM K (sp_endings K) ([.ref a, vN many] ++ []) H (endD (lastsL row many)) :=
  fun H1 e Q q E => ⟨a, row, many, rfl, ex_l e hS, ok, h1, h2, q⟩
end

section
variable {P : Program} {w : World} {K : PySem.W.Frag} {mg : Str → Option Value} {base : Heap}
theorem runL_lt {row : List Nat} {k : Nat} (h : 0 < row.length) : ∀ n ∈ runL row k, n < row.length := fun n hn => way_lt h n (List.mem_filter.mp hn).1
theorem runL_len (row : List Nat) (k : Nat) : (runL row k).length ≤ row.length + 1 := Nat.le_trans (List.length_filter_le ..) (way_len row 0)
theorem good_run {row : List Nat} {k : Nat} (h : 0 < row.length) (h60 : row.length ≤ 60) : Good (pdN (runL row k)) := good_N (fun n hn => by have := runL_lt h n hn; omega) (by have := runL_len row k; omega)
/-- some[0] if some != [] else None -/
theorem ev_head {σ : L2.St} {H : Hp} {i : Nat} {a : Addr} {l : List Nat} (hv : σ[i]? = some (some (.ref a))) (ha : SqL K H a (vNs l)) (g : Good (pdN l)) :
    Ev (tIf (tTest (tOp (rNeD K) (tVar i) (tLst tNil))) (tOp (rIxL K) (tVar i) (tC (.int 0))) (tC .non)) σ H (optV l.head?) := by
  cases l with
  | nil => exact ev_if (b := false) (evT_to (et_test (ev_neD (K := K) (ed_var hv (dp_N ha)) (en_lst ena_nil (show 0 ≤ 100000 by decide)).toD g.shaped (by decide +kernel))) (by decide +kernel)) (fun z => nomatch z) fun _ => ev_c
  | cons p r => exact ev_if (b := true) (evT_to (et_test (ev_neD (K := K) (ed_var hv (dp_N ha)) (en_lst ena_nil (show 0 ≤ 100000 by decide)).toD g.shaped (by decide +kernel))) rfl) (fun _ => ev_op (ev_var hv) ev_c (rv_ixL (K := K) ha (i := 0) (v := vN p) (atI_nat (j := 0) rfl))) (fun z => nomatch z)
def sp_run_by (K : PySem.W.Frag) : Sp := fun vs H Q _ => ∃ (a : Addr) (row : List Nat) (many : Nat), vs = [.ref a, vN many] ∧ SqL K H a (vNs row) ∧ RowOk row ∧ 1 ≤ many ∧ many ≤ row.length ∧ RetV (optV (runBy row many)) H Q
theorem ok_run_by (T : Tx K mg) : FnOk P w K mg base CX0 3 T.f_run_by T.d_run_by ["row", "many"] (sp_run_by K) := by
  refine T.F_run_by.ok sc_run_by (fun vs H Q E h => ?_) (fun cdv A outer s H vs Q E hr h => ?_)
  · obtain ⟨a, row, many, rfl, _⟩ := h
    rfl
  · obtain ⟨a, row, many, rfl, hS, ok, h1, h2, k⟩ := h
    refine ⟨_, (pss_cons (ps_expr (pe_call (ok_check_row T) hr (by rfl) T.m_check_row T.F_check_row.kp T.b_check_row .nil pass0 (pa_cons (pv 0) pa_nil)))
      (pss_cons (ps_expr (pe_call (ok_check_count T) hr (by rfl) T.m_check_count T.F_check_count.kp T.b_check_count .nil pass0 (pa_cons (pv 1) (pa_cons pe_int (pa_cons (pe_callB (r := Evl.rLenS K) call_len_seq (by rfl) T.z_len (by decide +kernel) (pa_cons (pv 0) pa_nil)) pa_nil)))))
      (pss_cons (ps_set (i := 2) sc_run_by.nd rfl (by first | exact Or.inl rfl | exact Or.inr rfl) (pe_call (ok_way_from T) (hr.mono (by decide)) (by rfl) T.m_way_from T.F_way_from.kp T.b_way_from .nil pass0 (pa_cons (pv 0) (pa_cons pe_int pa_nil))))
      (pss_cons (ps_for PassesOwn.never rfl (pi_range2 (by rfl) T.z_range (pa_cons pe_int (pa_cons (pv 1) pa_nil))) (pg_name (i := 3) sc_run_by.nd rfl (by first | exact Or.inl rfl | exact Or.inr rfl))
      (pss_cons (ps_set (i := 4) sc_run_by.nd rfl (by first | exact Or.inl rfl | exact Or.inr rfl) (pe_call (ok_way_from T) (hr.mono (by decide)) (by rfl) T.m_way_from T.F_way_from.kp T.b_way_from .nil pass0 (pa_cons (pv 0) (pa_cons (pv 3) pa_nil))))
      (pss_one (ps_setLc (i := 2) (own := [("there", 5)]) (by rfl) sc_run_by.nd rfl rfl (sw_true rfl rfl rfl (by decide +kernel)) (pi_list (pv 2)) (blkOk_by (own := [("there", 5)]) (N := ["row", "many", "some", "place", "mine", "there"]) (sc := defScope s_run_by) (by decide +kernel)) (fun _ _ _ _ _ => (pg_name (i := 5) sc_run_by.nd rfl (by first | exact Or.inl rfl | exact Or.inr rfl))) (fun _ _ _ _ _ => (pts_one (pt_cmpR (r := rIn K false) op_in_seq (pv 5) (pv 4) (by rfl)))) (fun _ _ _ _ _ => (pv 5))))))
      (pss_one (ps_ret (pe_ifExp (pt_cmpR (r := rNeD K) (op_neD hr.units) (pv 2) (pe_lst pa_nil) (nomark _)) (pe_ix (r := rIxL K) ix_list (pv 2) pe_int (fun _ _ => rfl)) pe_non))))))), ?_⟩
    have l1 := ok.l1
    have l60 := ok.l60
    refine q_drop (ev_call (ea_cons (ev_var rfl) ea_nil) (sv_check_row hS ok)) fun H1 e1 => ?_
    refine q_drop (ev_call (ea_cons (ev_var rfl) (ea_cons ev_c (ea_cons (ev_len (K := K) (ev_var rfl) (ex_l e1 hS)) ea_nil))) (sv_check_count (c := (many : Int)) (by omega) (by rw [vNs_len]; omega))) fun H2 e2 => ?_
    have e02 := e1.trans e2
    refine q_asgL (el_call (ea_cons (ev_var rfl) (ea_cons ev_c ea_nil)) (sl_way_from (p := 0) (ex_l e02 hS) ok (by omega))) fun so H3 nso e3 hso => ?_
    refine q_forR2 (lo := 1) (n := (many : Int)) (ea_cons ev_c (ea_cons (ev_var rfl) ea_nil)) ⟨by decide, by decide, by omega, by omega⟩ (fun i σ' H' => ∃ y3 y4 so, σ' = [some (.ref a), some (vN many), some (.ref so), y3, y4, none] ∧ Ex H H' ∧ H' so = some (.lst (vNs (runL row (i + 1)))))
      (fun H4 e4 => ⟨none, none, so, rfl, (e02.trans e3).trans e4, by rw [runL_one]; exact e4 so _ hso⟩) ?_ ?_
    · rintro i σ' H4 hi ⟨y3, y4, so, rfl, e4, hso4⟩
      have hb : ((1 : Int) + (i : Int)) = ((i + 1 : Nat) : Int) := by omega
      rw [hb]
      refine q_asgL (el_call (ea_cons (ev_var rfl) (ea_cons (ev_var rfl) ea_nil)) (sl_way_from (p := i + 1) (ex_l e4 hS) ok (by omega))) fun m H5 nm e5 hm => ?_
      have hso5 := e5 so _ hso4
      refine s_asgL (xs := vNs (runL row (i + 1 + 1))) (el_to (el_filtL (K := K) (fun x => inV x (vNs (way row (i + 1)))) (fun x => x) (ev_var rfl) (sq_of hso5) ?_ ?_ ?_) ?_) fun so2 H6 nso2 e6 hso6 => ⟨_, _, so2, rfl, (e4.trans e5).trans e6, hso6⟩
      · rw [vNs_len]
        have := runL_len row (i + 1)
        omega
      · intro x hx H6 e6
        obtain ⟨n, hn, rfl⟩ := List.mem_map.mp hx
        exact et_test (ev_op (ev_var rfl) (ev_var rfl) (rv_isL (K := K) (sq_of (e6 m _ hm)) rfl (flat_N _)))
      · intro x hx H6 e6 _
        exact ev_var rfl
      · rw [List.map_id', filt_N, runL_succ row (i + 1)]
    · rintro σ' H4 ⟨y3, y4, so, rfl, e4, hso4⟩
      have em : ((many : Int) - 1).toNat + 1 = many := by omega
      rw [em] at hso4
      exact s_ret (ev_head (K := K) rfl (sq_of hso4) (good_run (by omega) l60)) fun H5 e5 => k H5 (e4.trans e5)
theorem sv_run_by {H : Hp} {a : Addr} {row : List Nat} {many : Nat} (hS : SqL K H a (vNs row)) (ok : RowOk row) (h1 : 1 ≤ many) (h2 : many ≤ row.length) : SpV (sp_run_by K) ([.ref a, vN many] ++ []) H (optV (runBy row many)) :=
  fun H1 e Q q E => ⟨a, row, many, rfl, ex_l e hS, ok, h1, h2, q⟩
end

/-! ### the program: shares -/
section
variable {P : Program} {w : World} {K : PySem.W.Frag} {mg : Str → Option Value} {base : Heap}
def sp_power : Sp := fun vs H Q _ => ∃ b n : Nat, vs = [vN b, vN n] ∧ b ≤ 20 ∧ n ≤ 60 ∧ RetV (vN (b ^ n)) H Q
theorem ok_power (T : Tx K mg) : FnOk P w K mg base CX0 1 T.f_power T.d_power ["number", "many"] sp_power := by
  refine T.F_power.ok sc_power (fun vs H Q E h => ?_) (fun cdv A outer s H vs Q E hr h => ?_)
  · obtain ⟨b, n, rfl, _⟩ := h
    rfl
  · obtain ⟨b, n, rfl, hb, hn, k⟩ := h
    refine ⟨_, (pss_cons (ps_set (i := 2) sc_power.nd rfl (by first | exact Or.inl rfl | exact Or.inr rfl) pe_int)
      (pss_cons (ps_for PassesOwn.never rfl (pi_range1 (by rfl) T.z_range (pa_cons (pv 1) pa_nil)) (pg_name (i := 3) sc_power.nd rfl (by first | exact Or.inl rfl | exact Or.inr rfl))
      (pss_one (ps_set (i := 2) sc_power.nd rfl (by first | exact Or.inl rfl | exact Or.inr rfl) (pe_op op_mulX (pv 2) (pv 0)))))
      (pss_one (ps_ret (pv 2))))), ?_⟩
    refine q_asg (v := vN 1) ev_c fun H1 e1 => ?_
    refine q_forR1 (n := (n : Int)) (ea_cons (ev_var rfl) ea_nil) ⟨by omega, by omega⟩ (fun i σ' H' => ∃ y3, σ' = [some (vN b), some (vN n), some (vN (b ^ i)), y3] ∧ Ex H H') (fun H2 e2 => ⟨none, rfl, e1.trans e2⟩) ?_ ?_
    · rintro i σ' H2 hi ⟨y3, rfl, e2⟩
      refine s_asg (v := vN (b ^ (i + 1))) (ev_to (ev_op (ev_var rfl) (ev_var rfl) (rv_I (mulok_right (by omega) (by omega)))) ?_) fun H3 e3 => ⟨_, rfl, e2.trans e3⟩
      show V.int _ = V.int _
      rw [Nat.pow_succ, Int.natCast_mul]
    · rintro σ' H2 ⟨y3, rfl, e2⟩
      rw [Int.toNat_natCast]
      exact s_ret (ev_var rfl) fun H3 e3 => k H3 (e2.trans e3)
theorem sv_power {H : Hp} {b n : Nat} (hb : b ≤ 20) (hn : n ≤ 60) : SpV sp_power ([vN b, vN n] ++ []) H (vN (b ^ n)) := fun H1 e Q q E => ⟨b, n, rfl, hb, hn, q⟩
def sp_check_far : Sp := fun vs H Q _ => ∃ m far : Nat, vs = [vN m, vN far] ∧ far < m ∧ RetV .non H Q
theorem ok_check_far (T : Tx K mg) : FnOk P w K mg base CX0 2 T.f_check_far T.d_check_far ["many", "far"] sp_check_far := by
  refine T.F_check_far.ok sc_check_far (fun vs H Q E h => ?_) (fun cdv A outer s H vs Q E hr h => ?_)
  · obtain ⟨m, far, rfl, _⟩ := h
    rfl
  · obtain ⟨m, far, rfl, hf, k⟩ := h
    refine ⟨_, (pss_one (ps_if (PW.pt (pw_or (pt_not (pt_val (pe_call (ok_is_whole T) hr (by rfl) T.m_is_whole T.F_is_whole.kp T.b_is_whole .nil pass0 (pa_cons (pv 1) pa_nil)))) (pw_or1 (pt_not (pt_chain op_le op_lt pe_int (pv 1) (pv 0)))))) (pss_one ps_never) pss_nil)), ?_⟩
    refine s_when (b := false) (evT_to (et_or (et_not (et_B (ev_call (ea_cons (ev_var rfl) ea_nil) sv_is_whole))) fun _ =>
      et_not (et_test (ev_chain ev_c (ev_var rfl) rv_I0 (fun _ => ev_var rfl) fun _ => rv_I0))) ?_) (fun z => nomatch z) fun _ H1 e1 => k H1 e1
    rw [decide_eq_true (show (0 : Int) ≤ (far : Int) by omega), decide_eq_true (show (far : Int) < (m : Int) by omega)]
    rfl
theorem sv_check_far {H : Hp} {m far : Nat} (h : far < m) : SpV sp_check_far ([vN m, vN far] ++ []) H .non := fun H1 e Q q E => ⟨m, far, rfl, h, q⟩
structure ShOk (c m far : Nat) : Prop where
  c1 : 1 ≤ c
  c20 : c ≤ 20
  m1 : 1 ≤ m
  m60 : m ≤ 60
  fl : far < m
def sp_check_all : Sp := fun vs H Q _ => ∃ c m far : Nat, vs = [vN c, vN m, vN far] ∧ ShOk c m far ∧ RetV .non H Q
theorem ok_check_all (T : Tx K mg) : FnOk P w K mg base CX0 3 T.f_check_all T.d_check_all ["cards", "many", "far"] sp_check_all := by
  refine T.F_check_all.ok sc_check_all (fun vs H Q E h => ?_) (fun cdv A outer s H vs Q E hr h => ?_)
  · obtain ⟨c, m, far, rfl, _⟩ := h
    rfl
  · obtain ⟨c, m, far, rfl, ok, k⟩ := h
    refine ⟨_, (pss_cons (ps_expr (pe_call (ok_check_count T) hr (by rfl) T.m_check_count T.F_check_count.kp T.b_check_count .nil pass0 (pa_cons (pv 0) (pa_cons pe_int (pa_cons (pe_glob (v := .int 20) (by rfl) T.c_GREATEST.2 ⟨_, rfl⟩) pa_nil)))))
      (pss_cons (ps_expr (pe_call (ok_check_count T) hr (by rfl) T.m_check_count T.F_check_count.kp T.b_check_count .nil pass0 (pa_cons (pv 1) (pa_cons pe_int (pa_cons (pe_glob (v := .int 60) (by rfl) T.c_LONGEST.2 ⟨_, rfl⟩) pa_nil)))))
      (pss_one (ps_expr (pe_call (ok_check_far T) hr (by rfl) T.m_check_far T.F_check_far.kp T.b_check_far .nil pass0 (pa_cons (pv 1) (pa_cons (pv 2) pa_nil))))))), ?_⟩
    have h1 := ok.c1
    have h2 := ok.c20
    have h3 := ok.m1
    have h4 := ok.m60
    refine q_drop (ev_call (ea_cons (ev_var rfl) (ea_cons ev_c (ea_cons ev_c ea_nil))) (sv_check_count (c := (c : Int)) (by omega) (by omega))) fun H1 e1 => ?_
    refine q_drop (ev_call (ea_cons (ev_var rfl) (ea_cons ev_c (ea_cons ev_c ea_nil))) (sv_check_count (c := (m : Int)) (by omega) (by omega))) fun H2 e2 => ?_
    refine s_drop (ev_call (ea_cons (ev_var rfl) (ea_cons (ev_var rfl) ea_nil)) (sv_check_far ok.fl)) fun H3 e3 => k H3 ((e1.trans e2).trans e3)
theorem sv_check_all {H : Hp} {c m far : Nat} (ok : ShOk c m far) : SpV sp_check_all ([vN c, vN m, vN far] ++ []) H .non := fun H1 e Q q E => ⟨c, m, far, rfl, ok, q⟩
/-! the table of states -/
theorem min_int (a k : Nat) : V.int (if (a : Int) < (k : Int) then (a : Int) else (k : Int)) = vN (min k a) := by
  show V.int _ = V.int _
  congr 1
  split <;> omega
theorem gap_int (a k : Nat) : V.int (if (a : Int) - (k : Int) < 0 then -((a : Int) - (k : Int)) else (a : Int) - (k : Int)) = vN (gap a k) := by
  show V.int _ = V.int _
  congr 1
  unfold gap
  split <;> omega
def sp_states : Sp := fun vs H Q _ => ∃ c m far : Nat, vs = [vN c, vN m, vN far] ∧ ShOk c m far ∧ ∀ f fs H2, DictsAt H H2 f fs (tabS c m far m) m → Bd (tabS c m far m) (m * 1200) → Q (.ref f) H2
theorem ok_states (T : Tx K mg) : FnOk P w K mg base CX0 2 T.f_states T.d_states ["cards", "many", "far"] sp_states := by
  refine T.F_states.ok sc_states (fun vs H Q E h => ?_) (fun cdv A outer s H vs Q E hr h => ?_)
  · obtain ⟨c, m, far, rfl, _⟩ := h
    rfl
  · obtain ⟨c, m, far, rfl, ok, k⟩ := h
    refine ⟨_, (pss_cons (ps_setLc (i := 3) (own := [("place", 4)]) (by rfl) sc_states.nd rfl rfl (sw_true rfl rfl rfl (by decide +kernel)) (pi_range1 (by rfl) T.z_range (pa_cons (pv 1) pa_nil)) (blkOk_by (own := [("place", 4)]) (N := ["cards", "many", "far", "found", "place", "ahead", "often", "card", "there", "left", "free"]) (sc := defScope s_states) (by decide +kernel)) (fun _ _ _ _ _ => (pg_name (i := 4) sc_states.nd rfl (by first | exact Or.inl rfl | exact Or.inr rfl))) (fun _ _ _ _ _ => pts_nil) (fun _ _ _ _ _ => pe_dnewK))
      (pss_cons (ps_dput (hu_of hr) (pe_ix (r := rIxL K) ix_list (pv 3) pe_int (fun _ _ => rfl)) (pv 2) pe_int rfl)
      (pss_cons (ps_for PassesOwn.never rfl (pi_range1 (by rfl) T.z_range (pa_cons (pv 1) pa_nil)) (pg_name (i := 4) sc_states.nd rfl (by first | exact Or.inl rfl | exact Or.inr rfl))
      (pss_one (ps_for PassesOwn.never rfl (pi_list (pe_callB (r := rSortDI) (call_sortedDI rfl) (by rfl) T.z_sorted (by decide +kernel) (pa_cons (pe_ix (r := rIxL K) ix_list (pv 3) (pv 4) (fun _ _ => rfl)) pa_nil))) (pg_name (i := 5) sc_states.nd rfl (by first | exact Or.inl rfl | exact Or.inr rfl))
      (pss_cons (ps_set (i := 6) sc_states.nd rfl (by first | exact Or.inl rfl | exact Or.inr rfl) (pe_dget (hu_of hr) (pe_ix (r := rIxL K) ix_list (pv 3) (pv 4) (fun _ _ => rfl)) (pv 5) (fun _ _ => rfl)))
      (pss_one (ps_for PassesOwn.never rfl (pi_range2 (by rfl) T.z_range (pa_cons pe_int (pa_cons (pe_op op_add (pv 0) pe_int) pa_nil))) (pg_name (i := 7) sc_states.nd rfl (by first | exact Or.inl rfl | exact Or.inr rfl))
      (pss_cons (ps_par (i := 8) (j := 9) (by rfl) sc_states.nd rfl rfl (by decide) rfl rfl (pa_cons (pe_op op_add (pv 4) (pe_callB (call_min2 rfl) (by rfl) T.z_min (by decide +kernel) (pa_cons (pv 7) (pa_cons (pv 5) pa_nil)))) (pa_cons (pe_callB call_abs (by rfl) T.z_abs (by decide +kernel) (pa_cons (pe_op op_sub (pv 5) (pv 7)) pa_nil)) pa_nil)) (by rfl))
      (pss_one (ps_if (PW.pt (pw_and (pt_cmpR op_gt (pv 5) pe_int (nomark _)) (pw_and1 (pt_cmpR op_lt (pe_op op_add (pv 8) (pv 9)) (pv 1) (nomark _))))) (pss_cons (ps_set (i := 10) sc_states.nd rfl (by first | exact Or.inl rfl | exact Or.inr rfl) (pe_call (ok_power T) hr (by rfl) T.m_power T.F_power.kp T.b_power .nil pass0 (pa_cons (pv 0) (pa_cons (pe_op op_sub (pe_callB (call_min2 rfl) (by rfl) T.z_min (by decide +kernel) (pa_cons (pv 7) (pa_cons (pv 5) pa_nil))) pe_int) pa_nil))))
      (pss_one (ps_dput (hu_of hr) (pe_ix (r := rIxL K) ix_list (pv 3) (pv 8) (fun _ _ => rfl)) (pv 9) (pe_op op_add (pe_dget2 (hu_of hr) (pe_ix (r := rIxL K) ix_list (pv 3) (pv 8) (fun _ _ => rfl)) (pv 9) pe_int ⟨by rfl, by rfl, by rfl, by rfl⟩) (pe_op op_mulX (pv 6) (pv 10))) rfl))) pss_nil)))))))))
      (pss_one (ps_ret (pv 3)))))), ?_⟩
    have hc1 := ok.c1
    have hc20 := ok.c20
    have hm1 := ok.m1
    have hm60 := ok.m60
    have hfl := ok.fl
    refine q_dicts (n := m) (ea_cons (ev_var rfl) ea_nil) (by omega) fun f fs H1 d1 => ?_
    obtain ⟨a0, ha0, _⟩ := d1.at (p := 0) hm1
    obtain ⟨kv0, ks0, hk0, rp0⟩ := d1.tab 0 a0 ha0
    refine q_dput (k := Sum.inl (far : Int)) (v := vN 1) hk0 ev_c (ev_dict (K := K) d1 ha0 (ev_var rfl) ev_c) (ev_var rfl) (by have := rp0.len; omega) fun H2 e2 => ?_
    have d2 : DictsAt H (upd H2 a0 (.dK (putK kv0 (Sum.inl (far : Int)) (vN 1)))) f fs (initT far) m := by
      have := (d1.go e2).put (v := 1) ha0 (e2 a0 _ hk0) rp0 hfl
      have e : addT (fun _ _ => 0) 0 far 1 = initT far := by
        funext q l
        unfold addT initT
        split <;> rfl
      rw [e] at this
      exact this
    generalize upd H2 a0 (.dK (putK kv0 (Sum.inl (far : Int)) (vN 1))) = H3 at d2
    refine q_forR1 (n := (m : Int)) (ea_cons (ev_var rfl) ea_nil) ⟨by omega, by omega⟩
      (fun i σ' H' => ∃ y4 y5 y6 y7 y8 y9 y10, σ' = [some (vN c), some (vN m), some (vN far), some (.ref f), y4, y5, y6, y7, y8, y9, y10] ∧ DictsAt H H' f fs (tabS c m far i) m ∧ Bd (tabS c m far i) (i * 1200))
      (fun H4 e4 => ⟨none, none, none, none, none, none, none, rfl, d2.go e4, Bd.init far⟩) ?_ ?_
    · -- a place
      rintro p σ' H4 hp ⟨y4, y5, y6, y7, y8, y9, y10, rfl, d4, b4⟩
      have hp' : p < m := by omega
      obtain ⟨ap, hap, hapm⟩ := d4.at hp'
      obtain ⟨kv, ks, hkv, rp⟩ := d4.tab p ap hap
      generalize ht0 : tabS c m far p = t0 at d4 b4 rp
      have hks := nodup_len m ks rp.nd rp.lt
      generalize hrs : (List.range m).filter (fun a => decide (a ∈ ks)) = rs
      have rsr : rs.Pairwise (· < ·) := by
        rw [← hrs]
        exact List.pairwise_lt_range.filter _
      have rsm : ∀ n, n ∈ ks ↔ n ∈ rs := fun n => by
        rw [← hrs, List.mem_filter, decide_eq_true_iff, List.mem_range]
        exact ⟨fun z => ⟨rp.lt n z, z⟩, fun z => z.2⟩
      have rsl : rs.length ≤ m := by
        rw [← hrs]
        have := List.length_filter_le (fun a => decide (a ∈ ks)) (List.range m)
        rw [List.length_range] at this
        exact this
      refine s_forNL (K := K) (xs := vNs rs) (el_sortD (ev_dict (K := K) d4 hap (ev_var rfl) (ev_var rfl)) hkv rp.keys (by omega) rp.nd rsr rsm)
        (fun L i σ' H' => ∃ y5 y6 y7 y8 y9 y10, σ' = [some (vN c), some (vN m), some (vN far), some (.ref f), some (vN p), y5, y6, y7, y8, y9, y10] ∧ H' L = some (.lst (vNs rs)) ∧ L ∉ fs ∧ H' ap = some (.dK kv) ∧ DictsAt H H' f fs ((rs.take i).foldl (aheadS c m p) t0) m ∧ Bd ((rs.take i).foldl (aheadS c m p) t0) (p * 1200 + i * 20))
        (fun L H5 nL e5 hL => ⟨_, _, _, _, _, _, rfl, hL, ?_, e5 ap _ hkv, d4.go e5, b4⟩) (fun L i σ' H' _ ⟨_, _, _, _, _, _, _, h, _⟩ => sq_of h) ?_ ?_
      · intro z
        obtain ⟨ix, hix, hix2⟩ := List.getElem_of_mem z
        obtain ⟨kv2, ks2, h2, _⟩ := d4.tab ix L (by rw [List.getElem?_eq_getElem hix, hix2])
        rw [h2] at nL
        cases nL
      · -- a distance
        rintro L i x σ' H5 hx ⟨y5, y6, y7, y8, y9, y10, rfl, hL, nLf, hap5, d5, b5⟩
        obtain ⟨a, har, rfl⟩ := List.mem_map.mp (List.mem_of_getElem? hx)
        have hra : rs[i]? = some a := by
          unfold vNs at hx
          rw [List.getElem?_map] at hx
          cases e : rs[i]? with
          | none => rw [e] at hx; cases hx
          | some z =>
            rw [e] at hx
            have e2 : (z : Int) = (a : Int) := V.int.inj (Option.some.inj hx)
            rw [show z = a by omega]
        have hak : a ∈ ks := (rsm a).mpr har
        have ham : a < m := rp.lt a hak
        have hil : i < rs.length := (List.getElem?_eq_some_iff.mp hra).1
        generalize ht1 : (rs.take i).foldl (aheadS c m p) t0 = t1 at d5 b5
        have hta : t1 p a = t0 p a := by
          rw [← ht1]
          exact aheadF_old (Nat.le_refl p) _ _
        show tSeq _ _ _ _ _
        refine q_asg (v := vN (t1 p a)) (ev_dget (k := Sum.inl (a : Int)) (ev_dict (K := K) d5 hap (ev_var rfl) (ev_var rfl)) hap5 (ev_var rfl) (by rw [rp.vals, if_pos hak, hta])) fun H6 e6 => ?_
        have d6 := d5.go e6
        refine s_forR2 (lo := 1) (n := (c : Int) + 1) (ea_cons ev_c (ea_cons (ev_op (ev_var rfl) ev_c rv_I0) ea_nil)) ⟨by decide, by decide, by omega, by omega⟩
          (fun n σ' H' => ∃ y7 y8 y9 y10, σ' = [some (vN c), some (vN m), some (vN far), some (.ref f), some (vN p), some (vN a), some (vN (t1 p a)), y7, y8, y9, y10] ∧ H' L = some (.lst (vNs rs)) ∧ H' ap = some (.dK kv) ∧ DictsAt H H' f fs (cardsS c m p a (t1 p a) t1 n) m ∧ Bd (cardsS c m p a (t1 p a) t1 n) (p * 1200 + i * 20 + n))
          (fun H7 e7 => ⟨_, _, _, _, rfl, e7 L _ (e6 L _ hL), e7 ap _ (e6 ap _ hap5), d6.go e7, b5⟩) ?_ ?_
        · -- a card
          rintro n σ' H7 hn ⟨y7, y8, y9, y10, rfl, hL7, hap7, d7, b7⟩
          have hb : ((1 : Int) + (n : Int)) = ((n + 1 : Nat) : Int) := by omega
          rw [hb]
          generalize ht2 : cardsS c m p a (t1 p a) t1 n = t2 at d7 b7
          have hwb : t1 p a < 2 ^ (90 * (p * 1200 + i * 20 + n) + 1) := (b5.mono (by omega)) p a
          have b8 : Bd (cardS c m p a (t1 p a) t2 (n + 1)) (p * 1200 + i * 20 + n + 1) := b7.card hwb hc20 (by omega)
          have hnx : cardsS c m p a (t1 p a) t1 (n + 1) = cardS c m p a (t1 p a) t2 (n + 1) := by rw [cardsS_succ, ht2]
          refine q_par (x := vN (p + min (n + 1) a)) (y := vN (gap a (n + 1))) (ea_cons (ev_to (ev_op (ev_var rfl) (ev_to (ev_min2 (ev_var rfl) (ev_var rfl)) (min_int a (n + 1))) rv_I0) ?_) (ea_cons (ev_to (ev_abs (ev_op (ev_var rfl) (ev_var rfl) rv_I0)) (gap_int a (n + 1))) ea_nil)) fun H8 e8 => ?_
          · show V.int _ = V.int _
            rw [Int.natCast_add]
          have d8 := d7.go e8
          refine s_when (b := decide (0 < a ∧ (p + min (n + 1) a) + gap a (n + 1) < m)) (evT_to (et_and (et_test (ev_op (ev_var rfl) ev_c rv_I0)) fun _ => et_test (ev_op (ev_op (ev_var rfl) (ev_var rfl) rv_I0) (ev_var rfl) rv_I0)) ?_) (fun hbb H9 e9 => ?_) fun hbb H9 e9 => ?_
          · rw [Bool.eq_iff_iff, Bool.and_eq_true, decide_eq_true_iff, decide_eq_true_iff, decide_eq_true_iff]
            constructor
            · rintro ⟨h1, h2⟩
              exact ⟨by omega, by omega⟩
            · rintro ⟨h1, h2⟩
              exact ⟨by omega, by omega⟩
          · obtain ⟨ha0', hqm⟩ := of_decide_eq_true hbb
            have d9 := d8.go e9
            have e29 := e8.trans e9
            refine q_asg (v := vN (c ^ (min (n + 1) a - 1))) (ev_call (ea_cons (ev_var rfl) (ea_cons (ev_to (ev_op (ev_to (ev_min2 (ev_var rfl) (ev_var rfl)) (min_int a (n + 1))) ev_c rv_I0) (w := vN (min (n + 1) a - 1)) ?_) ea_nil)) (sv_power hc20 (by omega))) fun H10 e10 => ?_
            · show V.int _ = V.int _
              rw [show ((min (n + 1) a : Nat) : Int) - 1 = ((min (n + 1) a - 1 : Nat) : Int) by omega]
            have d10 := d9.go e10
            obtain ⟨aq, haq, haqm⟩ := d10.at (p := p + min (n + 1) a) (by omega)
            obtain ⟨kvq, ksq, hkq, rpq⟩ := d10.tab _ aq haq
            have hne : aq ≠ ap := fun z => by
              subst z
              have := nd_ix d10.nd haq hap
              omega
            have hlm : gap a (n + 1) < m := by omega
            refine s_dput (k := Sum.inl ((gap a (n + 1) : Nat) : Int)) (v := vN (t2 (p + min (n + 1) a) (gap a (n + 1)) + t1 p a * c ^ (min (n + 1) a - 1))) hkq (ev_to (ev_op (ev_to (ev_get2 (k := Sum.inl ((gap a (n + 1) : Nat) : Int)) (ev_dict (K := K) d10 haq (ev_var rfl) (ev_var rfl)) hkq (ev_var rfl) ev_c) (rpq.get _)) (ev_op (ev_var rfl) (ev_var rfl) (rv_I (mulok_bits ?_))) rv_I0) ?_) (ev_dict (K := K) d10 haq (ev_var rfl) (ev_var rfl)) (ev_var rfl) (by have := rpq.len; omega) fun H11 e11 => ?_
            · have w1 : Builtin.Int.intBits ((t1 p a : Nat) : Int) ≤ 90 * (p * 1200 + i * 20 + n) + 1 := bits_of_lt (by rw [Int.natAbs_natCast]; exact hwb)
              have w2 : Builtin.Int.intBits ((c ^ (min (n + 1) a - 1) : Nat) : Int) ≤ 83 := bits_of_lt (by rw [Int.natAbs_natCast]; exact pow_bd hc20 (by omega))
              omega
            · show V.int _ = V.int _
              rw [Int.natCast_add, Int.natCast_mul]
            · have dN := (d10.go e11).put (v := t1 p a * c ^ (min (n + 1) a - 1)) haq (e11 aq _ hkq) rpq hlm
              have nLq : L ≠ aq := fun z => nLf (by rw [z]; exact haqm)
              refine ⟨_, _, _, _, rfl, ?_, ?_, ?_, ?_⟩
              · rw [upd_ne nLq]
                exact e11 L _ (e10 L _ (e29 L _ hL7))
              · rw [upd_ne (Ne.symm hne)]
                exact e11 ap _ (e10 ap _ (e29 ap _ hap7))
              · rw [hnx]
                unfold cardS
                rw [if_pos ⟨ha0', hqm⟩]
                exact dN
              · rw [hnx]
                exact b8
          · have hno := of_decide_eq_false hbb
            have e29 := e8.trans e9
            refine ⟨_, _, _, _, rfl, e29 L _ hL7, e29 ap _ hap7, ?_, ?_⟩
            · rw [hnx]
              unfold cardS
              rw [if_neg hno]
              exact d7.go e29
            · rw [hnx]
              exact b8
        · rintro σ' H7 ⟨y7, y8, y9, y10, rfl, hL7, hap7, d7, b7⟩
          have ec : ((c : Int) + 1 - 1).toNat = c := by omega
          rw [ec] at d7 b7
          refine ⟨_, _, _, _, _, _, rfl, hL7, nLf, hap7, ?_, ?_⟩
          · rw [foldl_take (aheadS c m p) t0 hra, ht1]
            exact d7
          · rw [foldl_take (aheadS c m p) t0 hra, ht1]
            exact b7.mono (by omega)
      · rintro L σ' H5 ⟨y5, y6, y7, y8, y9, y10, rfl, hL, nLf, hap5, d5, b5⟩
        rw [vNs_len, List.take_length] at d5 b5
        have ef : rs.foldl (aheadS c m p) t0 = tabS c m far (p + 1) := by
          rw [tabS_succ, ht0, ← hrs]
          exact aheadF_keys (fun a => decide (a ∈ ks)) (List.range m) t0 fun a ha => rp.zero a (of_decide_eq_false ha)
        rw [ef] at d5 b5
        exact ⟨_, _, _, _, _, _, _, rfl, d5, b5.mono (by omega)⟩
    · rintro σ' H4 ⟨y4, y5, y6, y7, y8, y9, y10, rfl, d4, b4⟩
      rw [Int.toNat_natCast] at d4 b4
      exact s_ret (ev_var rfl) fun H5 e5 => k f fs H5 (d4.go e5) b4
end

section
variable {P : Program} {w : World} {K : PySem.W.Frag} {mg : Str → Option Value} {base : Heap}
theorem pow260 {c n : Nat} (hc : c ≤ 20) (hn : n ≤ 60) : c ^ n < 2 ^ 260 := by
  have h1 : c ^ n ≤ 20 ^ n := Nat.pow_le_pow_left hc n
  have h2 : 20 ^ n ≤ 20 ^ 60 := Nat.pow_le_pow_right (by decide) hn
  have h3 : (20 : Nat) ^ 60 < 2 ^ 260 := by decide
  omega
def sp_meetings : Sp := fun vs H Q _ => ∃ c m far : Nat, vs = [vN c, vN m, vN far] ∧ ShOk c m far ∧ RetL (vNs (meetL c m far)) H Q
theorem ok_meetings_of (T : Tx K mg) : FnOk P w K mg base CX0 3 T.f_meetings_of T.d_meetings_of ["cards", "many", "far"] sp_meetings := by
  refine T.F_meetings_of.ok sc_meetings_of (fun vs H Q E h => ?_) (fun cdv A outer s H vs Q E hr h => ?_)
  · obtain ⟨c, m, far, rfl, _⟩ := h
    rfl
  · obtain ⟨c, m, far, rfl, ok, k⟩ := h
    refine ⟨_, (pss_cons (ps_set (i := 3) sc_meetings_of.nd rfl (by first | exact Or.inl rfl | exact Or.inr rfl) (pe_call (ok_states T) hr (by rfl) T.m_states T.F_states.kp T.b_states .nil pass0 (pa_cons (pv 0) (pa_cons (pv 1) (pa_cons (pv 2) pa_nil)))))
      (pss_one (ps_ret (pe_lc (own := [("place", 4)]) (by rfl) sc_meetings_of.nd (pi_range1 (by rfl) T.z_range (pa_cons (pv 1) pa_nil)) (blkOk_by (own := [("place", 4)]) (N := ["cards", "many", "far", "found", "place"]) (sc := defScope s_meetings_of) (by decide +kernel)) (fun _ _ _ _ _ => (pg_name (i := 4) sc_meetings_of.nd rfl (by first | exact Or.inl rfl | exact Or.inr rfl))) (fun _ _ _ _ _ => pts_nil) (fun _ _ _ _ _ => (pe_op op_mulX (pe_dget2 (hu_of hr) (pe_ix (r := rIxL K) ix_list (pv 3) (pv 4) (fun _ _ => rfl)) pe_int pe_int ⟨by rfl, by rfl, by rfl, by rfl⟩) (pe_call (ok_power T) (hr.mono (by decide)) (by rfl) T.m_power T.F_power.kp T.b_power .nil pass0 (pa_cons (pv 0) (pa_cons (pe_op op_sub (pv 1) (pv 4)) pa_nil))))))))), ?_⟩
    have hm60 := ok.m60
    refine ⟨vN c, rfl, vN m, rfl, vN far, rfl, c, m, far, rfl, ok, fun f fs H1 d1 b1 => ?_⟩
    refine s_retL (xs := vNs (meetL c m far)) (el_to (el_mapR (n := m) (fun q => vN (tabS c m far m q 0 * c ^ (m - q))) (ea_cons (ev_var rfl) ea_nil) (by omega) ?_) ?_) fun p H2 np e2 hp => k p H2 (fresh_back d1.ex np) (d1.ex.trans e2) hp
    · intro q hq H2 e2
      have d2 := d1.go e2
      obtain ⟨a, ha, _⟩ := d2.at hq
      obtain ⟨kv, ks, hk, rp⟩ := d2.tab q a ha
      refine ev_to (ev_op (ev_to (ev_get2 (k := Sum.inl ((0 : Nat) : Int)) (ev_dict (K := K) d2 ha (ev_var rfl) (ev_var rfl)) hk ev_c ev_c) (rp.get 0)) (ev_call (ea_cons (ev_var rfl) (ea_cons (ev_to (ev_op (ev_var rfl) (ev_var rfl) rv_I0) (w := vN (m - q)) ?_) ea_nil)) (sv_power ok.c20 (by omega))) (rv_I (mulok_bits ?_))) ?_
      · show V.int _ = V.int _
        rw [show ((m : Int) - (q : Int)) = ((m - q : Nat) : Int) by omega]
      · have w1 : Builtin.Int.intBits ((tabS c m far m q 0 : Nat) : Int) ≤ 90 * (m * 1200) + 1 := bits_of_lt (by rw [Int.natAbs_natCast]; exact b1 q 0)
        have w2 : Builtin.Int.intBits ((c ^ (m - q) : Nat) : Int) ≤ 260 := bits_of_lt (by rw [Int.natAbs_natCast]; exact pow260 ok.c20 (by omega))
        omega
      · show V.int _ = V.int _
        rw [Int.natCast_mul]
    · unfold meetL vNs
      rw [List.map_map]
      rfl
theorem sl_meetings {H : Hp} {c m far : Nat} (ok : ShOk c m far) : SpL sp_meetings ([vN c, vN m, vN far] ++ []) H (vNs (meetL c m far)) := fun H1 e Q q E => ⟨c, m, far, rfl, ok, q⟩
theorem ok_meetings (T : Tx K mg) : FnOk P w K mg base CX0 4 T.f_meetings T.d_meetings ["cards", "many", "far"] sp_meetings := by
  refine T.F_meetings.ok sc_meetings (fun vs H Q E h => ?_) (fun cdv A outer s H vs Q E hr h => ?_)
  · obtain ⟨c, m, far, rfl, _⟩ := h
    rfl
  · obtain ⟨c, m, far, rfl, ok, k⟩ := h
    refine ⟨_, (pss_cons (ps_expr (pe_call (ok_check_all T) hr (by rfl) T.m_check_all T.F_check_all.kp T.b_check_all .nil pass0 (pa_cons (pv 0) (pa_cons (pv 1) (pa_cons (pv 2) pa_nil)))))
      (pss_one (ps_ret (pe_call (ok_meetings_of T) hr (by rfl) T.m_meetings_of T.F_meetings_of.kp T.b_meetings_of .nil pass0 (pa_cons (pv 0) (pa_cons (pv 1) (pa_cons (pv 2) pa_nil))))))), ?_⟩
    refine q_drop (ev_call (ea_cons (ev_var rfl) (ea_cons (ev_var rfl) (ea_cons (ev_var rfl) ea_nil))) (sv_check_all ok)) fun H1 e1 => ?_
    exact s_retL (el_call (ea_cons (ev_var rfl) (ea_cons (ev_var rfl) (ea_cons (ev_var rfl) ea_nil))) (sl_meetings ok)) fun p H2 np e2 hp => k p H2 (fresh_back e1 np) (e1.trans e2) hp
end

section
variable {P : Program} {w : World} {K : PySem.W.Frag} {mg : Str → Option Value} {base : Heap}
def sp_common : Sp := fun vs H Q _ => ∃ a b : Nat, vs = [vN a, vN b] ∧ RetV (vN (Nat.gcd a b)) H Q
theorem gcd_turn (x y : Nat) : Nat.gcd y (x % y) = Nat.gcd x y := by
  rw [Nat.gcd_comm x y, Nat.gcd_rec y x, Nat.gcd_comm]
theorem ok_common (T : Tx K mg) : FnOk P w K mg base CX0 1 T.f_common T.d_common ["one", "other"] sp_common := by
  refine T.F_common.ok sc_common (fun vs H Q E h => ?_) (fun cdv A outer s H vs Q E hr h => ?_)
  · obtain ⟨a, b, rfl, _⟩ := h
    rfl
  · obtain ⟨a, b, rfl, k⟩ := h
    refine ⟨_, (pss_cons (ps_while PassesOwn.never (pt_cmpR op_gt (pv 1) pe_int (nomark _))
      (pss_one (ps_par (i := 0) (j := 1) (by rfl) sc_common.nd rfl rfl (by decide) rfl rfl (pa_cons (pv 1) (pa_cons (pe_op op_mod (pv 0) (pv 1)) pa_nil)) (by rfl))))
      (pss_one (ps_ret (pv 0)))), ?_⟩
    refine q_while (fun n σ H' => ∃ x y : Nat, σ = [some (vN x), some (vN y)] ∧ Nat.gcd x y = Nat.gcd a b ∧ Ex H H' ∧ n = y) b ⟨a, b, rfl, rfl, Ex.refl H, rfl⟩ ?_
    rintro n σ' H' ⟨x, y, rfl, hg, ex, rfl⟩
    refine ⟨decide ((0 : Int) < (n : Int)), et_test (ev_op (ev_var rfl) ev_c rv_I0), fun hb H2 e2 => ?_, fun hb H2 e2 => ?_⟩
    · have hn : 0 < n := by
        have := of_decide_eq_true hb
        omega
      refine ⟨fun σ3 H3 => σ3 = [some (vN n), some (vN (x % n))] ∧ Ex H H3, fun σ3 H3 ⟨e3, x3⟩ => ⟨x % n, Nat.mod_lt _ hn, n, x % n, e3, by rw [gcd_turn]; exact hg, x3, rfl⟩, ?_⟩
      refine s_par (x := vN n) (y := vN (x % n)) (ea_cons (ev_var rfl) (ea_cons (ev_to (ev_op (ev_var rfl) (ev_var rfl) (rv_I (show (0 : Int) < (n : Int) by omega))) ?_) ea_nil)) fun H3 e3 => ⟨rfl, (ex.trans e2).trans e3⟩
      show V.int _ = V.int _
      rw [Int.natCast_emod]
    · have hn : n = 0 := by
        have := of_decide_eq_false hb
        omega
      subst hn
      rw [Nat.gcd_zero_right] at hg
      subst hg
      exact s_ret (ev_var rfl) fun H3 e3 => k H3 ((ex.trans e2).trans e3)
theorem sv_common {H : Hp} {a b : Nat} : SpV sp_common ([vN a, vN b] ++ []) H (vN (Nat.gcd a b)) := fun H1 e Q q E => ⟨a, b, rfl, q⟩
def shTop (c m far : Nat) : Nat := (meetL c m far).sum / Nat.gcd (meetL c m far).sum (c ^ m)
def shBot (c m far : Nat) : Nat := c ^ m / Nat.gcd (meetL c m far).sum (c ^ m)
def sp_share : Sp := fun vs H Q _ => ∃ c m far : Nat, vs = [vN c, vN m, vN far] ∧ ShOk c m far ∧ RetU [vN (shTop c m far), vN (shBot c m far)] H Q
theorem vN_div (a b : Nat) : V.int ((a : Int) / (b : Int)) = vN (a / b) := by
  show V.int _ = V.int _
  rw [Int.natCast_ediv]
theorem ok_share (T : Tx K mg) : FnOk P w K mg base CX0 4 T.f_share T.d_share ["cards", "many", "far"] sp_share := by
  refine T.F_share.ok sc_share (fun vs H Q E h => ?_) (fun cdv A outer s H vs Q E hr h => ?_)
  · obtain ⟨c, m, far, rfl, _⟩ := h
    rfl
  · obtain ⟨c, m, far, rfl, ok, k⟩ := h
    refine ⟨_, (pss_cons (ps_expr (pe_call (ok_check_all T) hr (by rfl) T.m_check_all T.F_check_all.kp T.b_check_all .nil pass0 (pa_cons (pv 0) (pa_cons (pv 1) (pa_cons (pv 2) pa_nil)))))
      (pss_cons (ps_par (i := 3) (j := 4) (by rfl) sc_share.nd rfl rfl (by decide) rfl rfl (pa_cons (pe_callB (r := rSum K) (cr_sum rfl) (by rfl) T.z_sum (by decide +kernel) (pa_cons (pe_call (ok_meetings_of T) hr (by rfl) T.m_meetings_of T.F_meetings_of.kp T.b_meetings_of .nil pass0 (pa_cons (pv 0) (pa_cons (pv 1) (pa_cons (pv 2) pa_nil)))) pa_nil)) (pa_cons (pe_call (ok_power T) (hr.mono (by decide)) (by rfl) T.m_power T.F_power.kp T.b_power .nil pass0 (pa_cons (pv 0) (pa_cons (pv 1) pa_nil))) pa_nil)) (by rfl))
      (pss_cons (ps_set (i := 5) sc_share.nd rfl (by first | exact Or.inl rfl | exact Or.inr rfl) (pe_call (ok_common T) (hr.mono (by decide)) (by rfl) T.m_common T.F_common.kp T.b_common .nil pass0 (pa_cons (pv 3) (pa_cons (pv 4) pa_nil))))
      (pss_one (ps_ret (pe_tup (pa_cons (pe_op op_fdivW (pv 3) (pv 5)) (pa_cons (pe_op op_fdivW (pv 4) (pv 5)) pa_nil)))))))), ?_⟩
    refine q_drop (ev_call (ea_cons (ev_var rfl) (ea_cons (ev_var rfl) (ea_cons (ev_var rfl) ea_nil))) (sv_check_all ok)) fun H1 e1 => ?_
    refine q_par (ea_cons (ev_sumN (K := K) (el_call (ea_cons (ev_var rfl) (ea_cons (ev_var rfl) (ea_cons (ev_var rfl) ea_nil))) (sl_meetings ok))) (ea_cons (ev_call (ea_cons (ev_var rfl) (ea_cons (ev_var rfl) ea_nil)) (sv_power ok.c20 ok.m60)) ea_nil)) fun H2 e2 => ?_
    refine q_asg (ev_call (ea_cons (ev_var rfl) (ea_cons (ev_var rfl) ea_nil)) sv_common) fun H3 e3 => ?_
    have hpos : 0 < c ^ m := Nat.pow_pos ok.c1
    have hg0 : 0 < Nat.gcd (meetL c m far).sum (c ^ m) := Nat.gcd_pos_of_pos_right _ hpos
    have hgl : Nat.gcd (meetL c m far).sum (c ^ m) < 2 ^ 260 := Nat.lt_of_le_of_lt (Nat.le_of_dvd hpos (Nat.gcd_dvd_right _ _)) (pow260 ok.c20 ok.m60)
    have hdv : ∀ i : Int, CDivW i ((Nat.gcd (meetL c m far).sum (c ^ m) : Nat) : Int) := fun i => wide_div (b := 260) (by omega) (by rw [Int.natAbs_natCast]; exact hgl) (by decide) (by decide)
    refine s_retU (xs := [vN (shTop c m far), vN (shBot c m far)]) (eu_tup (ea_cons (ev_to (ev_op (ev_var rfl) (ev_var rfl) (rv_I (hdv _))) (vN_div _ _)) (ea_cons (ev_to (ev_op (ev_var rfl) (ev_var rfl) (rv_I (hdv _))) (vN_div _ _)) ea_nil)) (show 2 ≤ 100000 by decide)) fun p H4 np e4 hp => k p H4 (fresh_back ((e1.trans e2).trans e3) np) (((e1.trans e2).trans e3).trans e4) hp
theorem su_share {H : Hp} {c m far : Nat} (ok : ShOk c m far) : SpU sp_share ([vN c, vN m, vN far] ++ []) H [vN (shTop c m far), vN (shBot c m far)] := fun H1 e Q q E => ⟨c, m, far, rfl, ok, q⟩
end

/-! ### refused: a distance that is none -/
section
variable {P : Program} {w : World} {K : PySem.W.Frag} {mg : Str → Option Value} {base : Heap}
def spX_check_far (T : Tx K mg) : Sp := fun vs H _ E => ∃ m far : Nat, vs = [vN m, vN far] ∧ m ≤ far ∧ ∀ H', Ex H H' → E (.ref T.a_BadFar) none H'
theorem okX_check_far (T : Tx K mg) : FnOk P w K mg base (L2.CX P w) 2 T.f_check_far T.d_check_far ["many", "far"] (spX_check_far T) := by
  refine T.F_check_far.okX sc_check_far (fun vs H Q E h => ?_) (fun cdv A outer s H vs Q E hr h => ?_)
  · obtain ⟨m, far, rfl, _⟩ := h
    rfl
  · obtain ⟨m, far, rfl, hf, k⟩ := h
    refine ⟨_, (pss_one (ps_if (PW.pt (pw_or (pt_not (pt_val (pe_call (ok_is_whole T) hr (by rfl) T.m_is_whole T.F_is_whole.kp T.b_is_whole .nil pass0 (pa_cons (pv 1) pa_nil)))) (pw_or1 (pt_not (pt_chain op_le op_lt pe_int (pv 1) (pv 0)))))) (pss_one (ps_raise rfl (takes_of rfl rfl rfl rfl) (pmk_own PySem.F.excBase_ValueError T.x_BadFar T.m_BadFar T.kc_BadFar (raises_own T.bx_BadFar T.tx_BadFar) (by exact rfl)))) pss_nil)), ?_⟩
    refine s_when (b := true) (evT_to (et_or (et_not (et_B (ev_call (ea_cons (ev_var rfl) ea_nil) sv_is_whole))) fun _ =>
      et_not (et_test (ev_chain ev_c (ev_var rfl) rv_I0 (fun _ => ev_var rfl) fun _ => rv_I0))) ?_) (fun _ H1 e1 => ?_) fun z => nomatch z
    · rw [decide_eq_true (show (0 : Int) ≤ (far : Int) by omega), decide_eq_false (show ¬ (far : Int) < (m : Int) by omega)]
      rfl
    · exact k H1 e1
theorem s_dropX {σ : L2.St} {H : Hp} {D : Ends} {sp : Sp} {E : L2.St → XK} {ta : TA} {vs : List V} (h : EvA ta σ H vs) (hs : ∀ H1, Ex H H1 → ∀ Q : VK, sp vs H1 Q (E σ)) : tDrop (tCallS sp E ta) D σ H := h H (Ex.refl H) _ fun H1 e => hs H1 e _
theorem q_dropX {σ : L2.St} {H : Hp} {D : Ends} {tz : TS} {sp : Sp} {E : L2.St → XK} {ta : TA} {vs : List V} (h : EvA ta σ H vs) (hs : ∀ H1, Ex H H1 → ∀ Q : VK, sp vs H1 Q (E σ)) : tSeq (tDrop (tCallS sp E ta)) tz D σ H := h H (Ex.refl H) _ fun H1 e => hs H1 e _
theorem s_retX {σ : L2.St} {H : Hp} {D : Ends} {r : R2} {tb : TE} {sp : Sp} {E : L2.St → XK} {ta : TA} {vs : List V} (h : EvA ta σ H vs) (hs : ∀ H1, Ex H H1 → ∀ Q : VK, sp vs H1 Q (E σ)) : tRet (tOp r (tCallS sp E ta) tb) D σ H := h H (Ex.refl H) _ fun H1 e => hs H1 e _
def spX_far (T : Tx K mg) : Sp := fun vs H _ E => ∃ c m far : Nat, vs = [vN c, vN m, vN far] ∧ 1 ≤ c ∧ c ≤ 20 ∧ 1 ≤ m ∧ m ≤ 60 ∧ m ≤ far ∧ ∀ H', Ex H H' → E (.ref T.a_BadFar) none H'
theorem okX_check_all (T : Tx K mg) : FnOk P w K mg base (L2.CX P w) 3 T.f_check_all T.d_check_all ["cards", "many", "far"] (spX_far T) := by
  refine T.F_check_all.okX sc_check_all (fun vs H Q E h => ?_) (fun cdv A outer s H vs Q E hr h => ?_)
  · obtain ⟨c, m, far, rfl, _⟩ := h
    rfl
  · obtain ⟨c, m, far, rfl, h1, h2, h3, h4, hf, k⟩ := h
    refine ⟨_, (pss_cons (ps_expr (pe_call (ok_check_count T) hr (by rfl) T.m_check_count T.F_check_count.kp T.b_check_count .nil pass0 (pa_cons (pv 0) (pa_cons pe_int (pa_cons (pe_glob (v := .int 20) (by rfl) T.c_GREATEST.2 ⟨_, rfl⟩) pa_nil)))))
      (pss_cons (ps_expr (pe_call (ok_check_count T) hr (by rfl) T.m_check_count T.F_check_count.kp T.b_check_count .nil pass0 (pa_cons (pv 1) (pa_cons pe_int (pa_cons (pe_glob (v := .int 60) (by rfl) T.c_LONGEST.2 ⟨_, rfl⟩) pa_nil)))))
      (pss_one (ps_expr (pe_callS (okX_check_far T) hr (by rfl) T.m_check_far T.F_check_far.kp T.b_check_far (fun σ => passAt (takes_of rfl rfl rfl rfl) σ) (pa_cons (pv 1) (pa_cons (pv 2) pa_nil))))))), ?_⟩
    refine q_drop (ev_call (ea_cons (ev_var rfl) (ea_cons ev_c (ea_cons ev_c ea_nil))) (sv_check_count (c := (c : Int)) (by omega) (by omega))) fun H1 e1 => ?_
    refine q_drop (ev_call (ea_cons (ev_var rfl) (ea_cons ev_c (ea_cons ev_c ea_nil))) (sv_check_count (c := (m : Int)) (by omega) (by omega))) fun H2 e2 => ?_
    exact s_dropX (ea_cons (ev_var rfl) (ea_cons (ev_var rfl) ea_nil)) fun H3 e3 Q2 => ⟨m, far, rfl, hf, fun H4 e4 => k H4 (((e1.trans e2).trans e3).trans e4)⟩
theorem okX_meetings (T : Tx K mg) : FnOk P w K mg base (L2.CX P w) 4 T.f_meetings T.d_meetings ["cards", "many", "far"] (spX_far T) := by
  refine T.F_meetings.okX sc_meetings (fun vs H Q E h => ?_) (fun cdv A outer s H vs Q E hr h => ?_)
  · obtain ⟨c, m, far, rfl, _⟩ := h
    rfl
  · obtain ⟨c, m, far, rfl, h1, h2, h3, h4, hf, k⟩ := h
    refine ⟨_, (pss_cons (ps_expr (pe_callS (okX_check_all T) hr (by rfl) T.m_check_all T.F_check_all.kp T.b_check_all (fun σ => passAt (takes_of rfl rfl rfl rfl) σ) (pa_cons (pv 0) (pa_cons (pv 1) (pa_cons (pv 2) pa_nil)))))
      (PSs.nox (pss_one (ps_ret (pe_call (ok_meetings_of T) hr (by rfl) T.m_meetings_of T.F_meetings_of.kp T.b_meetings_of .nil pass0 (pa_cons (pv 0) (pa_cons (pv 1) (pa_cons (pv 2) pa_nil)))))))), ?_⟩
    exact q_dropX (ea_cons (ev_var rfl) (ea_cons (ev_var rfl) (ea_cons (ev_var rfl) ea_nil))) fun H1 e1 Q2 => ⟨c, m, far, rfl, h1, h2, h3, h4, hf, fun H2 e2 => k H2 (e1.trans e2)⟩
end

/-! ### the law: ways -/
section
variable {K : PySem.W.Frag} {σ : L2.St} {H : Hp} {D : Ends} {tu tz : TS} {ta tb tl te : TE}
theorem q_neN {l : List Nat} (h1 : EvL ta σ H (vNs l)) (h2 : EvL tb σ H (vNs l)) (k : ∀ H1, Ex H H1 → tz D σ H1) : tSeq (tIfS (tTest (tOp (rNeD K) ta tb)) tu tNext) tz D σ H :=
  q_when (b := false) (evT_to (et_test (ev_neD (K := K) (en_Ns h1).toD (en_Ns h2).toD (shN _) (shN _))) (by rw [reflN]; rfl)) (fun z => nomatch z) fun _ => k
theorem q_neV {v : V} (h1 : Ev ta σ H v) (h2 : Ev tb σ H v) (hs : scal v v = true) (k : ∀ H1, Ex H H1 → tz D σ H1) : tSeq (tIfS (tTest (tOp rNe ta tb)) tu tNext) tz D σ H :=
  q_when (b := false) (evT_to (et_test (ev_op h1 h2 (rv_ne hs))) (by rw [decide_eq_true rfl]; rfl)) (fun z => nomatch z) fun _ => k
theorem q_neD {d : PyData} (h1 : EvD K ta σ H d) (h2 : EvD K tb σ H d) (hs : SeqAt.shaped d = true) (hr : PyData.eqv d d = true) (k : ∀ H1, Ex H H1 → tz D σ H1) : tSeq (tIfS (tTest (tOp (rNeD K) ta tb)) tu tNext) tz D σ H :=
  q_when (b := false) (evT_to (et_test (ev_neD (K := K) h1 h2 hs hs)) (by rw [hr]; rfl)) (fun z => nomatch z) fun _ => k
/-- [data for x in xs], xs a list that stands -/
theorem em_mapV {a : Addr} {xs : List V} {j : Nat} {vs : List Nat} (g : V → PyData) (h : Ev tl σ H (.ref a)) (hx : SqL K H a xs) (hz : xs.length ≤ 40000)
    (he : ∀ x ∈ xs, ∀ H1, Ex H H1 → EvN K te ((wipe σ vs).set j (some x)) H1 (g x)) (hw : ∀ x, wipe ((wipe σ vs).set j (some x)) vs = wipe σ vs := by intro _; rfl) :
    EvM K (tLc (iList K tl) (gName j) tYes te vs) σ H (xs.map g) := fun H0 e Q q =>
  h H0 e _ fun H1 e1 => ⟨a, rfl, ⟨xs, ex_l (e.trans e1) hx⟩, fun L hL => lc_list (xs := xs) (Dw K H1 L (xs.map g)) (dw_start hL) (fun i H' _ p => ex_l ((e.trans e1).trans p.2.1) hx) (fun i x H' hi p =>
      ⟨hw x, dw_turn (d := g x) p (by rw [List.getElem?_map, hi]; rfl) (by rw [List.length_map]; omega) (he x (List.mem_of_getElem? hi) H' ((e.trans e1).trans p.2.1))⟩)
    (fun H' p => dw_end e1 (by rw [List.length_map]; exact p) q)⟩
end
section
variable {P : Program} {w : World} {K : PySem.W.Frag} {mg : Str → Option Value} {base : Heap}
def sp_card : Sp := fun vs H Q _ => ∃ c : Nat, vs = [vN c] ∧ 1 ≤ c ∧ c ≤ 20 ∧ RetV (.bl true) H Q
theorem sv_card {H : Hp} {c : Nat} (h1 : 1 ≤ c) (h2 : c ≤ 20) : SpV sp_card ([vN c] ++ []) H (.bl true) := fun H1 e Q q E => ⟨c, rfl, h1, h2, q⟩
theorem rg_alike : ∀ c : Nat, c < 21 → 1 ≤ c → ∀ p : Nat, p < 60 → Builtin.Range.small ((p : Int) - (p : Int) / (c : Int) * (c : Int)) ((p : Int) + 1) (c : Int) = true ∧ Builtin.Range.rangeSize ((p : Int) - (p : Int) / (c : Int) * (c : Int)) ((p : Int) + 1) (c : Int) = ((p / c + 1 : Nat) : Int) := by decide +kernel
def alikeG (c : Nat) : V → PyData
  | .int i => .tuple [.int i, .int ((i.toNat / c + 1 : Nat) : Int)]
  | _ => .none
theorem ok__law_long_right (T : Tx K mg) : FnOk P w K mg base CX0 4 T.f__law_long_right T.d__law_long_right ["_law_card"] sp_card := by
  refine T.F__law_long_right.ok sc__law_long_right (fun vs H Q E h => ?_) (fun cdv A outer s H vs Q E hr h => ?_)
  · obtain ⟨c, rfl, _⟩ := h
    rfl
  · obtain ⟨c, rfl, h1, h2, k⟩ := h
    refine ⟨_, (pss_cons (ps_set (i := 1) sc__law_long_right.nd rfl (by first | exact Or.inl rfl | exact Or.inr rfl) (pe_op op_rep (pe_lst (pa_cons (pv 0) pa_nil)) pe_int))
      (pss_cons (ps_setLc (i := 2) (own := [("_law_at", 3)]) (by rfl) sc__law_long_right.nd rfl rfl (sw_true rfl rfl rfl (by decide +kernel)) (pi_range1 (by rfl) T.z_range (pa_cons pe_int pa_nil)) (blkOk_by (own := [("_law_at", 3)]) (N := ["_law_card", "_law_long", "_law_ends", "_law_at"]) (sc := defScope s__law_long_right) (by decide +kernel)) (fun _ _ _ _ _ => (pg_name (i := 3) sc__law_long_right.nd rfl (by first | exact Or.inl rfl | exact Or.inr rfl))) (fun _ _ _ _ _ => (pts_one (pt_cmpR op_gt (pe_op op_add (pv 3) (pv 0)) pe_int (nomark _)))) (fun _ _ _ _ _ => (pv 3)))
      (pss_cons (ps_if (pt_cmpR (r := rNeD K) (op_neD hr.units) (pe_call (ok_endings T) hr (by rfl) T.m_endings T.F_endings.kp T.b_endings .nil pass0 (pa_cons (pv 1) (pa_cons pe_int pa_nil))) (pe_lc (own := [("_law_at", 3)]) (by rfl) sc__law_long_right.nd (pi_list (pv 2)) (blkOk_by (own := [("_law_at", 3)]) (N := ["_law_card", "_law_long", "_law_ends", "_law_at"]) (sc := defScope s__law_long_right) (by decide +kernel)) (fun _ _ _ _ _ => (pg_name (i := 3) sc__law_long_right.nd rfl (by first | exact Or.inl rfl | exact Or.inr rfl))) (fun _ _ _ _ _ => pts_nil) (fun _ _ _ _ _ => (pe_tup (pa_cons (pv 3) (pa_cons (pe_lenRg3 (by rfl) T.z_len (by rfl) T.z_range (pa_cons (pe_op op_sub (pv 3) (pe_op op_mulX (pe_op op_fdivW (pv 3) (pv 0)) (pv 0))) (pa_cons (pe_op op_add (pv 3) pe_int) (pa_cons (pv 0) pa_nil)))) pa_nil))))) (nomark _)) (pss_one (ps_ret pe_bl)) pss_nil)
      (pss_one (ps_ret (pe_cmpR op_eq (pe_call (ok_run_by T) hr (by rfl) T.m_run_by T.F_run_by.kp T.b_run_by .nil pass0 (pa_cons (pe_op op_rep (pe_lst (pa_cons pe_int pa_nil)) pe_int) (pa_cons pe_int pa_nil))) pe_int (nomark _))))))), ?_⟩
    have c60 : ∀ (c : Nat) {te : TE} {σ : L2.St} {H : Hp}, Ev te σ H (vN c) → EvL (tOp rRep (tLst (tCons te tNil)) (tC (.int 60))) σ H (vNs (List.replicate 60 c)) := fun c {te σ H} h => el_to (el_rep (k := 60) (el_lst (ea_cons h ea_nil) (show 1 ≤ 100000 by decide)) ev_c (show 60 ≤ 100000 by decide) (by decide)) (by
      show (List.replicate 60 [vN c]).flatten = (List.replicate 60 c).map vN
      rw [List.map_replicate]
      exact List.flatten_replicate_singleton)
    refine q_asgL (c60 c (ev_var rfl)) fun lo H1 nlo e1 hlo => ?_
    refine q_asgL (xs := vNs (endsL c)) (el_to (el_lcR1 (n := 60) (fun p => decide (59 < p + c)) (fun p => vN p) (ea_cons ev_c ea_nil) ⟨by decide, by decide⟩ (fun _ => rfl) (fun p H2 e2 hp => evT_to (et_test (ev_op (ev_op (ev_var rfl) (ev_var rfl) rv_I0) ev_c rv_I0)) ?_) fun p H2 e2 hp _ => ev_var rfl) ?_) fun en H2 nen e2 hen => ?_
    · exact decide_eq_decide.mpr (by omega)
    · show given 60 _ _ = _
      unfold given endsL vNs
      rfl
    have rk := rok60 h1 h2
    have ha := lasts_alike h1
    have hr1 := alike_rise c (by omega) h1
    have hc1 := alike_count c (by omega) h1
    have hel : (endsL c).length ≤ 60 := by
      unfold endsL
      have := List.length_filter_le (fun p => decide (59 < p + c)) (List.range 60)
      rw [List.length_range] at this
      exact this
    have hds : endD (lastsL (List.replicate 60 c) 60) = (vNs (endsL c)).map (alikeG c) := by
      rw [ha]
      show (riseL (alikeL c)).map (endP (alikeL c)) = _
      rw [hr1]
      unfold vNs
      rw [List.map_map]
      refine List.map_congr_left fun p hp => ?_
      show PyData.tuple [.int (p : Int), .int (((alikeL c).count p : Nat) : Int)] = PyData.tuple [.int (p : Int), .int ((p / c + 1 : Nat) : Int)]
      rw [hc1 p hp]
    have ge := good_end (row := List.replicate 60 c) (many := 60) (by rw [List.length_replicate]; exact Nat.le_refl _) (by rw [List.length_replicate]; exact Nat.le_refl _)
    refine q_neD (d := .list (endD (lastsL (List.replicate 60 c) 60))) (em_call (ea_cons (ev_var rfl) (ea_cons ev_c ea_nil)) (sm_endings (K := K) (many := 60) (sq_of (e2 lo _ hlo)) rk (by decide) (by rw [List.length_replicate]; exact Nat.le_refl _))).toN.toD ?_ ge.shaped ge.refl fun H3 e3 => ?_
    · rw [hds]
      refine (em_mapV (K := K) (alikeG c) (ev_var rfl) (sq_of hen) (by rw [vNs_len]; omega) fun x hx H3 e3 => ?_).toN.toD
      obtain ⟨p, hp, rfl⟩ := List.mem_map.mp hx
      have hp60 : p < 60 := List.mem_range.mp (List.mem_filter.mp hp).1
      obtain ⟨s1, s2⟩ := rg_alike c (by omega) h1 p hp60
      have hdv : CDivW (p : Int) (c : Int) := wide_div (b := 12) (by omega) (by rw [Int.natAbs_natCast]; omega) (by decide) (by decide)
      exact en_tup (ena_cons (en_N (ev_var rfl)) (ena_cons (en_N (ev_lenRg3 (n := p / c + 1) (ea_cons (ev_op (ev_var rfl) (ev_op (ev_op (ev_var rfl) (ev_var rfl) (rv_I hdv)) (ev_var rfl) (rv_I (mulok_right (by omega) (by omega)))) rv_I0) (ea_cons (ev_op (ev_var rfl) ev_c rv_I0) (ea_cons (ev_var rfl) ea_nil))) ⟨by omega, by rw [Int.natAbs_natCast]; omega, s1, s2⟩ (by have := Nat.div_le_self p c; omega))) ena_nil)) (show 2 ≤ 100000 by decide)
    exact s_ret (v := .bl true) (ev_to (ev_op (ev_to (ev_callL (c60 1 ev_c) (ea_cons ev_c ea_nil) fun p H4 _ hp => sv_run_by (K := K) (row := List.replicate 60 1) (many := 60) (sq_of hp) (rok60 (by decide) (by decide)) (by decide) (by decide)) (w := vN 59) (by rw [run_60]; rfl)) ev_c (rv_eq rfl)) (by decide)) fun H4 e4 => k H4 (((e1.trans e2).trans e3).trans e4)
theorem ok__law_ways_right (T : Tx K mg) : FnOk P w K mg base CX0 5 T.f__law_ways_right T.d__law_ways_right ["_law_card"] sp_card := by
  refine T.F__law_ways_right.ok sc__law_ways_right (fun vs H Q E h => ?_) (fun cdv A outer s H vs Q E hr h => ?_)
  · obtain ⟨c, rfl, _⟩ := h
    rfl
  · obtain ⟨c, rfl, h1, h2, k⟩ := h
    refine ⟨_, (pss_cons (ps_if (pt_cmpR (r := rNeD K) (op_neD hr.units) (pe_call (ok_way T) (hr.mono (by decide)) (by rfl) T.m_way T.F_way.kp T.b_way .nil pass0 (pa_cons (pe_lst (pa_cons (pv 0) pa_nil)) (pa_cons pe_int pa_nil))) (pe_lst (pa_cons pe_int pa_nil)) (nomark _)) (pss_one (ps_ret pe_bl)) pss_nil)
      (pss_cons (ps_if (pt_cmpR op_ne (pe_call (ok_last T) (hr.mono (by decide)) (by rfl) T.m_last T.F_last.kp T.b_last .nil pass0 (pa_cons (pe_lst (pa_cons (pv 0) pa_nil)) (pa_cons pe_int pa_nil))) pe_int (nomark _)) (pss_one (ps_ret pe_bl)) pss_nil)
      (pss_cons (ps_if (pt_cmpR (r := rNeD K) (op_neD hr.units) (pe_call (ok_way T) (hr.mono (by decide)) (by rfl) T.m_way T.F_way.kp T.b_way .nil pass0 (pa_cons (pe_lst (pa_cons pe_int (pa_cons (pv 0) pa_nil))) (pa_cons pe_int pa_nil))) (pe_lst (pa_cons pe_int (pa_cons pe_int pa_nil))) (nomark _)) (pss_one (ps_ret pe_bl)) pss_nil)
      (pss_cons (ps_if (pt_cmpR (r := rNeD K) (op_neD hr.units) (pe_call (ok_way T) (hr.mono (by decide)) (by rfl) T.m_way T.F_way.kp T.b_way .nil pass0 (pa_cons (pe_lst (pa_cons pe_int (pa_cons (pv 0) pa_nil))) (pa_cons pe_int pa_nil))) (pe_lst (pa_cons pe_int pa_nil)) (nomark _)) (pss_one (ps_ret pe_bl)) pss_nil)
      (pss_cons (ps_if (pt_cmpR op_ne (pe_call (ok_last T) (hr.mono (by decide)) (by rfl) T.m_last T.F_last.kp T.b_last .nil pass0 (pa_cons (pe_lst (pa_cons pe_int (pa_cons pe_int (pa_cons pe_int pa_nil)))) (pa_cons pe_int pa_nil))) pe_int (nomark _)) (pss_one (ps_ret pe_bl)) pss_nil)
      (pss_cons (ps_set (i := 1) sc__law_ways_right.nd rfl (by first | exact Or.inl rfl | exact Or.inr rfl) (pe_lst (pa_cons pe_int (pa_cons pe_int (pa_cons pe_int (pa_cons pe_int (pa_cons (pv 0) pa_nil)))))))
      (pss_cons (ps_if (pt_cmpR (r := rNeD K) (op_neD hr.units) (pe_call (ok_way T) (hr.mono (by decide)) (by rfl) T.m_way T.F_way.kp T.b_way .nil pass0 (pa_cons (pv 1) (pa_cons pe_int pa_nil))) (pe_lst (pa_cons pe_int (pa_cons pe_int (pa_cons pe_int pa_nil)))) (nomark _)) (pss_one (ps_ret pe_bl)) pss_nil)
      (pss_cons (ps_if (pt_cmpR (r := rNeD K) (op_neD hr.units) (pe_call (ok_way T) (hr.mono (by decide)) (by rfl) T.m_way T.F_way.kp T.b_way .nil pass0 (pa_cons (pv 1) (pa_cons pe_int pa_nil))) (pe_lst (pa_cons pe_int pa_nil)) (nomark _)) (pss_one (ps_ret pe_bl)) pss_nil)
      (pss_cons (ps_if (pt_cmpR (r := rNeD K) (op_neD hr.units) (pe_lc (own := [("_law_at", 2)]) (by rfl) sc__law_ways_right.nd (pi_range1 (by rfl) T.z_range (pa_cons pe_int pa_nil)) (blkOk_by (own := [("_law_at", 2)]) (N := ["_law_card", "_law_row", "_law_at"]) (sc := defScope s__law_ways_right) (by decide +kernel)) (fun _ _ _ _ _ => (pg_name (i := 2) sc__law_ways_right.nd rfl (by first | exact Or.inl rfl | exact Or.inr rfl))) (fun _ _ _ _ _ => pts_nil) (fun _ _ _ _ _ => (pe_call (ok_last T) (hr.mono (by decide)) (by rfl) T.m_last T.F_last.kp T.b_last .nil pass0 (pa_cons (pv 1) (pa_cons (pv 2) pa_nil))))) (pe_lst (pa_cons pe_int (pa_cons pe_int (pa_cons pe_int (pa_cons pe_int (pa_cons pe_int pa_nil)))))) (nomark _)) (pss_one (ps_ret pe_bl)) pss_nil)
      (pss_cons (ps_if (pt_cmpR (r := rNeD K) (op_neD hr.units) (pe_call (ok_endings T) (hr.mono (by decide)) (by rfl) T.m_endings T.F_endings.kp T.b_endings .nil pass0 (pa_cons (pv 1) (pa_cons pe_int pa_nil))) (pe_lst (pa_cons (pe_tup (pa_cons pe_int (pa_cons pe_int pa_nil))) (pa_cons (pe_tup (pa_cons pe_int (pa_cons pe_int pa_nil))) pa_nil))) (nomark _)) (pss_one (ps_ret pe_bl)) pss_nil)
      (pss_cons (ps_if (pt_cmpR (r := rNeD K) (op_neD hr.units) (pe_call (ok_endings T) (hr.mono (by decide)) (by rfl) T.m_endings T.F_endings.kp T.b_endings .nil pass0 (pa_cons (pv 1) (pa_cons pe_int pa_nil))) (pe_lst (pa_cons (pe_tup (pa_cons pe_int (pa_cons pe_int pa_nil))) pa_nil)) (nomark _)) (pss_one (ps_ret pe_bl)) pss_nil)
      (pss_cons (ps_if (pt_cmpR (r := rNeD K) (op_neD hr.units) (pe_call (ok_endings T) (hr.mono (by decide)) (by rfl) T.m_endings T.F_endings.kp T.b_endings .nil pass0 (pa_cons (pe_lst (pa_cons (pv 0) pa_nil)) (pa_cons pe_int pa_nil))) (pe_lst (pa_cons (pe_tup (pa_cons pe_int (pa_cons pe_int pa_nil))) pa_nil)) (nomark _)) (pss_one (ps_ret pe_bl)) pss_nil)
      (pss_cons (ps_if (pt_cmpR op_ne (pe_call (ok_run_by T) (hr.mono (by decide)) (by rfl) T.m_run_by T.F_run_by.kp T.b_run_by .nil pass0 (pa_cons (pv 1) (pa_cons pe_int pa_nil))) pe_int (nomark _)) (pss_one (ps_ret pe_bl)) pss_nil)
      (pss_cons (ps_if (pt_cmpR op_notN (pe_call (ok_run_by T) (hr.mono (by decide)) (by rfl) T.m_run_by T.F_run_by.kp T.b_run_by .nil pass0 (pa_cons (pv 1) (pa_cons pe_int pa_nil))) pe_non (nomark _)) (pss_one (ps_ret pe_bl)) pss_nil)
      (pss_cons (ps_if (pt_cmpR op_ne (pe_call (ok_run_by T) (hr.mono (by decide)) (by rfl) T.m_run_by T.F_run_by.kp T.b_run_by .nil pass0 (pa_cons (pv 1) (pa_cons pe_int pa_nil))) pe_int (nomark _)) (pss_one (ps_ret pe_bl)) pss_nil)
      (pss_cons (ps_if (pt_cmpR op_ne (pe_call (ok_run_by T) (hr.mono (by decide)) (by rfl) T.m_run_by T.F_run_by.kp T.b_run_by .nil pass0 (pa_cons (pv 1) (pa_cons pe_int pa_nil))) pe_int (nomark _)) (pss_one (ps_ret pe_bl)) pss_nil)
      (pss_cons (ps_if (pt_cmpR op_ne (pe_call (ok_run_by T) (hr.mono (by decide)) (by rfl) T.m_run_by T.F_run_by.kp T.b_run_by .nil pass0 (pa_cons (pe_lst (pa_cons (pv 0) pa_nil)) (pa_cons pe_int pa_nil))) pe_int (nomark _)) (pss_one (ps_ret pe_bl)) pss_nil)
      (pss_one (ps_ret (pe_call (ok__law_long_right T) hr (by rfl) T.m__law_long_right T.F__law_long_right.kp T.b__law_long_right .nil pass0 (pa_cons (pv 0) pa_nil))))))))))))))))))))), ?_⟩
    obtain ⟨f1, f2, f3, f4, f5, f6⟩ := hand_ways c (by omega) h1
    obtain ⟨g1, g2, g3, g4⟩ := hand_lasts c (by omega) h1
    obtain ⟨r1, r2, r3, r4, r5⟩ := hand_runs c (by omega) h1
    have lc : ∀ {σ : L2.St} {H : Hp}, σ[0]? = some (some (vN c)) → EvL (tLst (tCons (tVar 0) tNil)) σ H (vNs [c]) := fun h => el_lst (ea_cons (ev_var h) ea_nil) (show 1 ≤ 100000 by decide)
    have l2 : ∀ {b : Nat} {σ : L2.St} {H : Hp}, σ[0]? = some (some (vN c)) → EvL (tLst (tCons (tC (vN b)) (tCons (tVar 0) tNil))) σ H (vNs [b, c]) := fun h => el_lst (ea_cons ev_c (ea_cons (ev_var h) ea_nil)) (show 2 ≤ 100000 by decide)
    have l1 : ∀ {b : Nat} {σ : L2.St} {H : Hp}, EvL (tLst (tCons (tC (vN b)) tNil)) σ H (vNs [b]) := el_lst (ea_cons ev_c ea_nil) (show 1 ≤ 100000 by decide)
    have lk := rok1 h1 h2
    refine q_neN (l := [0]) (el_to (el_callL (lc rfl) (ea_cons ev_c ea_nil) fun p H1 _ hp => sl_way_from (K := K) (row := [c]) (p := 0) (sq_of hp) lk (by show 0 < 1; decide)) (by rw [f1])) l1 fun H1 e1 => ?_
    refine q_neV (v := vN 0) (ev_to (ev_callL (lc rfl) (ea_cons ev_c ea_nil) fun p H2 _ hp => sv_last (K := K) (row := [c]) (p := 0) (sq_of hp) lk (by show 0 < 1; decide)) (by rw [f2])) ev_c rfl fun H2 e2 => ?_
    refine q_neN (l := [0, 1]) (el_to (el_callL (l2 rfl) (ea_cons ev_c ea_nil) fun p H1 _ hp => sl_way_from (K := K) (row := [1, c]) (p := 0) (sq_of hp) (rok2 h1 h2 (by decide)) (by show 0 < 2; decide)) (by rw [f3])) (el_lst (ea_cons ev_c (ea_cons ev_c ea_nil)) (show 2 ≤ 100000 by decide)) fun H3 e3 => ?_
    refine q_neN (l := [0]) (el_to (el_callL (l2 rfl) (ea_cons ev_c ea_nil) fun p H1 _ hp => sl_way_from (K := K) (row := [2, c]) (p := 0) (sq_of hp) (rok2 h1 h2 (by decide)) (by show 0 < 2; decide)) (by rw [f4])) l1 fun H4 e4 => ?_
    refine q_neV (v := vN 2) (ev_to (ev_callL (el_lst (vs := vNs [1, 1, 1]) (ea_cons ev_c (ea_cons ev_c (ea_cons ev_c ea_nil))) (show 3 ≤ 100000 by decide)) (ea_cons ev_c ea_nil) fun p H2 _ hp => sv_last (K := K) (row := [1, 1, 1]) (p := 0) (sq_of hp) ⟨by decide, by decide, by decide, by decide⟩ (by decide)) (by rw [last_111])) ev_c rfl fun H5 e5 => ?_
    refine q_asgL (xs := vNs [2, 1, 1, 5, c]) (el_lst (ea_cons ev_c (ea_cons ev_c (ea_cons ev_c (ea_cons ev_c (ea_cons (ev_var rfl) ea_nil))))) (show 5 ≤ 100000 by decide)) fun ro H6 nro e6 hro => ?_
    have rk := rok5 h1 h2
    have hlen5 : ([2, 1, 1, 5, c] : List Nat).length = 5 := rfl
    refine q_neN (l := [0, 2, 3]) (el_to (el_call (ea_cons (ev_var rfl) (ea_cons ev_c ea_nil)) (sl_way_from (K := K) (row := [2, 1, 1, 5, c]) (p := 0) (sq_of hro) rk (by rw [hlen5]; decide))) (by rw [f5])) (el_lst (ea_cons ev_c (ea_cons ev_c (ea_cons ev_c ea_nil))) (show 3 ≤ 100000 by decide)) fun H7 e7 => ?_
    have h7 := e7 ro _ hro
    refine q_neN (l := [4]) (el_to (el_call (ea_cons (ev_var rfl) (ea_cons ev_c ea_nil)) (sl_way_from (K := K) (row := [2, 1, 1, 5, c]) (p := 4) (sq_of h7) rk (by rw [hlen5]; decide))) (by rw [f6])) l1 fun H8 e8 => ?_
    have h8 := e8 ro _ h7
    refine q_neN (l := [3, 3, 3, 3, 4]) (el_to (el_mapR (n := 5) (fun p => vN (lastOf [2, 1, 1, 5, c] p)) (ea_cons ev_c ea_nil) (by decide) fun p hp H9 e9 => ev_call (ea_cons (ev_var rfl) (ea_cons (ev_var rfl) ea_nil)) (sv_last (K := K) (row := [2, 1, 1, 5, c]) (p := p) (sq_of (e9 ro _ h8)) rk (by rw [hlen5]; exact hp))) ?_) (el_lst (ea_cons ev_c (ea_cons ev_c (ea_cons ev_c (ea_cons ev_c (ea_cons ev_c ea_nil))))) (show 5 ≤ 100000 by decide)) fun H9 e9 => ?_
    · rw [← g1]
      unfold vNs
      rw [List.map_map]
      rfl
    have h9 := e9 ro _ h8
    have pair : ∀ {x y : Int} {σ : L2.St} {H : Hp}, EvN K (tTup (tCons (tC (.int x)) (tCons (tC (.int y)) tNil))) σ H (.tuple [.int x, .int y]) := fun {x y σ H} => en_tup (ena_cons (en_int ev_c) (ena_cons (en_int ev_c) ena_nil)) (show 2 ≤ 100000 by decide)
    refine q_neD (d := .list [.tuple [.int 3, .int 4], .tuple [.int 4, .int 1]]) (ed_to (em_call (ea_cons (ev_var rfl) (ea_cons ev_c ea_nil)) (sm_endings (K := K) (row := [2, 1, 1, 5, c]) (many := 5) (sq_of h9) rk (by decide) (by rw [hlen5]; decide))).toN.toD ?_) (en_lst (ena_cons pair (ena_cons pair ena_nil)) (show 2 ≤ 100000 by decide)).toD (by decide +kernel) (by decide +kernel) fun H10 e10 => ?_
    · rw [g2]
      rfl
    have h10 := e10 ro _ h9
    refine q_neD (d := .list [.tuple [.int 3, .int 1]]) (ed_to (em_call (ea_cons (ev_var rfl) (ea_cons ev_c ea_nil)) (sm_endings (K := K) (row := [2, 1, 1, 5, c]) (many := 1) (sq_of h10) rk (by decide) (by rw [hlen5]; decide))).toN.toD ?_) (en_lst (ena_cons pair ena_nil) (show 1 ≤ 100000 by decide)).toD (by decide +kernel) (by decide +kernel) fun H11 e11 => ?_
    · rw [g3]
      rfl
    have h11 := e11 ro _ h10
    refine q_neD (d := .list [.tuple [.int 0, .int 1]]) (ed_to (em_callL (lc rfl) (ea_cons ev_c ea_nil) fun p H12 _ hp => sm_endings (K := K) (row := [c]) (many := 1) (sq_of hp) lk (by decide) (by show 1 ≤ 1; decide)).toN.toD ?_) (en_lst (ena_cons pair ena_nil) (show 1 ≤ 100000 by decide)).toD (by decide +kernel) (by decide +kernel) fun H12 e12 => ?_
    · rw [g4]
      rfl
    have h12 := e12 ro _ h11
    refine q_neV (v := vN 3) (ev_to (ev_call (ea_cons (ev_var rfl) (ea_cons ev_c ea_nil)) (sv_run_by (K := K) (row := [2, 1, 1, 5, c]) (many := 4) (sq_of h12) rk (by decide) (by rw [hlen5]; decide))) (by rw [r1]; rfl)) ev_c rfl fun H13 e13 => ?_
    have h13 := e13 ro _ h12
    refine q_when (b := false) (evT_to (et_test (ev_op (ev_to (ev_call (ea_cons (ev_var rfl) (ea_cons ev_c ea_nil)) (sv_run_by (K := K) (row := [2, 1, 1, 5, c]) (many := 5) (sq_of h13) rk (by decide) (by rw [hlen5]; decide))) (w := .non) (by rw [r2]; rfl)) ev_c rv_notN)) (by decide)) (fun z => nomatch z) fun _ H14 e14 => ?_
    have h14 := e14 ro _ h13
    refine q_neV (v := vN 0) (ev_to (ev_call (ea_cons (ev_var rfl) (ea_cons ev_c ea_nil)) (sv_run_by (K := K) (row := [2, 1, 1, 5, c]) (many := 1) (sq_of h14) rk (by decide) (by rw [hlen5]; decide))) (by rw [r3]; rfl)) ev_c rfl fun H15 e15 => ?_
    have h15 := e15 ro _ h14
    refine q_neV (v := vN 2) (ev_to (ev_call (ea_cons (ev_var rfl) (ea_cons ev_c ea_nil)) (sv_run_by (K := K) (row := [2, 1, 1, 5, c]) (many := 2) (sq_of h15) rk (by decide) (by rw [hlen5]; decide))) (by rw [r4]; rfl)) ev_c rfl fun H16 e16 => ?_
    refine q_neV (v := vN 0) (ev_to (ev_callL (lc rfl) (ea_cons ev_c ea_nil) fun p H17 _ hp => sv_run_by (K := K) (row := [c]) (many := 1) (sq_of hp) lk (by decide) (by show 1 ≤ 1; decide)) (by rw [r5]; rfl)) ev_c rfl fun H17 e17 => ?_
    exact s_ret (ev_call (ea_cons (ev_var rfl) ea_nil) (sv_card h1 h2)) fun H18 e18 => k H18 ((((((((e1.trans e2).trans e3).trans e4).trans e5).trans e6).trans ((((e7.trans e8).trans e9).trans e10).trans e11)).trans ((((e12.trans e13).trans e14).trans e15).trans e16)).trans (e17.trans e18))
end

/-! ### the law: where two ways meet -/
section
variable {K : PySem.W.Frag} {σ : L2.St} {H : Hp} {D : Ends} {tz : TS} {te : TE} {x : V}
theorem q_asgD {i : Nat} {d : PyData} (h : EvD K te σ H d) (k : ∀ v H1, Ex H H1 → Dp K H1 v d → tz D (σ.set i (some v)) H1) : tSeq (tAsg te (gName i)) tz D σ H := h H (Ex.refl H) _ fun v H1 e hv => k v H1 e hv
theorem g_three {i j k : Nat} {a b c : Int} {Q : L2.St → Hp → Prop} (h : Dp K H x (.tuple [.int a, .int b, .int c])) (kk : Q (((σ.set i (some (.int a))).set j (some (.int b))).set k (some (.int c))) H) : gTup K 3 (gCons (gName i) (gCons (gName j) (gCons (gName k) gNil))) x σ H Q := by
  cases h with
  | tup hq hall =>
    cases hall with
    | cons h1 hr =>
      cases hr with
      | cons h2 hn =>
        cases hn with
        | cons h3 hm =>
          cases hm
          cases h1
          cases h2
          cases h3
          exact ⟨_, _, rfl, hq, rfl, _, _, rfl, _, _, rfl, _, _, rfl, rfl, kk⟩
/-- a pair and a truth taken apart -/
theorem g_pairB {i j : Nat} {a b : Int} {t : Bool} (h : Dp K H x (.tuple [.tuple [.int a, .int b], .bool t])) :
    ∃ r, SqT K H r [.int a, .int b] ∧ ∀ H', Ex H H' → ∀ Q : L2.St → Hp → Prop, Q ((σ.set i (some (.ref r))).set j (some (.bl t))) H' → gTup K 2 (gCons (gName i) (gCons (gName j) gNil)) x σ H' Q := by
  cases h with
  | tup hq hall =>
    cases hall with
    | cons h1 hr =>
      cases hr with
      | cons h2 hn =>
        cases hn
        cases h2
        cases h1 with
        | tup hq2 hall2 =>
          cases hall2 with
          | cons k1 kr =>
            cases kr with
            | cons k2 kn =>
              cases kn
              cases k1
              cases k2
              exact ⟨_, hq2, fun H' e Q q => ⟨_, _, rfl, ex_t e hq, rfl, _, _, rfl, _, _, rfl, rfl, q⟩⟩
end
section
variable {P : Program} {w : World} {K : PySem.W.Frag} {mg : Str → Option Value} {base : Heap}
def triD (r : Nat × Nat × Nat) : PyData := .tuple [.int (r.1 : Int), .int (r.2.1 : Int), .int (r.2.2 : Int)]
def quaD (r : Int × Int × Bool) : PyData := .tuple [.tuple [.int r.1, .int r.2.1], .bool r.2.2]
def quaL : List (Int × Int × Bool) := [(3, 4, true), (4, 3, false), (3, 3, false), (-1, 4, false), (2, 4, false)]
theorem dec_int3 (x y : Int) : decide (V.int x = V.int y) = decide (x = y) := by
  rw [Bool.eq_iff_iff, decide_eq_true_iff, decide_eq_true_iff]
  exact ⟨fun h => V.int.inj h, fun h => by rw [h]⟩
theorem ok__law_compared_right (T : Tx K mg) : FnOk P w K mg base CX0 4 T.f__law_compared_right T.d__law_compared_right ["_law_card"] sp_card := by
  refine T.F__law_compared_right.ok sc__law_compared_right (fun vs H Q E h => ?_) (fun cdv A outer s H vs Q E hr h => ?_)
  · obtain ⟨c, rfl, _⟩ := h
    rfl
  · obtain ⟨c, rfl, h1, h2, k⟩ := h
    refine ⟨_, (pss_cons (ps_set (i := 1) sc__law_compared_right.nd rfl (by first | exact Or.inl rfl | exact Or.inr rfl) (pe_lst (pa_cons pe_int (pa_cons pe_int (pa_cons pe_int (pa_cons pe_int (pa_cons (pv 0) pa_nil)))))))
      (pss_cons (ps_set (i := 2) sc__law_compared_right.nd rfl (by first | exact Or.inl rfl | exact Or.inr rfl) (pe_lst (pa_cons (pe_tup (pa_cons pe_int (pa_cons pe_int (pa_cons pe_int pa_nil)))) (pa_cons (pe_tup (pa_cons pe_int (pa_cons pe_int (pa_cons pe_int pa_nil)))) (pa_cons (pe_tup (pa_cons pe_int (pa_cons pe_int (pa_cons pe_int pa_nil)))) (pa_cons (pe_tup (pa_cons pe_int (pa_cons pe_int (pa_cons pe_int pa_nil)))) (pa_cons (pe_tup (pa_cons pe_int (pa_cons pe_int (pa_cons pe_int pa_nil)))) (pa_cons (pe_tup (pa_cons pe_int (pa_cons pe_int (pa_cons pe_int pa_nil)))) pa_nil))))))))
      (pss_cons (ps_set (i := 2) sc__law_compared_right.nd rfl (by first | exact Or.inl rfl | exact Or.inr rfl) (pe_op op_cat (pv 2) (pe_lst (pa_cons (pe_tup (pa_cons pe_int (pa_cons pe_int (pa_cons pe_int pa_nil)))) pa_nil))))
      (pss_cons (ps_for PassesOwn.never rfl (pi_list (pv 2)) (pg_tup (by rfl) (pgs_cons (pg_name (i := 3) sc__law_compared_right.nd rfl (by first | exact Or.inl rfl | exact Or.inr rfl)) (pgs_cons (pg_name (i := 4) sc__law_compared_right.nd rfl (by first | exact Or.inl rfl | exact Or.inr rfl)) (pgs_cons (pg_name (i := 5) sc__law_compared_right.nd rfl (by first | exact Or.inl rfl | exact Or.inr rfl)) pgs_nil))))
      (pss_cons (ps_set (i := 6) sc__law_compared_right.nd rfl (by first | exact Or.inl rfl | exact Or.inr rfl) (pe_call (ok_compared T) hr (by rfl) T.m_compared T.F_compared.kp T.b_compared .nil pass0 (pa_cons (pv 1) (pa_cons (pv 3) (pa_cons (pv 4) pa_nil)))))
      (pss_cons (ps_if (pt_not (pt_val (pe_callB (r := rIsi K) call_isi (by rfl) T.z_isinstance (by decide +kernel) (pa_cons (pv 6) (pa_cons (pe_glob (v := .ref T.a_Meet) (by rfl) T.m_Meet rfl) pa_nil))))) (pss_one (ps_ret pe_bl)) pss_nil)
      (pss_cons (ps_if (pt_cmpR op_ne (show PE _ _ (tFld K _ _) from pe_fld (pv 6) rfl) (pv 5) (nomark _)) (pss_one (ps_ret pe_bl)) pss_nil)
      (pss_cons (ps_if (pt_cmpR op_notBl (pe_or2 (pe_meth (pv 6) T.cl_Meet T.me_Meet_shows (ok_Meet_shows T) (hr.mono (by decide)) T.b_Meet_shows .nil pass0 (pa_cons (pv 1) (pa_cons (pv 3) (pa_cons (pv 4) pa_nil)))) (pe_meth (pv 6) T.cl_Apart T.me_Apart_shows (ok_Apart_shows T) (hr.mono (by decide)) T.b_Apart_shows .nil pass0 (pa_cons (pv 1) (pa_cons (pv 3) (pa_cons (pv 4) pa_nil))))) pe_bl (nomark _)) (pss_one (ps_ret pe_bl)) pss_nil)
      (pss_one (ps_for PassesOwn.never rfl (pi_tup (pe_tup (pa_cons (pe_un un_neg pe_int) (pa_cons pe_int (pa_cons pe_int (pa_cons pe_int (pa_cons pe_int (pa_cons pe_int (pa_cons pe_int pa_nil))))))))) (pg_name (i := 7) sc__law_compared_right.nd rfl (by first | exact Or.inl rfl | exact Or.inr rfl))
      (pss_cons (ps_if (pt_cmpR op_ne (pe_meth (pe_make T.k_Meet (ok_Meet_init T) (hr.mono (by decide)) (by rfl) T.m_Meet T.b_Meet_init .nil pass0 (pa_cons (pv 7) pa_nil)) T.cl_Meet T.me_Meet_shows (ok_Meet_shows T) (hr.mono (by decide)) T.b_Meet_shows .nil pass0 (pa_cons (pv 1) (pa_cons (pv 3) (pa_cons (pv 4) pa_nil)))) (pe_cmpR op_eq (pv 7) (pv 5) (nomark _)) (nomark _)) (pss_one (ps_ret pe_bl)) pss_nil)
      (pss_one (ps_if (pt_cmpR op_notBl (pe_meth (pe_make T.k_Apart (ok_Apart_init T) (hr.mono (by decide)) (by rfl) T.m_Apart T.b_Apart_init .nil pass0 (pa_cons pe_int (pa_cons pe_int pa_nil))) T.cl_Apart T.me_Apart_shows (ok_Apart_shows T) (hr.mono (by decide)) T.b_Apart_shows .nil pass0 (pa_cons (pv 1) (pa_cons (pv 3) (pa_cons (pv 4) pa_nil)))) pe_bl (nomark _)) (pss_one (ps_ret pe_bl)) pss_nil))))))))))
      (pss_cons (ps_set (i := 6) sc__law_compared_right.nd rfl (by first | exact Or.inl rfl | exact Or.inr rfl) (pe_call (ok_compared T) hr (by rfl) T.m_compared T.F_compared.kp T.b_compared .nil pass0 (pa_cons (pv 1) (pa_cons pe_int (pa_cons pe_int pa_nil)))))
      (pss_cons (ps_if (pt_not (pt_val (pe_callB (r := rIsi K) call_isi (by rfl) T.z_isinstance (by decide +kernel) (pa_cons (pv 6) (pa_cons (pe_glob (v := .ref T.a_Apart) (by rfl) T.m_Apart rfl) pa_nil))))) (pss_one (ps_ret pe_bl)) pss_nil)
      (pss_cons (ps_if (pt_cmpR (r := rNeD K) (op_neD hr.units) (pe_tup (pa_cons (show PE _ _ (tFld K _ _) from pe_fld (pv 6) rfl) (pa_cons (show PE _ _ (tFld K _ _) from pe_fld (pv 6) rfl) pa_nil))) (pe_tup (pa_cons pe_int (pa_cons pe_int pa_nil))) (nomark _)) (pss_one (ps_ret pe_bl)) pss_nil)
      (pss_cons (ps_if (pt_val (pe_meth (pe_make T.k_Meet (ok_Meet_init T) (hr.mono (by decide)) (by rfl) T.m_Meet T.b_Meet_init .nil pass0 (pa_cons pe_int pa_nil)) T.cl_Meet T.me_Meet_shows (ok_Meet_shows T) (hr.mono (by decide)) T.b_Meet_shows .nil pass0 (pa_cons (pv 1) (pa_cons pe_int (pa_cons pe_int pa_nil))))) (pss_one (ps_ret pe_bl)) pss_nil)
      (pss_cons (ps_set (i := 2) sc__law_compared_right.nd rfl (by first | exact Or.inl rfl | exact Or.inr rfl) (pe_lst (pa_cons (pe_tup (pa_cons (pe_tup (pa_cons pe_int (pa_cons pe_int pa_nil))) (pa_cons pe_bl pa_nil))) (pa_cons (pe_tup (pa_cons (pe_tup (pa_cons pe_int (pa_cons pe_int pa_nil))) (pa_cons pe_bl pa_nil))) (pa_cons (pe_tup (pa_cons (pe_tup (pa_cons pe_int (pa_cons pe_int pa_nil))) (pa_cons pe_bl pa_nil))) (pa_cons (pe_tup (pa_cons (pe_tup (pa_cons (pe_un un_neg pe_int) (pa_cons pe_int pa_nil))) (pa_cons pe_bl pa_nil))) pa_nil))))))
      (pss_cons (ps_set (i := 2) sc__law_compared_right.nd rfl (by first | exact Or.inl rfl | exact Or.inr rfl) (pe_op op_cat (pv 2) (pe_lst (pa_cons (pe_tup (pa_cons (pe_tup (pa_cons pe_int (pa_cons pe_int pa_nil))) (pa_cons pe_bl pa_nil))) pa_nil))))
      (pss_cons (ps_if (pt_cmpR op_notBl (pe_meth (pe_make T.k_Apart (ok_Apart_init T) (hr.mono (by decide)) (by rfl) T.m_Apart T.b_Apart_init .nil pass0 (pa_cons pe_int (pa_cons pe_int pa_nil))) T.cl_Apart T.me_Apart_shows (ok_Apart_shows T) (hr.mono (by decide)) T.b_Apart_shows .nil pass0 (pa_cons (pv 1) (pa_cons pe_int (pa_cons pe_int pa_nil)))) pe_bl (nomark _)) (pss_one (ps_ret pe_bl)) pss_nil)
      (pss_one (ps_ret (pe_callB (r := rAll K) (cr_all rfl) (by rfl) T.z_all (by decide +kernel) (pa_cons (pe_lc (own := [("_law_pair", 8), ("_law_due", 9)]) (by rfl) sc__law_compared_right.nd (pi_list (pv 2)) (blkOk_by (own := [("_law_pair", 8), ("_law_due", 9)]) (N := ["_law_card", "_law_row", "_law_lines", "_law_one", "_law_other", "_law_place", "_law_found", "_law_at", "_law_pair", "_law_due"]) (sc := defScope s__law_compared_right) (by decide +kernel)) (fun _ _ _ _ _ => (show PG _ _ (gTup K 2 _) from pg_tup (by rfl) (pgs_cons (pg_name (i := 8) sc__law_compared_right.nd rfl (by first | exact Or.inl rfl | exact Or.inr rfl)) (pgs_cons (pg_name (i := 9) sc__law_compared_right.nd rfl (by first | exact Or.inl rfl | exact Or.inr rfl)) pgs_nil)))) (fun _ _ _ _ _ => pts_nil) (fun _ _ _ _ _ => (pe_cmpR op_eq (pe_meth (pe_make T.k_Apart (ok_Apart_init T) (hr.mono (by decide)) (by rfl) T.m_Apart T.b_Apart_init .nil pass0 (pa_cons (pe_ix (r := rIxT K) ix_tup (pv 8) pe_int (fun _ _ => rfl)) (pa_cons (pe_ix (r := rIxT K) ix_tup (pv 8) pe_int (fun _ _ => rfl)) pa_nil))) T.cl_Apart T.me_Apart_shows (ok_Apart_shows T) (hr.mono (by decide)) T.b_Apart_shows .nil pass0 (pa_cons (pv 1) (pa_cons pe_int (pa_cons pe_int pa_nil)))) (pv 9) (nomark _)))) pa_nil))))))))))))))), ?_⟩
    have rk := rok5 h1 h2
    have hmeet := hand_meet c (by omega) h1
    obtain ⟨ap1, ap2, ap3, ap4⟩ := hand_apart c (by omega) h1
    refine q_asgL (xs := vNs [2, 1, 1, 5, c]) (el_lst (ea_cons ev_c (ea_cons ev_c (ea_cons ev_c (ea_cons ev_c (ea_cons (ev_var rfl) ea_nil))))) (show 5 ≤ 100000 by decide)) fun ro H1 nro e1 hro => ?_
    generalize hrow : [2, 1, 1, 5, c] = row at *
    have hlen5 : row.length = 5 := by rw [← hrow]; rfl
    have tri : ∀ {a b d : Nat} {σ : L2.St} {H : Hp}, EvN K (tTup (tCons (tC (vN a)) (tCons (tC (vN b)) (tCons (tC (vN d)) tNil)))) σ H (triD (a, b, d)) := fun {a b d σ H} => en_tup (ena_cons (en_N ev_c) (ena_cons (en_N ev_c) (ena_cons (en_N ev_c) ena_nil))) (show 3 ≤ 100000 by decide)
    refine q_asgM (K := K) (ds := (handL.take 6).map triD) (em_lst (ena_cons tri (ena_cons tri (ena_cons tri (ena_cons tri (ena_cons tri (ena_cons tri ena_nil)))))) (show 6 ≤ 100000 by decide)) fun l2 xs2 H2 e2 nl2 hl2 hall2 => ?_
    refine q_asgD (K := K) (d := .list (handL.map triD)) (ed_to (ed_cat (ev_var rfl) hl2 (DpAll.ex (new_ex H1 H2) hall2) (em_lst (ena_cons tri ena_nil) (show 1 ≤ 100000 by decide)) (show 6 + 1 ≤ 100000 by decide)) rfl) fun vl H3 e3 hvl => ?_
    have hro3 := e3 ro _ (e2 ro _ hro)
    refine q_forD (K := K) (ed_var rfl hvl)
      (fun Hb i σ' H' => ∃ y3 y4 y5 y6 y7, σ' = [some (vN c), some (.ref ro), some vl, y3, y4, y5, y6, y7, none, none] ∧ Ex Hb H') (fun H4 e4 => ⟨none, none, none, none, none, rfl, Ex.refl H4⟩) (fun Hb i σ' H' ⟨_, _, _, _, _, _, e⟩ => e) ?_ ?_
    · rintro H4 e4 i x d σ' H5 hd hx ⟨y3, y4, y5, y6, y7, rfl, e5⟩
      obtain ⟨r, hr7, rfl⟩ := List.mem_map.mp (List.mem_of_getElem? hd)
      obtain ⟨one, other, place⟩ := r
      have hfc : firstC row one other = some place := hmeet _ hr7
      obtain ⟨o1, o2⟩ : one < 5 ∧ other < 5 := hand_lt _ hr7
      have o1' : one < row.length := by rw [hlen5]; exact o1
      have o2' : other < row.length := by rw [hlen5]; exact o2
      refine g_three hx ?_
      have hS5 : SqL K H5 ro (vNs row) := sq_of ((e4.trans e5) ro _ hro3)
      have hcm : cmpA row one other = .meet (place : Int) := by
        unfold cmpA
        rw [hfc]
      have hso := so_compared (T := T) hS5 rk o1' o2'
      rw [hcm] at hso
      refine q_asgO (C := T.a_Meet) (fs := ansFs (.meet (place : Int))) (eo_call (ea_cons (ev_var rfl) (ea_cons (ev_var rfl) (ea_cons (ev_var rfl) ea_nil))) hso) fun f dx H6 nf e6 hf => ?_
      refine q_when (b := false) (evT_to (et_not (et_B (ev_isiO (K := K) (ev_var rfl) hf T.ty_Meet T.ki_Meet_Meet))) rfl) (fun z => nomatch z) fun _ H7 e7 => ?_
      have hf7 := e7 f _ hf
      refine q_neV (v := .int (place : Int)) (ev_fld (K := K) (ev_var rfl) hf7 T.cl_Meet T.n_Meet_place rfl) (ev_var rfl) rfl fun H8 e8 => ?_
      have hf8 := e8 f _ hf7
      have hS8 := ex_l ((e6.trans e7).trans e8) hS5
      have hsh : shB row one other (.meet (place : Int)) = true := by
        show (match firstC row one other with | some p => decide ((place : Int) = (p : Int)) | none => false) = true
        rw [hfc]
        exact decide_eq_true rfl
      refine q_when (b := false) (evT_to (et_test (ev_op (ev_shows (an := .meet (place : Int)) ⟨dx, hf8⟩ hS8 rk o1' o2' (ev_var rfl) (ea_cons (ev_var rfl) (ea_cons (ev_var rfl) (ea_cons (ev_var rfl) ea_nil)))) ev_c rv_notBl)) (by rw [hsh]; rfl)) (fun z => nomatch z) fun _ H9 e9 => ?_
      have hS9 := ex_l e9 hS8
      refine s_forU (K := K) (xs := [.int (-1), .int 0, .int 1, .int 2, .int 3, .int 4, .int 5]) (eu_tup (ea_cons (ev_un ev_c ru_neg) (ea_cons ev_c (ea_cons ev_c (ea_cons ev_c (ea_cons ev_c (ea_cons ev_c (ea_cons ev_c ea_nil))))))) (show 7 ≤ 100000 by decide))
        (fun Hb i σ' H' => ∃ y7, σ' = [some (vN c), some (.ref ro), some vl, some (vN one), some (vN other), some (vN place), some (.ref f), y7, none, none] ∧ Ex Hb H') (fun H10 e10 => ⟨_, rfl, Ex.refl H10⟩) (fun Hb i σ' H' ⟨_, _, e⟩ => e) ?_ ?_
      · rintro H10 e10 i x σ' H11 hx7 ⟨y7, rfl, e11⟩
        obtain ⟨z, rfl⟩ : ∃ z : Int, x = .int z := by
          have hx := List.mem_of_getElem? hx7
          simp only [List.mem_cons, List.not_mem_nil, or_false] at hx
          rcases hx with e | e | e | e | e | e | e <;> exact ⟨_, e⟩
        have hS11 := ex_l (e10.trans e11) hS9
        have hz : shB row one other (.meet z) = decide (z = (place : Int)) := by
          show (match firstC row one other with | some p => decide (z = (p : Int)) | none => false) = _
          rw [hfc]
        refine q_when (b := false) (evT_to (et_test (ev_op (ev_methO (eo_make (ea_cons (ev_var rfl) ea_nil) rfl) rfl (ea_cons (ev_var rfl) (ea_cons (ev_var rfl) (ea_cons (ev_var rfl) ea_nil))) fun f dx H13 e13 hf => sv_shM (z := z) ⟨dx, hf⟩ (ex_l e13 hS11) rk o1' o2') (ev_op (ev_var rfl) (ev_var rfl) (rv_eq rfl)) (rv_ne rfl))) ?_) (fun z => nomatch z) fun _ H12 e12 => ?_
        · show (!decide (V.bl (shB row one other (.meet z)) = V.bl (decide (V.int z = V.int (place : Int))))) = false
          rw [hz, dec_int3, decide_eq_true rfl]
          rfl
        have hS12 := ex_l e12 hS11
        refine s_when (b := false) (evT_to (et_test (ev_op (ev_methO (fs := ansFs (.apart 3 3)) (eo_make (ea_cons ev_c (ea_cons ev_c ea_nil)) rfl) rfl (ea_cons (ev_var rfl) (ea_cons (ev_var rfl) (ea_cons (ev_var rfl) ea_nil))) fun f dx H13 e13 hf => sv_shA (m := 3) (t := 3) ⟨dx, hf⟩ (ex_l e13 hS12) rk o1' o2') ev_c rv_notBl)) rfl) (fun z => nomatch z) fun _ H13 e13 => ⟨_, rfl, (e11.trans e12).trans e13⟩
      · rintro H10 e10 σ' H11 ⟨y7, rfl, e11⟩
        exact ⟨_, _, _, _, _, rfl, ((((e5.trans e6).trans e7).trans e8).trans e9).trans (e10.trans e11)⟩
    · rintro H4 e4 σ' H5 ⟨y3, y4, y5, y6, y7, rfl, e5⟩
      have z5 : 0 < row.length := by rw [hlen5]; decide
      have f5 : 4 < row.length := by rw [hlen5]; decide
      have hS5 : SqL K H5 ro (vNs row) := sq_of ((e4.trans e5) ro _ hro3)
      have hcm : cmpA row 0 4 = .apart 3 4 := by
        unfold cmpA
        rw [ap1, ap3, ap4]
        rfl
      have hso := so_compared (T := T) hS5 rk z5 f5
      rw [hcm] at hso
      refine q_asgO (C := T.a_Apart) (fs := ansFs (.apart 3 4)) (eo_call (ea_cons (ev_var rfl) (ea_cons ev_c (ea_cons ev_c ea_nil))) hso) fun f dx H6 nf e6 hf => ?_
      refine q_when (b := false) (evT_to (et_not (et_B (ev_isiO (K := K) (ev_var rfl) hf T.ty_Apart T.ki_Apart_Apart))) rfl) (fun z => nomatch z) fun _ H7 e7 => ?_
      have hf7 := e7 f _ hf
      refine q_neD (K := K) (d := .tuple [.int 3, .int 4]) (en_tup (ena_cons (en_int (ev_fld (K := K) (ev_var rfl) hf7 T.cl_Apart T.n_Apart_mine rfl)) (ena_cons (en_int (ev_fld (K := K) (ev_var rfl) hf7 T.cl_Apart T.n_Apart_theirs rfl)) ena_nil)) (show 2 ≤ 100000 by decide)).toD (en_tup (ena_cons (en_int ev_c) (ena_cons (en_int ev_c) ena_nil)) (show 2 ≤ 100000 by decide)).toD rfl (by decide +kernel) fun H8 e8 => ?_
      have hS8 := ex_l ((e6.trans e7).trans e8) hS5
      refine q_when (b := false) (evT_to (et_B (ev_methO (fs := ansFs (.meet 3)) (eo_make (ea_cons ev_c ea_nil) rfl) rfl (ea_cons (ev_var rfl) (ea_cons ev_c (ea_cons ev_c ea_nil))) fun f dx H13 e13 hf => sv_shM (z := 3) (one := 0) (other := 4) ⟨dx, hf⟩ (ex_l e13 hS8) rk z5 f5)) ?_) (fun z => nomatch z) fun _ H9 e9 => ?_
      · show (match firstC row 0 4 with | some p => decide ((3 : Int) = (p : Int)) | none => false) = false
        rw [ap1]
      have qua : ∀ {a b : Int} {t : Bool} {ta tb : TE} {σ : L2.St} {H : Hp}, Ev ta σ H (.int a) → Ev tb σ H (.int b) → EvN K (tTup (tCons (tTup (tCons ta (tCons tb tNil))) (tCons (tC (.bl t)) tNil))) σ H (quaD (a, b, t)) := fun {a b t ta tb σ H} ha hb => en_tup (ena_cons (en_tup (ena_cons (en_int ha) (ena_cons (en_int hb) ena_nil)) (show 2 ≤ 100000 by decide)) (ena_cons (en_bl ev_c) ena_nil)) (show 2 ≤ 100000 by decide)
      refine q_asgM (K := K) (ds := (quaL.take 4).map quaD) (em_lst (ena_cons (qua ev_c ev_c) (ena_cons (qua ev_c ev_c) (ena_cons (qua ev_c ev_c) (ena_cons (qua (ev_un ev_c ru_neg) ev_c) ena_nil)))) (show 4 ≤ 100000 by decide)) fun l10 xs10 H10 e10 nl10 hl10 hall10 => ?_
      refine q_asgD (K := K) (d := .list (quaL.map quaD)) (ed_to (ed_cat (ev_var rfl) hl10 (DpAll.ex (new_ex H9 H10) hall10) (em_lst (ena_cons (qua ev_c ev_c) ena_nil) (show 1 ≤ 100000 by decide)) (show 4 + 1 ≤ 100000 by decide)) rfl) fun v11 H11 e11 hv11 => ?_
      have hS11 := ex_l ((e9.trans e10).trans e11) hS8
      refine q_when (b := false) (evT_to (et_test (ev_op (ev_methO (fs := ansFs (.apart 4 3)) (eo_make (ea_cons ev_c (ea_cons ev_c ea_nil)) rfl) rfl (ea_cons (ev_var rfl) (ea_cons ev_c (ea_cons ev_c ea_nil))) fun f dx H13 e13 hf => sv_shA (m := 4) (t := 3) (one := 4) (other := 0) ⟨dx, hf⟩ (ex_l e13 hS11) rk f5 z5) ev_c rv_notBl)) ?_) (fun z => nomatch z) fun _ H12 e12 => ?_
      · show (!decide ((if (4 : Int) = 3 then false else ((4 : Int) == (lastOf row 4 : Int) && ((3 : Int) == (lastOf row 0 : Int) && true))) = true)) = false
        rw [ap3, ap4]
        decide
      have hS12 := ex_l e12 hS11
      have hq : ∀ r ∈ quaL, shB row 0 4 (.apart r.1 r.2.1) = r.2.2 := by
        intro r hr5
        show (if r.1 = r.2.1 then false else (r.1 == (lastOf row 0 : Int) && (r.2.1 == (lastOf row 4 : Int) && true))) = r.2.2
        rw [ap3, ap4]
        have : ∀ r ∈ quaL, (if r.1 = r.2.1 then false else (r.1 == ((3 : Nat) : Int) && (r.2.1 == ((4 : Nat) : Int) && true))) = r.2.2 := by decide
        exact this r hr5
      refine s_ret (v := .bl true) (ev_to (ev_allN (K := K) (bs := (List.range (quaL.map quaD).length).map fun _ => true) (el_to (el_lcD (K := K) (fun _ => V.bl true) (ed_var rfl (Dp.ex e12 hv11)) (by decide) fun i x d H13 hd e13 hx => ?_) (by rw [List.map_map]; rfl))) (by decide)) fun H13 e13 => k H13 ((((e1.trans e2).trans e3).trans (e4.trans e5)).trans ((((((e6.trans e7).trans e8).trans e9).trans e10).trans (e11.trans e12)).trans e13))
      obtain ⟨r, hr5, rfl⟩ := List.mem_map.mp (List.mem_of_getElem? hd)
      obtain ⟨a, b, t⟩ := r
      obtain ⟨rr, hs, hg⟩ := g_pairB hx
      refine ⟨_, fun H' e' Q' q' => hg H' e' Q' q', rfl, ?_⟩
      have hqr := hq _ hr5
      refine ev_to (ev_op (ev_methO (fs := ansFs (.apart a b)) (eo_make (ea_cons (ev_op (ev_var rfl) ev_c (rv_ixT (K := K) hs (i := 0) (v := .int a) (atI_nat (j := 0) rfl))) (ea_cons (ev_op (ev_var rfl) ev_c (rv_ixT (K := K) hs (i := 1) (v := .int b) (atI_nat (j := 1) rfl))) ea_nil)) rfl) rfl (ea_cons (ev_var rfl) (ea_cons ev_c (ea_cons ev_c ea_nil))) fun f dx H14 e14 hf => sv_shA (m := a) (t := b) (one := 0) (other := 4) ⟨dx, hf⟩ (ex_l (e13.trans e14) hS12) rk z5 f5) (ev_var rfl) (rv_eq rfl)) ?_
      rw [hqr]
      exact congrArg V.bl (decide_eq_true rfl)
end

/-! ### the law: all rows; where two ways meet, once more -/
section
variable {K : PySem.W.Frag} {σ : L2.St} {H : Hp} {te : TE} {D : Ends}
theorem s_asgR {i : Nat} {rs : List (List Nat)} (h : EvR te σ H rs) (k : ∀ p xs H1, Ex H H1 → H p = none → H1 p = some (.lst xs) → RowsAt (New H H1) xs rs → D.nx (σ.set i (some (.ref p))) H1) : tAsg te (gName i) D σ H := h H (Ex.refl H) _ k
theorem q_asgLL {i j : Nat} {xs ys : List V} {ta tb : TE} {tz : TS} (h1 : EvL ta σ H xs) (h2 : EvL tb σ H ys) (k : ∀ p r H1, H p = none → H r = none → p ≠ r → Ex H H1 → H1 p = some (.lst xs) → H1 r = some (.lst ys) → tz D ((σ.set i (some (.ref p))).set j (some (.ref r))) H1) :
    tSeq (tAsg (tTup (tCons ta (tCons tb tNil))) (gTup K 2 (gCons (gName i) (gCons (gName j) gNil)))) tz D σ H :=
  h1 H (Ex.refl H) _ fun p H1 np e1 hp => h2 H1 e1 _ fun r H2 nr e2 hr => ⟨by show 2 ≤ sizeLine; decide, fun c nc => ⟨c, [.ref p, .ref r], rfl, st_of upd_same, rfl, .ref p, [.ref r], rfl, .ref r, [], rfl, rfl,
    k p r _ np (fresh_back e1 nr) (fun z => by rw [← z, hp] at nr; cases nr) ((e1.trans e2).trans (Ex.new nc)) (Ex.new nc p _ (e2 p _ hp)) (Ex.new nc r _ hr)⟩⟩
/-- [e for k in range(lo, hi)] -/
theorem el_mapR2 {tb : TA} {j : Nat} {vs : List Nat} {lo hi : Int} {n : Nat} (g : Nat → V) (h : EvA tb σ H [.int lo, .int hi]) (hlo : 0 ≤ lo) (hh : hi ≤ 40000) (hn : (hi - lo).toNat = n) (hlh : lo ≤ hi)
    (he : ∀ i : Nat, i < n → ∀ H1, Ex H H1 → Ev te ((wipe σ vs).set j (some (.int (lo + (i : Int))))) H1 (g i)) (hw : ∀ x, wipe ((wipe σ vs).set j (some x)) vs = wipe σ vs := by intro _; rfl) :
    EvL (tLc (iRng2 tb) (gName j) tYes te vs) σ H ((List.range n).map g) := fun H0 e Q q =>
  h H0 e _ fun H1 e1 => ⟨lo, hi, rfl, by omega, fun L hL => lc_range (lo := lo) (n := (hi - lo).toNat) (Cw H1 (fun _ => true) g L) ⟨hL, Ex.new hL, upd_same⟩ (fun i H' hi2 p =>
      ⟨hw _, cw_turn p (by omega) et_yes fun _ => he i (by omega) H1 (e.trans e1)⟩)
    (fun H' p => by
      have h3 := p.2.2
      rw [hn, given_all] at h3
      exact q L H' (fresh_back e1 p.1) (e1.trans p.2.1) h3)⟩
end
section
variable {P : Program} {w : World} {K : PySem.W.Frag} {mg : Str → Option Value} {base : Heap}
def extR (c : Nat) (r : List Nat) : List (List Nat) := (List.range c).map fun k => r ++ [k + 1]
theorem extR_len (c : Nat) : ∀ l : List (List Nat), (l.flatMap (extR c)).length = l.length * c
  | [] => (Nat.zero_mul c).symm
  | a :: l => by
    rw [List.flatMap_cons, List.length_append, extR_len c l, List.length_cons, Nat.add_mul, Nat.one_mul, Nat.add_comm]
    unfold extR
    rw [List.length_map, List.length_range]
def sp_longer : Sp := fun vs H Q _ => ∃ (a : Addr) (xs : List V) (rs : List (List Nat)) (c : Nat), vs = [.ref a, vN c] ∧ H a = some (.lst xs) ∧ RowsAt H xs rs ∧ (∀ r ∈ rs, r.length ≤ 60) ∧ c ≤ 20 ∧ rs.length * c ≤ 40000 ∧ RetR (rs.flatMap (extR c)) H Q
theorem ok__law_longer (T : Tx K mg) : FnOk P w K mg base CX0 1 T.f__law_longer T.d__law_longer ["_law_rows_here", "_law_cards"] sp_longer := by
  refine T.F__law_longer.ok sc__law_longer (fun vs H Q E h => ?_) (fun cdv A outer s H vs Q E hr h => ?_)
  · obtain ⟨a, xs, rs, c, rfl, _⟩ := h
    rfl
  · obtain ⟨a, xs, rs, c, rfl, ha, hrs, h60, hc20, hrl, k⟩ := h
    refine ⟨_, (pss_cons (ps_set (i := 2) sc__law_longer.nd rfl (by first | exact Or.inl rfl | exact Or.inr rfl) (pe_lst pa_nil))
      (pss_cons (ps_for PassesOwn.never rfl (pi_list (pv 0)) (pg_name (i := 3) sc__law_longer.nd rfl (by first | exact Or.inl rfl | exact Or.inr rfl))
      (pss_one (ps_set (i := 2) sc__law_longer.nd rfl (by first | exact Or.inl rfl | exact Or.inr rfl) (pe_op op_cat (pv 2) (pe_lc (own := [("_law_card", 4)]) (by rfl) sc__law_longer.nd (pi_range2 (by rfl) T.z_range (pa_cons pe_int (pa_cons (pe_op op_add (pv 1) pe_int) pa_nil))) (blkOk_by (own := [("_law_card", 4)]) (N := ["_law_rows_here", "_law_cards", "_law_found", "_law_row", "_law_card"]) (sc := defScope s__law_longer) (by decide +kernel)) (fun _ _ _ _ _ => (pg_name (i := 4) sc__law_longer.nd rfl (by first | exact Or.inl rfl | exact Or.inr rfl))) (fun _ _ _ _ _ => pts_nil) (fun _ _ _ _ _ => (pe_op op_cat (pv 3) (pe_lst (pa_cons (pv 4) pa_nil)))))))))
      (pss_one (ps_ret (pv 2))))), ?_⟩
    refine q_asgL (xs := []) (el_lst ea_nil (show 0 ≤ 100000 by decide)) fun f0 H1 nf0 e1 hf0 => ?_
    refine q_forLn (K := K) (xs := xs) (ev_var rfl) (sq_of (e1 a _ ha))
      (fun j σ' H' => ∃ f acc y3, σ' = [some (.ref a), some (vN c), some (.ref f), y3, none] ∧ H f = none ∧ Ex H H' ∧ H' f = some (.lst acc) ∧ RowsAt (New H H') acc ((rs.take j).flatMap (extR c)))
      (fun H2 e2 => ⟨f0, [], none, rfl, nf0, e1.trans e2, e2 f0 _ hf0, .nil⟩) (fun j σ' H' _ ⟨_, _, _, _, _, e, _⟩ => sq_of (e a _ ha)) ?_ ?_
    · rintro j x σ' H2 hx ⟨f, acc, y3, rfl, nf, e2, hf, hacc⟩
      have hj : j < rs.length := by
        rw [← hrs.1]
        exact (List.getElem?_eq_some_iff.mp hx).1
      obtain ⟨b, h1, h2⟩ := hrs.2 j _ (List.getElem?_eq_getElem hj)
      have hxb : x = .ref b := Option.some.inj (hx.symm.trans h1)
      subst hxb
      have hb : H2 b = some (.lst (vNs rs[j])) := e2 b _ h2
      have hrj := h60 _ (List.getElem_mem hj)
      have hst : (rs.take (j + 1)).flatMap (extR c) = (rs.take j).flatMap (extR c) ++ extR c rs[j] := by
        rw [List.take_add_one, List.getElem?_eq_getElem hj, List.flatMap_append]
        show _ = _ ++ _
        congr 1
        show (extR c rs[j] ++ []) = _
        rw [List.append_nil]
      refine er_cat (rs := (rs.take j).flatMap (extR c)) (es := extR c rs[j]) (H0 := H) (ev_var rfl) hf hacc e2 (er_mapR2 (n := c) (lo := 1) (hi := 1 + (c : Int)) (fun k => rs[j] ++ [k + 1]) (ea_cons ev_c (ea_cons (ev_to (ev_op (ev_var rfl) ev_c rv_I0) ?_) ea_nil)) (by decide) (by omega) (by omega) (by omega) fun k hk H5 e5 => ?_) ?_ H2 (Ex.refl H2) _ fun p ys H3 e3 np hp hr3 => ⟨p, ys, _, rfl, fresh_back e2 np, e2.trans e3, hp, ?_⟩
      · show V.int _ = V.int _
        rw [Int.add_comm]
      · refine el_to (el_cat1 (ev_var rfl) (e5 b _ hb) (el_lst (ea_cons (ev_var rfl) ea_nil) (show 1 ≤ 100000 by decide)) ?_) ?_
        · rw [vNs_len]
          show (rs[j]).length + 1 ≤ 100000
          omega
        · rw [vNs_app]
          show vNs rs[j] ++ [V.int (1 + (k : Int))] = vNs rs[j] ++ [V.int ((k + 1 : Nat) : Int)]
          rw [Int.natCast_add, Int.add_comm]
          rfl
      · have h1 := extR_len c (rs.take (j + 1))
        rw [hst, List.length_append, List.length_take] at h1
        have h3 : (min (j + 1) rs.length) * c ≤ rs.length * c := Nat.mul_le_mul_right c (by omega)
        omega
      · rw [hst]
        exact hr3
    · rintro σ' H2 ⟨f, acc, y3, rfl, nf, e2, hf, hacc⟩
      rw [show xs.length = rs.length from hrs.1, List.take_length] at hacc
      exact s_ret (ev_var rfl) fun H3 e3 => k f acc H3 (e2.trans e3) nf (e3 f _ hf) (hacc.ex (new_mono (Ex.refl H) e3))
def sp_rows : Sp := fun vs H Q _ => ∃ c m : Nat, vs = [vN c, vN m] ∧ 1 ≤ c ∧ c ≤ 20 ∧ m ≤ 60 ∧ c ^ m ≤ 40000 ∧ RetR (rowsL c m) H Q
theorem ok__law_rows (T : Tx K mg) : FnOk P w K mg base CX0 2 T.f__law_rows T.d__law_rows ["_law_cards", "_law_many"] sp_rows := by
  refine T.F__law_rows.ok sc__law_rows (fun vs H Q E h => ?_) (fun cdv A outer s H vs Q E hr h => ?_)
  · obtain ⟨c, m, rfl, _⟩ := h
    rfl
  · obtain ⟨c, m, rfl, hc1, hc20, hm60, hcm, k⟩ := h
    refine ⟨_, (pss_cons (ps_set (i := 2) sc__law_rows.nd rfl (by first | exact Or.inl rfl | exact Or.inr rfl) (pe_lst (pa_cons (pe_lst pa_nil) pa_nil)))
      (pss_cons (ps_for PassesOwn.never rfl (pi_range1 (by rfl) T.z_range (pa_cons (pv 1) pa_nil)) (pg_name (i := 3) sc__law_rows.nd rfl (by first | exact Or.inl rfl | exact Or.inr rfl))
      (pss_one (ps_set (i := 2) sc__law_rows.nd rfl (by first | exact Or.inl rfl | exact Or.inr rfl) (pe_call (ok__law_longer T) hr (by rfl) T.m__law_longer T.F__law_longer.kp T.b__law_longer .nil pass0 (pa_cons (pv 2) (pa_cons (pv 0) pa_nil))))))
      (pss_one (ps_ret (pv 2))))), ?_⟩
    refine q_asgR (rs := [[]]) (er_one (r := []) (el_lst ea_nil (show 0 ≤ 100000 by decide))) fun f0 xs0 H1 e1 nf0 hf0 hr0 => ?_
    refine q_forR1 (n := (m : Int)) (ea_cons (ev_var rfl) ea_nil) ⟨by omega, by omega⟩
      (fun i σ' H' => ∃ f xs y3, σ' = [some (vN c), some (vN m), some (.ref f), y3] ∧ H f = none ∧ Ex H H' ∧ H' f = some (.lst xs) ∧ RowsAt (New H H') xs (rowsL c i))
      (fun H2 e2 => ⟨f0, xs0, none, rfl, nf0, e1.trans e2, e2 f0 _ hf0, hr0.ex (new_mono (Ex.refl H) e2)⟩) ?_ ?_
    · rintro i σ' H2 hi ⟨f, xs, y3, rfl, nf, e2, hf, hrs⟩
      have hi' : i < m := by omega
      have hrl : (rowsL c i).length * c ≤ 40000 := by
        rw [rowsL_len, ← Nat.pow_succ]
        exact Nat.le_trans (Nat.pow_le_pow_right hc1 hi') hcm
      refine s_asgR (er_call (ea_cons (ev_var rfl) (ea_cons (ev_var rfl) ea_nil)) fun H3 e3 Q3 q3 E3 => ⟨f, xs, rowsL c i, c, rfl, e3 f _ hf, (hrs.ex (new_ex H H2)).ex e3, fun r hr => by rw [(rowsL_mem hr).1]; omega, hc20, hrl, q3⟩) fun p ys H3 e3 np hp hr3 => ⟨p, ys, _, rfl, fresh_back e2 np, e2.trans e3, hp, hr3.ex (new_mono e2 (Ex.refl H3))⟩
    · rintro σ' H2 ⟨f, xs, y3, rfl, nf, e2, hf, hrs⟩
      rw [Int.toNat_natCast] at hrs
      exact s_ret (ev_var rfl) fun H3 e3 => k f xs H3 (e2.trans e3) nf (e3 f _ hf) (hrs.ex (new_mono (Ex.refl H) e3))
theorem sr_rows {H : Hp} {c m : Nat} (h1 : 1 ≤ c) (h2 : c ≤ 20) (h3 : m ≤ 60) (h4 : c ^ m ≤ 40000) : SpR sp_rows ([vN c, vN m] ++ []) H (rowsL c m) := fun H1 e Q q E => ⟨c, m, rfl, h1, h2, h3, h4, q⟩
def sp_met (K : PySem.W.Frag) : Sp := fun vs H Q _ => ∃ (a : Addr) (row : List Nat) (far : Nat), vs = [.ref a, vN far] ∧ SqL K H a (vNs row) ∧ RowOk row ∧ far < row.length ∧ RetV (optV (firstC row 0 far)) H Q
theorem ok__law_met (T : Tx K mg) : FnOk P w K mg base CX0 1 T.f__law_met T.d__law_met ["_law_row", "_law_far"] (sp_met K) := by
  refine T.F__law_met.ok sc__law_met (fun vs H Q E h => ?_) (fun cdv A outer s H vs Q E hr h => ?_)
  · obtain ⟨a, row, far, rfl, _⟩ := h
    rfl
  · obtain ⟨a, row, far, rfl, hS, ok, hfar, k⟩ := h
    refine ⟨_, (pss_cons (ps_asg (pe_tup (pa_cons (pe_lst (pa_cons pe_int pa_nil)) (pa_cons (pe_lst (pa_cons (pv 1) pa_nil)) pa_nil))) (pg_tup (by rfl) (pgs_cons (pg_name (i := 2) sc__law_met.nd rfl (by first | exact Or.inl rfl | exact Or.inr rfl)) (pgs_cons (pg_name (i := 3) sc__law_met.nd rfl (by first | exact Or.inl rfl | exact Or.inr rfl)) pgs_nil))))
      (pss_cons (ps_while PassesOwn.never (pt_cmpR op_lt (pe_op op_add (pe_ix (r := rIxL K) ix_list (pv 2) (pe_un un_neg pe_int) (fun _ _ => rfl)) (pe_ix (r := rIxL K) ix_list (pv 0) (pe_ix (r := rIxL K) ix_list (pv 2) (pe_un un_neg pe_int) (fun _ _ => rfl)) (fun _ _ => rfl))) (pe_callB (r := Evl.rLenS K) call_len_seq (by rfl) T.z_len (by decide +kernel) (pa_cons (pv 0) pa_nil)) (nomark _))
      (pss_one (ps_expr (pe_bm PySem.F.plainAttrs_list PySem.F.slot_list_append PySem.F.type_list_append mt_append (pv 2) (pa_cons (pe_op op_add (pe_ix (r := rIxL K) ix_list (pv 2) (pe_un un_neg pe_int) (fun _ _ => rfl)) (pe_ix (r := rIxL K) ix_list (pv 0) (pe_ix (r := rIxL K) ix_list (pv 2) (pe_un un_neg pe_int) (fun _ _ => rfl)) (fun _ _ => rfl))) pa_nil)))))
      (pss_cons (ps_while PassesOwn.never (pt_cmpR op_lt (pe_op op_add (pe_ix (r := rIxL K) ix_list (pv 3) (pe_un un_neg pe_int) (fun _ _ => rfl)) (pe_ix (r := rIxL K) ix_list (pv 0) (pe_ix (r := rIxL K) ix_list (pv 3) (pe_un un_neg pe_int) (fun _ _ => rfl)) (fun _ _ => rfl))) (pe_callB (r := Evl.rLenS K) call_len_seq (by rfl) T.z_len (by decide +kernel) (pa_cons (pv 0) pa_nil)) (nomark _))
      (pss_one (ps_expr (pe_bm PySem.F.plainAttrs_list PySem.F.slot_list_append PySem.F.type_list_append mt_append (pv 3) (pa_cons (pe_op op_add (pe_ix (r := rIxL K) ix_list (pv 3) (pe_un un_neg pe_int) (fun _ _ => rfl)) (pe_ix (r := rIxL K) ix_list (pv 0) (pe_ix (r := rIxL K) ix_list (pv 3) (pe_un un_neg pe_int) (fun _ _ => rfl)) (fun _ _ => rfl))) pa_nil)))))
      (pss_cons (ps_setLc (i := 4) (own := [("_law_at", 5)]) (by rfl) sc__law_met.nd rfl rfl (sw_true rfl rfl rfl (by decide +kernel)) (pi_list (pv 2)) (blkOk_by (own := [("_law_at", 5)]) (N := ["_law_row", "_law_far", "_law_mine", "_law_theirs", "_law_some", "_law_at"]) (sc := defScope s__law_met) (by decide +kernel)) (fun _ _ _ _ _ => (pg_name (i := 5) sc__law_met.nd rfl (by first | exact Or.inl rfl | exact Or.inr rfl))) (fun _ _ _ _ _ => (pts_one (pt_cmpR (r := rIn K false) op_in_seq (pv 5) (pv 3) (by rfl)))) (fun _ _ _ _ _ => (pv 5)))
      (pss_one (ps_ret (pe_ifExp (pt_cmpR (r := rNeD K) (op_neD hr.units) (pv 4) (pe_lst pa_nil) (nomark _)) (pe_ix (r := rIxL K) ix_list (pv 4) pe_int (fun _ _ => rfl)) pe_non))))))), ?_⟩
    have l1 := ok.l1
    have l60 := ok.l60
    refine q_asgLL (xs := vNs [0]) (ys := vNs [far]) (el_lst (ea_cons ev_c ea_nil) (show 1 ≤ 100000 by decide)) (el_lst (ea_cons (ev_var rfl) ea_nil) (show 1 ≤ 100000 by decide)) fun f g H1 nf ng hfg e1 hf hg => ?_
    refine q_while (fun m σ H' => ∃ acc q, σ = [some (.ref a), some (vN far), some (.ref f), some (.ref g), none, none] ∧ q < row.length ∧ acc.length ≤ q ∧ acc ++ way row q = way row 0 ∧ Ex H H' ∧ H' f = some (.lst (vNs (acc ++ [q]))) ∧ H' g = some (.lst (vNs [far])) ∧ m = row.length - q) (row.length - 0)
      ⟨[], 0, rfl, l1, Nat.zero_le _, rfl, e1, hf, hg, rfl⟩ ?_
    rintro m σ' H' ⟨acc, q, rfl, hq, hal, hw, ex, hf, hg, rfl⟩
    have hrow : SqL K H' a (vNs row) := ex_l ex hS
    have hc1 := ok.c1 _ (mem_getD hq)
    have hlast : ∀ {H2 : Hp}, Ex H' H2 → Ev (tOp (rIxL K) (tVar 2) (tUn (rU fun i => .int (-i)) (tC (.int 1)))) [some (.ref a), some (vN far), some (.ref f), some (.ref g), none, none] H2 (vN q) := fun e2 =>
      ev_op (ev_var rfl) (ev_un ev_c ru_neg) (rv_ixL (sq_of (e2 f _ hf)) (by rw [vNs_app]; exact atI_last _ _))
    have hnext : ∀ {H2 : Hp}, Ex H' H2 → Ev (tOp (rI0 fun i j => .int (i + j)) (tOp (rIxL K) (tVar 2) (tUn (rU fun i => .int (-i)) (tC (.int 1)))) (tOp (rIxL K) (tVar 0) (tOp (rIxL K) (tVar 2) (tUn (rU fun i => .int (-i)) (tC (.int 1)))))) [some (.ref a), some (vN far), some (.ref f), some (.ref g), none, none] H2 (vN (q + row.getD q 0)) := fun e2 =>
      ev_to (ev_op (hlast e2) (ev_op (ev_var rfl) (hlast e2) (rv_ixL (ex_l e2 hrow) (vNs_at (getD_some hq)))) rv_I0) (by unfold vN; rw [Int.natCast_add])
    refine ⟨decide ((q + row.getD q 0 : Nat) < (row.length : Int)), et_test (ev_to (ev_op (hnext (Ex.refl H')) (ev_len (K := K) (ev_var rfl) hrow) rv_I0) (by rw [vNs_len])), fun hb H2 e2 => ?_, fun hb H2 e2 => ?_⟩
    · have hlt : q + row.getD q 0 < row.length := by
        have := of_decide_eq_true hb
        omega
      refine ⟨fun σ3 H3 => σ3 = [some (.ref a), some (vN far), some (.ref f), some (.ref g), none, none] ∧ Ex H H3 ∧ H3 f = some (.lst (vNs ((acc ++ [q]) ++ [q + row.getD q 0]))) ∧ H3 g = some (.lst (vNs [far])), fun σ3 H3 ⟨e3, x3, f3, g3⟩ => ?_, ?_⟩
      · refine ⟨row.length - (q + row.getD q 0), by omega, acc ++ [q], q + row.getD q 0, e3, hlt, ?_, ?_, x3, f3, g3, rfl⟩
        · rw [List.length_append, List.length_singleton]
          omega
        · rw [List.append_assoc, List.singleton_append, ← way_go ok.c1 hq hlt]
          exact hw
      · refine s_app (e2 f _ hf) (ev_var rfl) (hnext e2) ?_ fun H3 e3 => ⟨rfl, ?_, ?_, ?_⟩
        · rw [vNs_len, List.length_append, List.length_singleton]
          omega
        · exact Ex.mut ((ex.trans e2).trans e3) nf
        · rw [upd_same, vNs_app _ [q + row.getD q 0]]
          rfl
        · rw [upd_ne (fun z => hfg z.symm)]
          exact e3 g _ (e2 g _ hg)
    · have hge : ¬ q + row.getD q 0 < row.length := by
        have := of_decide_eq_false hb
        omega
      have hmine : acc ++ [q] = way row 0 := by rw [← hw, way_end ok.c1 hq hge]
      rw [hmine] at hf
      have hf2 := e2 f _ hf
      have hg2 := e2 g _ hg
      have ex2 := ex.trans e2
      clear hlast hnext hb hge hmine hw hal hq hc1
      refine q_while (fun m σ H' => ∃ acc q, σ = [some (.ref a), some (vN far), some (.ref f), some (.ref g), none, none] ∧ q < row.length ∧ acc.length ≤ q ∧ acc ++ way row q = way row far ∧ Ex H H' ∧ H' g = some (.lst (vNs (acc ++ [q]))) ∧ H' f = some (.lst (vNs (way row 0))) ∧ m = row.length - q) (row.length - far)
        ⟨[], far, rfl, hfar, Nat.zero_le _, rfl, ex2, hg2, hf2, rfl⟩ ?_
      rintro m σ' H' ⟨acc, q, rfl, hq, hal, hw, ex, hg, hf, rfl⟩
      have hrow : SqL K H' a (vNs row) := ex_l ex hS
      have hc1 := ok.c1 _ (mem_getD hq)
      have hlast : ∀ {H2 : Hp}, Ex H' H2 → Ev (tOp (rIxL K) (tVar 3) (tUn (rU fun i => .int (-i)) (tC (.int 1)))) [some (.ref a), some (vN far), some (.ref f), some (.ref g), none, none] H2 (vN q) := fun e2 =>
        ev_op (ev_var rfl) (ev_un ev_c ru_neg) (rv_ixL (sq_of (e2 g _ hg)) (by rw [vNs_app]; exact atI_last _ _))
      have hnext : ∀ {H2 : Hp}, Ex H' H2 → Ev (tOp (rI0 fun i j => .int (i + j)) (tOp (rIxL K) (tVar 3) (tUn (rU fun i => .int (-i)) (tC (.int 1)))) (tOp (rIxL K) (tVar 0) (tOp (rIxL K) (tVar 3) (tUn (rU fun i => .int (-i)) (tC (.int 1)))))) [some (.ref a), some (vN far), some (.ref f), some (.ref g), none, none] H2 (vN (q + row.getD q 0)) := fun e2 =>
        ev_to (ev_op (hlast e2) (ev_op (ev_var rfl) (hlast e2) (rv_ixL (ex_l e2 hrow) (vNs_at (getD_some hq)))) rv_I0) (by unfold vN; rw [Int.natCast_add])
      refine ⟨decide ((q + row.getD q 0 : Nat) < (row.length : Int)), et_test (ev_to (ev_op (hnext (Ex.refl H')) (ev_len (K := K) (ev_var rfl) hrow) rv_I0) (by rw [vNs_len])), fun hb H2 e2 => ?_, fun hb H2 e2 => ?_⟩
      · have hlt : q + row.getD q 0 < row.length := by
          have := of_decide_eq_true hb
          omega
        refine ⟨fun σ3 H3 => σ3 = [some (.ref a), some (vN far), some (.ref f), some (.ref g), none, none] ∧ Ex H H3 ∧ H3 g = some (.lst (vNs ((acc ++ [q]) ++ [q + row.getD q 0]))) ∧ H3 f = some (.lst (vNs (way row 0))), fun σ3 H3 ⟨e3, x3, g3, f3⟩ => ?_, ?_⟩
        · refine ⟨row.length - (q + row.getD q 0), by omega, acc ++ [q], q + row.getD q 0, e3, hlt, ?_, ?_, x3, g3, f3, rfl⟩
          · rw [List.length_append, List.length_singleton]
            omega
          · rw [List.append_assoc, List.singleton_append, ← way_go ok.c1 hq hlt]
            exact hw
        · refine s_app (e2 g _ hg) (ev_var rfl) (hnext e2) ?_ fun H3 e3 => ⟨rfl, ?_, ?_, ?_⟩
          · rw [vNs_len, List.length_append, List.length_singleton]
            omega
          · exact Ex.mut ((ex.trans e2).trans e3) ng
          · rw [upd_same, vNs_app _ [q + row.getD q 0]]
            rfl
          · rw [upd_ne hfg]
            exact e3 f _ (e2 f _ hf)
      · have hge : ¬ q + row.getD q 0 < row.length := by
          have := of_decide_eq_false hb
          omega
        have htheirs : acc ++ [q] = way row far := by rw [← hw, way_end ok.c1 hq hge]
        rw [htheirs] at hg
        have hf3 := e2 f _ hf
        have hg3 := e2 g _ hg
        refine q_asgL (xs := vNs (bothL row 0 far)) (el_to (el_filtL (K := K) (fun x => inV x (vNs (way row far))) (fun x => x) (ev_var rfl) (sq_of hf3) ?_ ?_ ?_) ?_) fun so H4 ns e4 hso => ?_
        · rw [vNs_len]
          have := way_len row 0
          omega
        · intro x hx H4 e4
          obtain ⟨n, hn, rfl⟩ := List.mem_map.mp hx
          exact et_test (ev_op (ev_var rfl) (ev_var rfl) (rv_isL (K := K) (sq_of (e4 g _ hg3)) rfl (flat_N _)))
        · intro x hx H4 e4 _
          exact ev_var rfl
        · rw [List.map_id', filt_N, both_sym ok.c1 l1 hfar]
          rfl
        have gb : Good (pdN (bothL row 0 far)) := good_N (fun n hn => by
          have := way_lt hfar n (List.mem_filter.mp hn).1
          omega) (by
          have h5 : (bothL row 0 far).length ≤ (way row far).length := List.length_filter_le ..
          have := way_len row far
          omega)
        exact s_ret (ev_head (K := K) rfl (sq_of hso) gb) fun H5 e5 => k H5 ((ex.trans e2).trans (e4.trans e5))
theorem sv_met {H : Hp} {a : Addr} {row : List Nat} {far : Nat} (hS : SqL K H a (vNs row)) (ok : RowOk row) (h : far < row.length) : SpV (sp_met K) ([.ref a, vN far] ++ []) H (optV (firstC row 0 far)) := fun H1 e Q q E => ⟨a, row, far, rfl, ex_l e hS, ok, h, q⟩
end

/-! ### the law: shares; all -/
section
variable {P : Program} {w : World} {K : PySem.W.Frag} {mg : Str → Option Value} {base : Heap}
def smallL : List (Nat × Nat) := [(1, 4), (2, 4), (3, 3), (4, 2), (3, 1)]
def smallD (p : Nat × Nat) : PyData := .tuple [.int (p.1 : Int), .int (p.2 : Int)]
theorem small_ok : ∀ p ∈ smallL, 1 ≤ p.1 ∧ p.1 ≤ 20 ∧ 1 ≤ p.2 ∧ p.2 ≤ 60 ∧ p.1 ^ p.2 ≤ 40000 := by decide
def metN (far : Nat) (rs : List (List Nat)) : Nat := rs.countP fun r => (firstF r far).isSome
theorem metN_all {c m far : Nat} (hf : far < m) : metN far (rowsL c m) = (meetL c m far).sum := by
  rw [meetL_sum hf, ← rowsL_sum]
  unfold metN
  have := count_sum (fun r : List Nat => (firstF r far).isSome = true) (rowsL c m)
  rw [this]
  congr 1
  funext r
  cases (firstF r far).isSome <;> rfl
theorem metN_put {far : Nat} {rs : List (List Nat)} {r : List Nat} {p : Nat} (h : firstF r far = some p) : metN far (rs ++ [r]) = metN far rs + 1 := by
  unfold metN
  rw [List.countP_append, List.countP_singleton, h]
  rfl
theorem metN_skip {far : Nat} {rs : List (List Nat)} {r : List Nat} (h : firstF r far = none) : metN far (rs ++ [r]) = metN far rs := by
  unfold metN
  rw [List.countP_append, List.countP_singleton, h]
  rfl
theorem part_some {t b k : Nat} (hg : Nat.gcd t b = 1) (hk : 2 ≤ k) : (decide ((0 : Int) < (t : Int) % (k : Int)) || decide ((0 : Int) < (b : Int) % (k : Int))) = true := by
  rw [Bool.or_eq_true, decide_eq_true_iff, decide_eq_true_iff]
  by_cases h1 : t % k = 0
  · by_cases h2 : b % k = 0
    · have d1 : k ∣ t := Nat.dvd_of_mod_eq_zero h1
      have d2 : k ∣ b := Nat.dvd_of_mod_eq_zero h2
      have d3 : k ∣ 1 := by
        rw [← hg]
        exact Nat.dvd_gcd d1 d2
      have := Nat.le_of_dvd (by decide) d3
      omega
    · right
      rw [← Int.natCast_emod]
      omega
  · left
    rw [← Int.natCast_emod]
    omega
theorem sh_cross {c m far : Nat} (hp : 0 < c ^ m) : shTop c m far * c ^ m = shBot c m far * (meetL c m far).sum := low_cross hp
theorem sh_coprime {c m far : Nat} (hp : 0 < c ^ m) : Nat.gcd (shTop c m far) (shBot c m far) = 1 := low_gcd hp
theorem shTop_le {c m far : Nat} (hf : far < m) : shTop c m far ≤ c ^ m := Nat.le_trans (Nat.div_le_self _ _) (meetL_sum_le hf)
theorem shBot_le {c m far : Nat} : shBot c m far ≤ c ^ m := Nat.div_le_self _ _
theorem sh_zero {c m : Nat} (hp : 0 < c ^ m) (hm : 0 < m) : shTop c m 0 = 1 ∧ shBot c m 0 = 1 := by
  have := low_same hp
  unfold topOf botOf at this
  unfold shTop shBot
  rw [sum_zero hm]
  exact this
theorem sh_ones {m far : Nat} (hf : far < m) : shTop 1 m far = 1 ∧ shBot 1 m far = 1 := by
  unfold shTop shBot
  rw [sum_ones hf, Nat.one_pow]
  decide +kernel
theorem ok__law_shares_right (T : Tx K mg) : FnOk P w K mg base CX0 5 T.f__law_shares_right T.d__law_shares_right ["_law_card"] sp_card := by
  refine T.F__law_shares_right.ok sc__law_shares_right (fun vs H Q E h => ?_) (fun cdv A outer s H vs Q E hr h => ?_)
  · obtain ⟨cd, rfl, _⟩ := h
    rfl
  · obtain ⟨cd, rfl, cd1, cd20, k⟩ := h
    refine ⟨_, (pss_cons (ps_for PassesOwn.never rfl (pi_tup (pe_tup (pa_cons (pe_tup (pa_cons pe_int (pa_cons pe_int pa_nil))) (pa_cons (pe_tup (pa_cons pe_int (pa_cons pe_int pa_nil))) (pa_cons (pe_tup (pa_cons pe_int (pa_cons pe_int pa_nil))) (pa_cons (pe_tup (pa_cons pe_int (pa_cons pe_int pa_nil))) (pa_cons (pe_tup (pa_cons pe_int (pa_cons pe_int pa_nil))) pa_nil))))))) (pg_tup (by rfl) (pgs_cons (pg_name (i := 1) sc__law_shares_right.nd rfl (by first | exact Or.inl rfl | exact Or.inr rfl)) (pgs_cons (pg_name (i := 2) sc__law_shares_right.nd rfl (by first | exact Or.inl rfl | exact Or.inr rfl)) pgs_nil)))
      (pss_cons (ps_set (i := 3) sc__law_shares_right.nd rfl (by first | exact Or.inl rfl | exact Or.inr rfl) (pe_call (ok__law_rows T) (hr.mono (by decide)) (by rfl) T.m__law_rows T.F__law_rows.kp T.b__law_rows .nil pass0 (pa_cons (pv 1) (pa_cons (pv 2) pa_nil))))
      (pss_one (ps_for PassesOwn.never rfl (pi_range1 (by rfl) T.z_range (pa_cons (pv 2) pa_nil)) (pg_name (i := 4) sc__law_shares_right.nd rfl (by first | exact Or.inl rfl | exact Or.inr rfl))
      (pss_cons (ps_par (i := 5) (j := 6) (by rfl) sc__law_shares_right.nd rfl rfl (by decide) rfl rfl (pa_cons (pe_op op_rep (pe_lst (pa_cons pe_int pa_nil)) (pv 2)) (pa_cons pe_int pa_nil)) (by rfl))
      (pss_cons (ps_for PassesOwn.never rfl (pi_list (pv 3)) (pg_name (i := 7) sc__law_shares_right.nd rfl (by first | exact Or.inl rfl | exact Or.inr rfl))
      (pss_cons (ps_set (i := 8) sc__law_shares_right.nd rfl (by first | exact Or.inl rfl | exact Or.inr rfl) (pe_call (ok__law_met T) (hr.mono (by decide)) (by rfl) T.m__law_met T.F__law_met.kp T.b__law_met .nil pass0 (pa_cons (pv 7) (pa_cons (pv 4) pa_nil))))
      (pss_one (ps_if (pt_cmpR op_notN (pv 8) pe_non (nomark _)) (pss_one (ps_asg (pe_tup (pa_cons (pe_op op_add (pe_ix (r := rIxL K) ix_list (pv 5) (pv 8) (fun _ _ => rfl)) pe_int) (pa_cons (pe_op op_add (pv 6) pe_int) pa_nil))) (pg_tup (by rfl) (pgs_cons (pg_sub (pv 5) (pv 8) set_list) (pgs_cons (pg_name (i := 6) sc__law_shares_right.nd rfl (by first | exact Or.inl rfl | exact Or.inr rfl)) pgs_nil))))) pss_nil))))
      (pss_cons (ps_asg (pe_call (ok_share T) hr (by rfl) T.m_share T.F_share.kp T.b_share .nil pass0 (pa_cons (pv 1) (pa_cons (pv 2) (pa_cons (pv 4) pa_nil)))) (pg_tup (by rfl) (pgs_cons (pg_name (i := 9) sc__law_shares_right.nd rfl (by first | exact Or.inl rfl | exact Or.inr rfl)) (pgs_cons (pg_name (i := 10) sc__law_shares_right.nd rfl (by first | exact Or.inl rfl | exact Or.inr rfl)) pgs_nil))))
      (pss_cons (ps_if (PW.pt (pw_or (pt_cmpR (r := rNeD K) (op_neD hr.units) (pe_call (ok_meetings T) hr (by rfl) T.m_meetings T.F_meetings.kp T.b_meetings .nil pass0 (pa_cons (pv 1) (pa_cons (pv 2) (pa_cons (pv 4) pa_nil)))) (pv 5) (nomark _)) (pw_or1 (pt_cmpR op_ne (pe_op op_mulX (pv 9) (pe_callB (r := Evl.rLenS K) call_len_seq (by rfl) T.z_len (by decide +kernel) (pa_cons (pv 3) pa_nil))) (pe_op op_mulX (pv 6) (pv 10)) (nomark _))))) (pss_one (ps_ret pe_bl)) pss_nil)
      (pss_one (ps_if (pt_not (pt_val (pe_callB (r := rAll K) (cr_all rfl) (by rfl) T.z_all (by decide +kernel) (pa_cons (pe_lc (own := [("_law_part", 11)]) (by rfl) sc__law_shares_right.nd (pi_range2 (by rfl) T.z_range (pa_cons pe_int (pa_cons pe_int pa_nil))) (blkOk_by (own := [("_law_part", 11)]) (N := ["_law_card", "_law_cards", "_law_many", "_law_rows_here", "_law_far", "_law_due", "_law_met_here", "_law_row", "_law_place", "_law_top", "_law_bottom", "_law_part", "error"]) (sc := defScope s__law_shares_right) (by decide +kernel)) (fun _ _ _ _ _ => (pg_name (i := 11) sc__law_shares_right.nd rfl (by first | exact Or.inl rfl | exact Or.inr rfl))) (fun _ _ _ _ _ => pts_nil) (fun _ _ _ _ _ => (pe_or (pe_cmpR op_gt (pe_op op_mod (pv 9) (pv 11)) pe_int (nomark _)) (pe_one (pe_cmpR op_gt (pe_op op_mod (pv 10) (pv 11)) pe_int (nomark _)))))) pa_nil)))) (pss_one (ps_ret pe_bl)) pss_nil))))))))))
      (pss_cons (ps_if (pt_cmpR (r := rNeD K) (op_neD hr.units) (pe_call (ok_meetings T) hr (by rfl) T.m_meetings T.F_meetings.kp T.b_meetings .nil pass0 (pa_cons pe_int (pa_cons pe_int (pa_cons pe_int pa_nil)))) (pe_op op_cat (pe_lst (pa_cons (pe_op op_pow pe_int pe_int) pa_nil)) (pe_op op_rep (pe_lst (pa_cons pe_int pa_nil)) pe_int)) (nomark _)) (pss_one (ps_ret pe_bl)) pss_nil)
      (pss_cons (ps_if (pt_cmpR (r := rNeD K) (op_neD hr.units) (pe_call (ok_share T) hr (by rfl) T.m_share T.F_share.kp T.b_share .nil pass0 (pa_cons pe_int (pa_cons pe_int (pa_cons pe_int pa_nil)))) (pe_tup (pa_cons pe_int (pa_cons pe_int pa_nil))) (nomark _)) (pss_one (ps_ret pe_bl)) pss_nil)
      (pss_cons (ps_if (pt_cmpR (r := rNeD K) (op_neD hr.units) (pe_call (ok_share T) hr (by rfl) T.m_share T.F_share.kp T.b_share .nil pass0 (pa_cons pe_int (pa_cons pe_int (pa_cons pe_int pa_nil)))) (pe_tup (pa_cons pe_int (pa_cons pe_int pa_nil))) (nomark _)) (pss_one (ps_ret pe_bl)) pss_nil)
      (pss_cons (ps_if (pt_cmpR (r := rNeD K) (op_neD hr.units) (pe_call (ok_meetings T) hr (by rfl) T.m_meetings T.F_meetings.kp T.b_meetings .nil pass0 (pa_cons pe_int (pa_cons pe_int (pa_cons pe_int pa_nil)))) (pe_lst (pa_cons pe_int (pa_cons pe_int (pa_cons pe_int pa_nil)))) (nomark _)) (pss_one (ps_ret pe_bl)) pss_nil)
      (pss_cons (ps_if (pt_cmpR op_ne (pe_op op_mulX (pe_callB (r := rSum K) (cr_sum rfl) (by rfl) T.z_sum (by decide +kernel) (pa_cons (pe_call (ok_meetings T) hr (by rfl) T.m_meetings T.F_meetings.kp T.b_meetings .nil pass0 (pa_cons (pv 0) (pa_cons pe_int (pa_cons pe_int pa_nil)))) pa_nil)) (pe_ix (r := rIxT K) ix_tup (pe_call (ok_share T) hr (by rfl) T.m_share T.F_share.kp T.b_share .nil pass0 (pa_cons (pv 0) (pa_cons pe_int (pa_cons pe_int pa_nil)))) pe_int (fun _ _ => rfl))) (pe_op op_mulX (pe_ix (r := rIxT K) ix_tup (pe_call (ok_share T) hr (by rfl) T.m_share T.F_share.kp T.b_share .nil pass0 (pa_cons (pv 0) (pa_cons pe_int (pa_cons pe_int pa_nil)))) pe_int (fun _ _ => rfl)) (pe_op op_pow (pv 0) pe_int)) (nomark _)) (pss_one (ps_ret pe_bl)) pss_nil)
      (pss_cons (ps_if (pt_cmpR (r := rNeD K) (op_neD hr.units) (pe_call (ok_share T) hr (by rfl) T.m_share T.F_share.kp T.b_share .nil pass0 (pa_cons pe_int (pa_cons pe_int (pa_cons pe_int pa_nil)))) (pe_tup (pa_cons pe_int (pa_cons pe_int pa_nil))) (nomark _)) (pss_one (ps_ret pe_bl)) pss_nil)
      (pss_one (ps_try_as (i := 12) rfl rfl sc__law_shares_right.nd rfl rfl ⟨rfl, by decide, .inl T.m_CardError⟩ takes0
      (fun W pn xe tk _ => (pss_one (ps_ret (pe_cmpR (r := rEqD K) (op_eqD hr.units) (pe_callS (okX_meetings T) hr (by rfl) T.m_meetings T.F_meetings.kp T.b_meetings (fun σ => passAt tk σ) (pa_cons (pv 0) (pa_cons pe_int (pa_cons pe_int pa_nil)))) pe_int (nomark _)))))
      (fun a0 oe cls0 d0 pn hz hf => (pss_one (ps_ret (pe_callB (r := rIsX K a0 cls0 d0) (call_isX hz hf) (by rfl) T.z_isinstance (by decide +kernel) (pa_cons (pv 12) (pa_cons (pe_glob (v := .ref T.a_BadFar) (by rfl) T.m_BadFar rfl) pa_nil))))))))))))))), ?_⟩
    have pair : ∀ {x y : Nat} {σ : L2.St} {H : Hp}, EvN K (tTup (tCons (tC (vN x)) (tCons (tC (vN y)) tNil))) σ H (smallD (x, y)) := fun {x y σ H} => en_tup (ena_cons (en_N ev_c) (ena_cons (en_N ev_c) ena_nil)) (show 2 ≤ 100000 by decide)
    refine q_forDT (K := K) (ds := smallL.map smallD) (en_tup (ena_cons pair (ena_cons pair (ena_cons pair (ena_cons pair (ena_cons pair ena_nil))))) (show 5 ≤ 100000 by decide)).toD
      (fun Hb i σ' H' => ∃ y1 y2 y3 y4 y5 y6 y7 y8 y9 y10, σ' = [some (vN cd), y1, y2, y3, y4, y5, y6, y7, y8, y9, y10, none, none] ∧ Ex Hb H') (fun H1 e1 => ⟨none, none, none, none, none, none, none, none, none, none, rfl, Ex.refl H1⟩) (fun Hb i σ' H' ⟨_, _, _, _, _, _, _, _, _, _, _, e⟩ => e) ?_ ?_
    · rintro H1 e1 i x d σ' H2 hd hx ⟨y1, y2, y3, y4, y5, y6, y7, y8, y9, y10, rfl, e2⟩
      obtain ⟨r, hr5, rfl⟩ := List.mem_map.mp (List.mem_of_getElem? hd)
      obtain ⟨c, m⟩ := r
      obtain ⟨hc1, hc20, hm1, hm60, hcm⟩ := small_ok _ hr5
      simp only at hc1 hc20 hm1 hm60 hcm
      refine g_pair hx ?_
      refine q_asgR (er_call (ea_cons (ev_var rfl) (ea_cons (ev_var rfl) ea_nil)) (sr_rows hc1 hc20 hm60 hcm)) fun l xs H3 e3 nl hl hrs => ?_
      have hrs3 := hrs.ex (new_ex H2 H3)
      have hmem : ∀ r ∈ rowsL c m, r.length = m ∧ ∀ x ∈ r, 1 ≤ x ∧ x ≤ c := fun r hr => rowsL_mem hr
      have hrl := rowsL_len c m
      refine s_forR1 (n := (m : Int)) (ea_cons (ev_var rfl) ea_nil) ⟨by omega, by omega⟩
        (fun i σ' H' => ∃ y4 y5 y6 y7 y8 y9 y10, σ' = [some (vN cd), some (vN c), some (vN m), some (.ref l), y4, y5, y6, y7, y8, y9, y10, none, none] ∧ Ex H3 H') (fun H4 e4 => ⟨_, _, _, _, _, _, _, rfl, e4⟩) ?_ ?_
      · rintro far σ' H4 hfar ⟨y4, y5, y6, y7, y8, y9, y10, rfl, e4⟩
        have hfl : far < m := by omega
        have ok : ShOk c m far := ⟨hc1, hc20, hm1, hm60, hfl⟩
        refine q_parLV (xs := vNs (tallyL m far [])) (y := vN 0) (el_to (el_rep (k := m) (el_lst (ea_cons ev_c ea_nil) (show 1 ≤ 100000 by decide)) (ev_var rfl) (show 1 * m ≤ 100000 by omega) (by omega)) ?_) ev_c fun du H5 ndu e5 hdu => ?_
        · rw [tally_nil]
          show (List.replicate m [vN 0]).flatten = (List.replicate m 0).map vN
          rw [List.map_replicate]
          exact List.flatten_replicate_singleton
        generalize hrr : rowsL c m = rs at *
        refine q_forLn (K := K) (xs := xs) (ev_var rfl) (sq_of (e5 l _ (e4 l _ hl)))
          (fun j σ' H' => ∃ y7 y8, σ' = [some (vN cd), some (vN c), some (vN m), some (.ref l), some (vN far), some (.ref du), some (vN (metN far (rs.take j))), y7, y8, y9, y10, none, none] ∧ Ex H4 H' ∧ H' du = some (.lst (vNs (tallyL m far (rs.take j)))))
          (fun H6 e6 => ⟨y7, y8, by rw [List.take_zero]; rfl, e5.trans e6, by rw [List.take_zero]; exact e6 du _ hdu⟩) (fun j σ' H' _ ⟨_, _, _, e, _⟩ => sq_of (e l _ (e4 l _ hl))) ?_ ?_
        · rintro j x σ' H6 hx6 ⟨y7, y8, rfl, e6, hdu6⟩
          have hj : j < rs.length := by
            rw [← hrs3.1]
            exact (List.getElem?_eq_some_iff.mp hx6).1
          obtain ⟨b, hb1, hb2⟩ := hrs3.2 j _ (List.getElem?_eq_getElem hj)
          have hxb : x = .ref b := Option.some.inj (hx6.symm.trans hb1)
          subst hxb
          have hb : H6 b = some (.lst (vNs rs[j])) := e6 b _ (e4 b _ hb2)
          obtain ⟨rl, rc⟩ := hmem _ (List.getElem_mem hj)
          have rok : RowOk rs[j] := ⟨by omega, by omega, fun x hx => (rc x hx).1, fun x hx => Nat.le_trans (rc x hx).2 hc20⟩
          have hst : rs.take (j + 1) = rs.take j ++ [rs[j]] := by
            rw [List.take_add_one, List.getElem?_eq_getElem hj]
            rfl
          have hff : firstF rs[j] far = firstC rs[j] 0 far := by
            unfold firstF
            rw [if_pos (by omega)]
          refine q_asg (ev_call (ea_cons (ev_var rfl) (ea_cons (ev_var rfl) ea_nil)) (sv_met (sq_of hb) rok (by omega))) fun H7 e7 => ?_
          have hdu7 := e7 du _ hdu6
          cases hq : firstC rs[j] 0 far with
          | none =>
            refine s_when (b := false) (evT_to (et_test (ev_op (ev_var rfl) ev_c rv_notN)) (by decide)) (fun z => nomatch z) fun _ H8 e8 => ⟨some (.ref b), some (optV none), ?_, (e6.trans e7).trans e8, ?_⟩
            · rw [hst, metN_skip (hff.trans hq)]
              rfl
            · rw [hst, tally_skip (hff.trans hq)]
              exact e8 du _ hdu7
          | some p =>
            have hp : p < m := by
              have h1 : p ∈ bothL rs[j] 0 far := List.mem_of_head? hq
              have := way_lt (row := rs[j]) (p := far) (by omega) p (List.mem_filter.mp h1).1
              omega
            refine s_when (b := true) (evT_to (et_test (ev_op (ev_var rfl) ev_c rv_notN)) (show (!decide (V.int (p : Int) = V.non)) = true by rw [decide_eq_false (fun z => nomatch z)]; rfl)) (fun _ H8 e8 => ?_) fun z => nomatch z
            have hdu8 := e8 du _ hdu7
            have hat := tally_at (m := m) (far := far) (q := p) (rs := rs.take j) hp
            refine s_asgSN (K := K) (j := p) (x := vN (((rs.take j).countP fun r => decide (firstF r far = some p)) + 1)) (y := vN (metN far (rs.take j) + 1)) hdu8 (ev_to (ev_op (ev_op (ev_var rfl) (ev_var rfl) (rv_ixL (K := K) (sq_of hdu8) (vNs_at hat))) ev_c rv_I0) ?_) (ev_to (ev_op (ev_var rfl) ev_c rv_I0) ?_) (ev_var rfl) (ev_var rfl) (by rw [vNs_len, tally_len]; exact hp) fun H9 e9 => ⟨some (.ref b), some (optV (some p)), ?_, Ex.mut (((e6.trans e7).trans e8).trans e9) ndu, ?_⟩
            · show V.int _ = V.int _
              rw [Int.natCast_add]
              rfl
            · show V.int _ = V.int _
              rw [Int.natCast_add]
              rfl
            · rw [hst, metN_put (hff.trans hq)]
              rfl
            · rw [upd_same, hst, tally_put (hff.trans hq)]
              unfold vNs
              rw [List.map_set]
        · rintro σ' H6 ⟨y7, y8, rfl, e6, hdu6⟩
          rw [show xs.length = rs.length from hrs3.1, List.take_length] at *
          have ht : tallyL m far rs = meetL c m far := by rw [← hrr]; exact tally_meet hfl
          have hmt : metN far rs = (meetL c m far).sum := by rw [← hrr]; exact metN_all hfl
          rw [ht] at hdu6
          rw [hmt]
          have hpos : 0 < c ^ m := Nat.pow_pos hc1
          have hsl := meetL_sum_le (c := c) (m := m) hfl
          have hcr : shTop c m far * c ^ m = shBot c m far * (meetL c m far).sum := low_cross hpos
          have hgc : Nat.gcd (shTop c m far) (shBot c m far) = 1 := low_gcd hpos
          have hT1 : shTop c m far ≤ c ^ m := Nat.le_trans (Nat.div_le_self _ _) hsl
          have hB1 : shBot c m far ≤ c ^ m := Nat.div_le_self _ _
          refine q_asgT2 (K := K) (eu_call (ea_cons (ev_var rfl) (ea_cons (ev_var rfl) (ea_cons (ev_var rfl) ea_nil))) (su_share ok)) fun H7 e7 => ?_
          generalize shTop c m far = tp at *
          generalize shBot c m far = bt at *
          refine q_when (b := false) (evT_to (et_or (a := false) (et_test (ev_to (ev_neD (K := K) (en_Ns (el_call (ea_cons (ev_var rfl) (ea_cons (ev_var rfl) (ea_cons (ev_var rfl) ea_nil))) (sl_meetings ok))).toD (ed_var rfl (dp_N (sq_of (e7 du _ hdu6)))) (shN _) (shN _)) (w := V.bl false) (by rw [reflN]; rfl))) fun _ =>
            et_test (ev_op (ev_to (ev_op (ev_var rfl) (ev_to (ev_len (K := K) (ev_var rfl) (sq_of (e7 l _ (e6 l _ (e4 l _ hl))))) (w := vN (c ^ m)) ?_) (rv_I (mulok_left (by omega) (by omega)))) (w := vN (tp * c ^ m)) ?_) (ev_to (ev_op (ev_var rfl) (ev_var rfl) (rv_I (mulok_right (by omega) (by omega)))) (w := vN (tp * c ^ m)) ?_) (rv_ne rfl))) ?_) (fun z => nomatch z) fun _ H8 e8 => ?_
          · rw [hrs3.1, hrl]
            rfl
          · show V.int _ = V.int _
            rw [Int.natCast_mul]
          · show V.int _ = V.int _
            rw [hcr, Int.natCast_mul, Int.mul_comm]
          · rw [decide_eq_true rfl]
            rfl
          refine s_when (b := false) (evT_to (et_not (et_B (ev_allN (K := K) (bs := (List.range 8).map fun _ => true) (el_to (el_mapR2 (n := 8) (lo := 2) (hi := 10) (fun _ => V.bl true) (ea_cons ev_c (ea_cons ev_c ea_nil)) (by decide) (by decide) (by decide) (by decide) fun i hi H9 e9 => ?_) (by rw [List.map_map]; rfl))))) (by decide)) (fun z => nomatch z) fun _ H9 e9 => ⟨_, _, _, _, _, _, _, rfl, ((e4.trans e6).trans e7).trans (e8.trans e9)⟩
          refine ev_to (ev_orV (ev_op (ev_op (ev_var rfl) (ev_var rfl) (rv_I (show (0 : Int) < 2 + (i : Int) by omega))) ev_c rv_I0) fun _ => ev_op (ev_op (ev_var rfl) (ev_var rfl) (rv_I (show (0 : Int) < 2 + (i : Int) by omega))) ev_c rv_I0) ?_
          have := part_some (k := 2 + i) hgc (by omega)
          rw [show ((2 + i : Nat) : Int) = 2 + (i : Int) by omega] at this
          exact congrArg V.bl this
      · rintro σ' H4 ⟨y4, y5, y6, y7, y8, y9, y10, rfl, e4⟩
        exact ⟨_, _, _, _, _, _, _, _, _, _, rfl, (e2.trans e3).trans e4⟩
    · rintro H1 e1 σ' H2 ⟨y1, y2, y3, y4, y5, y6, y7, y8, y9, y10, rfl, e2⟩
      have okA : ShOk 20 60 0 := ⟨by decide, by decide, by decide, by decide, by decide⟩
      have okB : ShOk 1 60 59 := ⟨by decide, by decide, by decide, by decide, by decide⟩
      have okC : ShOk 1 3 2 := ⟨by decide, by decide, by decide, by decide, by decide⟩
      have okD : ShOk cd 60 1 := ⟨cd1, cd20, by decide, by decide, by decide⟩
      have okE : ShOk 2 2 1 := ⟨by decide, by decide, by decide, by decide, by decide⟩
      have neU : ∀ {c m far t b : Nat} {σ : L2.St} {H : Hp}, ShOk c m far → shTop c m far = t → shBot c m far = b → EvD K (tCall sp_share [] E (tCons (tC (vN c)) (tCons (tC (vN m)) (tCons (tC (vN far)) tNil)))) σ H (.tuple [.int (t : Int), .int (b : Int)]) := fun {c m far t b σ H} ok ht hb =>
        (en_u2 (eu_call (xs := [vN t, vN b]) (ea_cons ev_c (ea_cons ev_c (ea_cons ev_c ea_nil))) (by have := su_share (H := H) ok; rw [ht, hb] at this; exact this))).toD
      have tu2 : ∀ {t b : Nat} {σ : L2.St} {H : Hp}, EvD K (tTup (tCons (tC (vN t)) (tCons (tC (vN b)) tNil))) σ H (.tuple [.int (t : Int), .int (b : Int)]) := fun {t b σ H} => (en_tup (ena_cons (en_N ev_c) (ena_cons (en_N ev_c) ena_nil)) (show 2 ≤ 100000 by decide)).toD
      refine q_neN (K := K) (l := 20 ^ 60 :: List.replicate 59 0) (el_to (el_call (ea_cons ev_c (ea_cons ev_c (ea_cons ev_c ea_nil))) (sl_meetings okA)) (by rw [meetL_zero])) (el_to (el_cat (xs := [vN (20 ^ 60)]) (el_lst (ea_cons (ev_to (ev_op ev_c ev_c (rv_I (C := CPow) (g := fun i j => .int (i ^ j.toNat)) (i := 20) (j := 60) ⟨by decide, by decide, by decide⟩)) (by decide +kernel)) ea_nil) (show 1 ≤ 100000 by decide)) (el_rep (k := 59) (el_lst (ea_cons ev_c ea_nil) (show 1 ≤ 100000 by decide)) ev_c (show 59 ≤ 100000 by decide) (by decide)) (by decide +kernel)) ?_) fun H3 e3 => ?_
      · show [vN (20 ^ 60)] ++ (List.replicate 59 [vN 0]).flatten = vN (20 ^ 60) :: (List.replicate 59 0).map vN
        rw [List.map_replicate, List.flatten_replicate_singleton]
        rfl
      have sA : shTop 20 60 0 = 1 ∧ shBot 20 60 0 = 1 := sh_zero (c := 20) (m := 60) (Nat.pow_pos (by decide)) (by decide)
      refine q_neD (K := K) (neU okA sA.1 sA.2) tu2 (shT2 _ _) (reflT2 _ _) fun H4 e4 => ?_
      have sB : shTop 1 60 59 = 1 ∧ shBot 1 60 59 = 1 := sh_ones (m := 60) (far := 59) (by decide)
      refine q_neD (K := K) (neU okB sB.1 sB.2) tu2 (shT2 _ _) (reflT2 _ _) fun H5 e5 => ?_
      have mC : meetL 1 3 2 = [0, 0, 1] := by
        rw [meetL_ev (by decide)]
        decide +kernel
      refine q_neN (K := K) (l := [0, 0, 1]) (el_to (el_call (ea_cons ev_c (ea_cons ev_c (ea_cons ev_c ea_nil))) (sl_meetings okC)) (by rw [mC])) (el_lst (ea_cons ev_c (ea_cons ev_c (ea_cons ev_c ea_nil))) (show 3 ≤ 100000 by decide)) fun H6 e6 => ?_
      have hpos : 0 < cd ^ 60 := Nat.pow_pos cd1
      have hcr : shTop cd 60 1 * cd ^ 60 = shBot cd 60 1 * (meetL cd 60 1).sum := sh_cross (c := cd) (m := 60) (far := 1) hpos
      have hsl := meetL_sum_le (c := cd) (m := 60) (far := 1) (by decide)
      have h260 : cd ^ 60 < 2 ^ 260 := pow260 cd20 (by decide)
      have hT1 : shTop cd 60 1 ≤ cd ^ 60 := shTop_le (c := cd) (m := 60) (far := 1) (by decide)
      have hB1 : shBot cd 60 1 ≤ cd ^ 60 := shBot_le (c := cd) (m := 60) (far := 1)
      have hsu : ∀ H : Hp, SpU sp_share ([vN cd, vN 60, vN 1] ++ []) H [vN (shTop cd 60 1), vN (shBot cd 60 1)] := fun H => su_share okD
      have hme : ∀ H : Hp, SpL sp_meetings ([vN cd, vN 60, vN 1] ++ []) H (vNs (meetL cd 60 1)) := fun H => sl_meetings okD
      generalize shTop cd 60 1 = tp at *
      generalize shBot cd 60 1 = bt at *
      generalize hml : meetL cd 60 1 = ml at *
      have bit : ∀ n, n ≤ cd ^ 60 → Builtin.Int.intBits ((n : Nat) : Int) ≤ 260 := fun n hn => bits_of_lt (by rw [Int.natAbs_natCast]; exact Nat.lt_of_le_of_lt hn h260)
      have b1 := bit tp hT1
      have b2 := bit bt hB1
      have b3 := bit _ hsl
      have b4 := bit (cd ^ 60) (Nat.le_refl _)
      refine q_neV (v := vN (tp * cd ^ 60)) (ev_to (ev_op (ev_sumN (K := K) (el_call (ea_cons (ev_var rfl) (ea_cons ev_c (ea_cons ev_c ea_nil))) (hme _))) (ev_ixU (K := K) (v := vN bt) (eu_call (ea_cons (ev_var rfl) (ea_cons ev_c (ea_cons ev_c ea_nil))) (hsu _)) ev_c (atI_nat (j := 1) rfl)) (rv_I (mulok_bits (by omega)))) ?_) (ev_to (ev_op (ev_ixU (K := K) (v := vN tp) (eu_call (ea_cons (ev_var rfl) (ea_cons ev_c (ea_cons ev_c ea_nil))) (hsu _)) ev_c (atI_nat (j := 0) rfl)) (ev_to (ev_op (ev_var rfl) ev_c (rv_I (C := CPow) (g := fun i j => .int (i ^ j.toNat)) (i := (cd : Int)) (j := 60) ⟨by decide, by decide, by rw [Int.natAbs_natCast]; omega⟩)) (w := vN (cd ^ 60)) ?_) (rv_I (mulok_bits (by omega)))) ?_) rfl fun H7 e7 => ?_
      · show V.int _ = V.int _
        rw [hcr, Int.natCast_mul, Int.mul_comm]
      · show V.int ((cd : Int) ^ 60) = V.int ((cd ^ 60 : Nat) : Int)
        rw [Int.natCast_pow]
      · show V.int _ = V.int _
        rw [Int.natCast_mul]
      have mE : meetL 2 2 1 = [0, 2] := by
        rw [meetL_ev (by decide)]
        decide +kernel
      have sE : shTop 2 2 1 = 1 ∧ shBot 2 2 1 = 2 := by
        unfold shTop shBot
        rw [mE]
        decide +kernel
      refine q_neD (K := K) (neU okE sE.1 sE.2) tu2 (shT2 _ _) (reflT2 _ _) fun H8 e8 => ?_
      -- refused
      refine s_retX (ea_cons (ev_var rfl) (ea_cons ev_c (ea_cons ev_c ea_nil))) fun H9 e9 Q9 => ⟨cd, 5, 5, rfl, cd1, cd20, by decide, by decide, by decide, fun H10 e10 => ?_⟩
      refine ⟨true, T.xm_BadFar_CardError, fun _ a0 na0 => ?_, fun z => nomatch z⟩
      refine ⟨_, rfl, ⟨T.a_BadFar, rfl, rfl, T.ec_BadFar, .ref T.a_BadFar, .ref T.a_BadFar, true, rfl, fun u hu => hu, T.ki_BadFar_BadFar, ?_⟩⟩
      exact k H10 (((((((((e1.trans e2).trans e3).trans e4).trans e5).trans e6).trans e7).trans e8).trans e9).trans e10)
theorem sh_ints (ns : List Int) : SeqAt.shaped (.list (ns.map PyData.int)) = true ∧ PyData.eqv (.list (ns.map PyData.int)) (.list []) = ns.isEmpty := by
  have h : PyData.canLayAll0 (ns.map PyData.int) = true ∧ PyData.depthAll (ns.map PyData.int) = 0 := by
    induction ns with
    | nil => exact ⟨rfl, rfl⟩
    | cons n r ih =>
      rw [List.map_cons]
      refine ⟨?_, ?_⟩
      · rw [PyData.canLayAll0, ih.1]
        rfl
      · rw [PyData.depthAll, ih.2]
        rfl
  refine ⟨?_, ?_⟩
  · show ((PyData.list (ns.map PyData.int)).canLay0 && decide ((PyData.list (ns.map PyData.int)).depth ≤ 64)) = true
    have e1 : (PyData.list (ns.map PyData.int)).canLay0 = true := h.1
    have e2 : (PyData.list (ns.map PyData.int)).depth ≤ 64 := by
      rw [PyData.depth, h.2]
      decide
    rw [e1, decide_eq_true e2]
    rfl
  · cases ns <;> rfl
theorem dp_ints {H : Hp} : ∀ ns : List Int, DpAll K H (ns.map V.int) (ns.map PyData.int)
  | [] => .nil
  | n :: r => .cons (.int n) (dp_ints r)
def sp_law (K : PySem.W.Frag) : Sp := fun vs H Q _ => ∃ (a : Addr) (ns : List Int), vs = [.ref a] ∧ SqL K H a (ns.map V.int) ∧ ns.length ≤ 63 ∧ BitsOk ns ∧ ∀ H', Q (.bl true) H'
theorem ok_law (T : Tx K mg) : FnOk P w K mg base CX0 6 T.f_law T.d_law ["_law_script"] (sp_law K) := by
  refine T.F_law.ok sc_law (fun vs H Q E h => ?_) (fun cdv A outer s H vs Q E hr h => ?_)
  · obtain ⟨a, ns, rfl, _⟩ := h
    rfl
  · obtain ⟨a, ns, rfl, hS, hlen, hB, q⟩ := h
    refine ⟨_, (pss_cons (ps_set (i := 1) sc_law.nd rfl (by first | exact Or.inl rfl | exact Or.inr rfl) (pe_ifExp (pt_cmpR (r := rNeD K) (op_neD hr.units) (pv 0) (pe_lst pa_nil) (nomark _)) (pe_op op_add pe_int (pe_op op_mod (pe_callB call_abs (by rfl) T.z_abs (by decide +kernel) (pa_cons (pe_ix (r := rIxL K) ix_list (pv 0) pe_int (fun _ _ => rfl)) pa_nil)) pe_int)) pe_int))
      (pss_one (ps_ret (pe_and (pe_call (ok__law_ways_right T) hr (by rfl) T.m__law_ways_right T.F__law_ways_right.kp T.b__law_ways_right .nil pass0 (pa_cons (pv 1) pa_nil)) (pe_and (pe_call (ok__law_compared_right T) (hr.mono (by decide)) (by rfl) T.m__law_compared_right T.F__law_compared_right.kp T.b__law_compared_right .nil pass0 (pa_cons (pv 1) pa_nil)) (pe_one (pe_call (ok__law_shares_right T) hr (by rfl) T.m__law_shares_right T.F__law_shares_right.kp T.b__law_shares_right .nil pass0 (pa_cons (pv 1) pa_nil)))))))), ?_⟩
    obtain ⟨hsh, heq⟩ := sh_ints ns
    obtain ⟨cd, cd1, cd20, hcd⟩ : ∃ cd : Nat, 1 ≤ cd ∧ cd ≤ 20 ∧ Ev (tIf (tTest (tOp (rNeD K) (tVar 0) (tLst tNil))) (tOp (rI0 fun i j => .int (i + j)) (tC (.int 1)) (tOp (rI (fun _ j => 0 < j) fun i j => .int (i % j)) (tCB rAbs (tCons (tOp (rIxL K) (tVar 0) (tC (.int 0))) tNil)) (tC (.int 20)))) (tC (.int 7))) [some (.ref a), none] H (vN cd) := by
      cases ns with
      | nil =>
        exact ⟨7, by decide, by decide, ev_if (b := false) (evT_to (et_test (ev_neD (K := K) (ed_var rfl (.lst hS (dp_ints []))) (en_lst ena_nil (show 0 ≤ 100000 by decide)).toD hsh (by decide +kernel))) (by decide +kernel)) (fun z => nomatch z) fun _ => ev_c⟩
      | cons n r =>
        refine ⟨1 + n.natAbs % 20, by omega, by omega, ev_if (b := true) (evT_to (et_test (ev_neD (K := K) (ed_var rfl (.lst hS (dp_ints (n :: r)))) (en_lst ena_nil (show 0 ≤ 100000 by decide)).toD hsh (by decide +kernel))) (by rw [heq]; rfl)) (fun _ => ev_to (ev_op ev_c (ev_op (ev_abs (ev_op (ev_var rfl) ev_c (rv_ixL (K := K) hS (i := 0) (v := .int n) (atI_nat (j := 0) rfl)))) ev_c (rv_I (by decide))) rv_I0) ?_) (fun z => nomatch z)⟩
        show V.int _ = V.int _
        congr 1
        split <;> omega
    refine q_asg hcd fun H1 e1 => ?_
    exact s_ret (v := .bl true) (ev_to (ev_andV (ev_call (ea_cons (ev_var rfl) ea_nil) (sv_card cd1 cd20)) fun _ => ev_andV (ev_call (ea_cons (ev_var rfl) ea_nil) (sv_card cd1 cd20)) fun _ => ev_call (ea_cons (ev_var rfl) ea_nil) (sv_card cd1 cd20)) rfl) fun H2 e2 => q H2
end

theorem all_mk {l : PySem.W.OpenLaw} {w : World} {K : PySem.W.Frag} {h : Heap} {mg : Str → Option Value} {fa : Addr} (X : K.In h) (G : h.Ns mainGlobals mg) (hfa : mg "law" = some (.ref fa))
    {A_Answer : Addr} (g_Answer : PySem.W.nsIn K mainGlobals "Answer" = some (some (.ref A_Answer)))
    {A_Meet : Addr} (g_Meet : PySem.W.nsIn K mainGlobals "Meet" = some (some (.ref A_Meet)))
    {A_Apart : Addr} (g_Apart : PySem.W.nsIn K mainGlobals "Apart" = some (some (.ref A_Apart)))
    {A_CardError : Addr} (g_CardError : PySem.W.nsIn K mainGlobals "CardError" = some (some (.ref A_CardError)))
    {A_BadFar : Addr} (g_BadFar : PySem.W.nsIn K mainGlobals "BadFar" = some (some (.ref A_BadFar)))
    (pg_Meet : PySem.W.plainGet K A_Meet Str.empty = true)
    (hd_Meet : PySem.W.hasDictIn K A_Meet = true)
    (po_Meet : PySem.W.plainOver K A_Meet = true)
    (sa_Meet : PySem.W.findIn K (.ref A_Meet) "__setattr__" = some (some (.builtin "object.__setattr__")))
    (mk_Meet : PySem.W.makesIn K A_Meet = true)
    (kp_Meet : PySem.W.keepIn K (.ref A_Meet) = true)
    (ca_Meet : PySem.W.findIn K (.ref A_Meet) "__class__" = some (some (.builtin "object.__class__")))
    (mo_Meet : PySem.W.mroIn K A_Meet (.type "object") = some true)
    (na_Meet_place : PySem.W.findIn K (.ref A_Meet) "place" = some none)
    (pg_Apart : PySem.W.plainGet K A_Apart Str.empty = true)
    (hd_Apart : PySem.W.hasDictIn K A_Apart = true)
    (po_Apart : PySem.W.plainOver K A_Apart = true)
    (sa_Apart : PySem.W.findIn K (.ref A_Apart) "__setattr__" = some (some (.builtin "object.__setattr__")))
    (mk_Apart : PySem.W.makesIn K A_Apart = true)
    (kp_Apart : PySem.W.keepIn K (.ref A_Apart) = true)
    (ca_Apart : PySem.W.findIn K (.ref A_Apart) "__class__" = some (some (.builtin "object.__class__")))
    (mo_Apart : PySem.W.mroIn K A_Apart (.type "object") = some true)
    (na_Apart_mine : PySem.W.findIn K (.ref A_Apart) "mine" = some none)
    (na_Apart_theirs : PySem.W.findIn K (.ref A_Apart) "theirs" = some none)
    (ex_CardError : PySem.W.excIn K A_CardError [.type "ValueError", .type "Exception", .type "BaseException", .type "object"] "ValueError.__new__" = true)
    (ek_CardError : PySem.W.keepIn K (.ref A_CardError) = true)
    (eb_CardError : PySem.W.subIn K (.ref A_CardError) (.type "BaseException") = some true)
    (et_CardError : PySem.W.typeIn K (.ref A_CardError) = some (.type "type"))
    (eg_CardError : PySem.W.findIn K (.ref A_CardError) "__getattribute__" = some (some (.builtin "BaseException.__getattribute__")))
    (eq_CardError : PySem.W.findIn K (.ref A_CardError) "__getattr__" = some none)
    (ed_CardError : PySem.W.hasDictIn K A_CardError = true)
    (ea_CardError : PySem.W.findIn K (.ref A_CardError) "__class__" = some (some (.builtin "object.__class__")))
    (em_CardError : PySem.W.mroIn K A_CardError (.type "object") = some true)
    (ex_BadFar : PySem.W.excIn K A_BadFar [.type "ValueError", .type "Exception", .type "BaseException", .type "object"] "ValueError.__new__" = true)
    (ek_BadFar : PySem.W.keepIn K (.ref A_BadFar) = true)
    (eb_BadFar : PySem.W.subIn K (.ref A_BadFar) (.type "BaseException") = some true)
    (et_BadFar : PySem.W.typeIn K (.ref A_BadFar) = some (.type "type"))
    (eg_BadFar : PySem.W.findIn K (.ref A_BadFar) "__getattribute__" = some (some (.builtin "BaseException.__getattribute__")))
    (eq_BadFar : PySem.W.findIn K (.ref A_BadFar) "__getattr__" = some none)
    (ed_BadFar : PySem.W.hasDictIn K A_BadFar = true)
    (ea_BadFar : PySem.W.findIn K (.ref A_BadFar) "__class__" = some (some (.builtin "object.__class__")))
    (em_BadFar : PySem.W.mroIn K A_BadFar (.type "object") = some true)
    (cg : PySem.W.specialIn K (.builtin "object.__class__") "__get__" = some (some (.builtin "getset_descriptor.__get__"))) (ct : PySem.W.takesIn K (.builtin "object.__class__") = some true)
    {f_is_whole : Addr} {od0 an0 : Option Addr} {sl0 : Array (Option Value)} {oc0 kV0 dc0 pm0 cd0 ct0 : Value}
    (a0 : PySem.W.nsIn K mainGlobals "is_whole" = some (some (.ref f_is_whole)))
    (l0 : K.lookup f_is_whole = some ⟨oc0, od0, .func (PySem.W.fnOf "is_whole" "is_whole" (defArgs s_is_whole) (defBody s_is_whole) (defScope s_is_whole) .none kV0 dc0 pm0 an0 cd0 ct0), sl0⟩)
    (c0 : PySem.W.codeIn K cd0 "is_whole" = true) (k0 : PySem.W.keepIn K (.ref f_is_whole) = true)
    {f_check_row : Addr} {od1 an1 : Option Addr} {sl1 : Array (Option Value)} {oc1 kV1 dc1 pm1 cd1 ct1 : Value}
    (a1 : PySem.W.nsIn K mainGlobals "check_row" = some (some (.ref f_check_row)))
    (l1 : K.lookup f_check_row = some ⟨oc1, od1, .func (PySem.W.fnOf "check_row" "check_row" (defArgs s_check_row) (defBody s_check_row) (defScope s_check_row) .none kV1 dc1 pm1 an1 cd1 ct1), sl1⟩)
    (c1 : PySem.W.codeIn K cd1 "check_row" = true) (k1 : PySem.W.keepIn K (.ref f_check_row) = true)
    {f_check_place : Addr} {od2 an2 : Option Addr} {sl2 : Array (Option Value)} {oc2 kV2 dc2 pm2 cd2 ct2 : Value}
    (a2 : PySem.W.nsIn K mainGlobals "check_place" = some (some (.ref f_check_place)))
    (l2 : K.lookup f_check_place = some ⟨oc2, od2, .func (PySem.W.fnOf "check_place" "check_place" (defArgs s_check_place) (defBody s_check_place) (defScope s_check_place) .none kV2 dc2 pm2 an2 cd2 ct2), sl2⟩)
    (c2 : PySem.W.codeIn K cd2 "check_place" = true) (k2 : PySem.W.keepIn K (.ref f_check_place) = true)
    {f_check_count : Addr} {od3 an3 : Option Addr} {sl3 : Array (Option Value)} {oc3 kV3 dc3 pm3 cd3 ct3 : Value}
    (a3 : PySem.W.nsIn K mainGlobals "check_count" = some (some (.ref f_check_count)))
    (l3 : K.lookup f_check_count = some ⟨oc3, od3, .func (PySem.W.fnOf "check_count" "check_count" (defArgs s_check_count) (defBody s_check_count) (defScope s_check_count) .none kV3 dc3 pm3 an3 cd3 ct3), sl3⟩)
    (c3 : PySem.W.codeIn K cd3 "check_count" = true) (k3 : PySem.W.keepIn K (.ref f_check_count) = true)
    {f_way_from : Addr} {od4 an4 : Option Addr} {sl4 : Array (Option Value)} {oc4 kV4 dc4 pm4 cd4 ct4 : Value}
    (a4 : PySem.W.nsIn K mainGlobals "way_from" = some (some (.ref f_way_from)))
    (l4 : K.lookup f_way_from = some ⟨oc4, od4, .func (PySem.W.fnOf "way_from" "way_from" (defArgs s_way_from) (defBody s_way_from) (defScope s_way_from) .none kV4 dc4 pm4 an4 cd4 ct4), sl4⟩)
    (c4 : PySem.W.codeIn K cd4 "way_from" = true) (k4 : PySem.W.keepIn K (.ref f_way_from) = true)
    {f_way : Addr} {od5 an5 : Option Addr} {sl5 : Array (Option Value)} {oc5 kV5 dc5 pm5 cd5 ct5 : Value}
    (a5 : PySem.W.nsIn K mainGlobals "way" = some (some (.ref f_way)))
    (l5 : K.lookup f_way = some ⟨oc5, od5, .func (PySem.W.fnOf "way" "way" (defArgs s_way) (defBody s_way) (defScope s_way) .none kV5 dc5 pm5 an5 cd5 ct5), sl5⟩)
    (c5 : PySem.W.codeIn K cd5 "way" = true) (k5 : PySem.W.keepIn K (.ref f_way) = true)
    {f_last : Addr} {od6 an6 : Option Addr} {sl6 : Array (Option Value)} {oc6 kV6 dc6 pm6 cd6 ct6 : Value}
    (a6 : PySem.W.nsIn K mainGlobals "last" = some (some (.ref f_last)))
    (l6 : K.lookup f_last = some ⟨oc6, od6, .func (PySem.W.fnOf "last" "last" (defArgs s_last) (defBody s_last) (defScope s_last) .none kV6 dc6 pm6 an6 cd6 ct6), sl6⟩)
    (c6 : PySem.W.codeIn K cd6 "last" = true) (k6 : PySem.W.keepIn K (.ref f_last) = true)
    {f_endings : Addr} {od7 an7 : Option Addr} {sl7 : Array (Option Value)} {oc7 kV7 dc7 pm7 cd7 ct7 : Value}
    (a7 : PySem.W.nsIn K mainGlobals "endings" = some (some (.ref f_endings)))
    (l7 : K.lookup f_endings = some ⟨oc7, od7, .func (PySem.W.fnOf "endings" "endings" (defArgs s_endings) (defBody s_endings) (defScope s_endings) .none kV7 dc7 pm7 an7 cd7 ct7), sl7⟩)
    (c7 : PySem.W.codeIn K cd7 "endings" = true) (k7 : PySem.W.keepIn K (.ref f_endings) = true)
    {f_first_common : Addr} {od8 an8 : Option Addr} {sl8 : Array (Option Value)} {oc8 kV8 dc8 pm8 cd8 ct8 : Value}
    (a8 : PySem.W.nsIn K mainGlobals "first_common" = some (some (.ref f_first_common)))
    (l8 : K.lookup f_first_common = some ⟨oc8, od8, .func (PySem.W.fnOf "first_common" "first_common" (defArgs s_first_common) (defBody s_first_common) (defScope s_first_common) .none kV8 dc8 pm8 an8 cd8 ct8), sl8⟩)
    (c8 : PySem.W.codeIn K cd8 "first_common" = true) (k8 : PySem.W.keepIn K (.ref f_first_common) = true)
    {f_compared : Addr} {od9 an9 : Option Addr} {sl9 : Array (Option Value)} {oc9 kV9 dc9 pm9 cd9 ct9 : Value}
    (a9 : PySem.W.nsIn K mainGlobals "compared" = some (some (.ref f_compared)))
    (l9 : K.lookup f_compared = some ⟨oc9, od9, .func (PySem.W.fnOf "compared" "compared" (defArgs s_compared) (defBody s_compared) (defScope s_compared) .none kV9 dc9 pm9 an9 cd9 ct9), sl9⟩)
    (c9 : PySem.W.codeIn K cd9 "compared" = true) (k9 : PySem.W.keepIn K (.ref f_compared) = true)
    {f_run_by : Addr} {od10 an10 : Option Addr} {sl10 : Array (Option Value)} {oc10 kV10 dc10 pm10 cd10 ct10 : Value}
    (a10 : PySem.W.nsIn K mainGlobals "run_by" = some (some (.ref f_run_by)))
    (l10 : K.lookup f_run_by = some ⟨oc10, od10, .func (PySem.W.fnOf "run_by" "run_by" (defArgs s_run_by) (defBody s_run_by) (defScope s_run_by) .none kV10 dc10 pm10 an10 cd10 ct10), sl10⟩)
    (c10 : PySem.W.codeIn K cd10 "run_by" = true) (k10 : PySem.W.keepIn K (.ref f_run_by) = true)
    {f_check_far : Addr} {od11 an11 : Option Addr} {sl11 : Array (Option Value)} {oc11 kV11 dc11 pm11 cd11 ct11 : Value}
    (a11 : PySem.W.nsIn K mainGlobals "check_far" = some (some (.ref f_check_far)))
    (l11 : K.lookup f_check_far = some ⟨oc11, od11, .func (PySem.W.fnOf "check_far" "check_far" (defArgs s_check_far) (defBody s_check_far) (defScope s_check_far) .none kV11 dc11 pm11 an11 cd11 ct11), sl11⟩)
    (c11 : PySem.W.codeIn K cd11 "check_far" = true) (k11 : PySem.W.keepIn K (.ref f_check_far) = true)
    {f_power : Addr} {od12 an12 : Option Addr} {sl12 : Array (Option Value)} {oc12 kV12 dc12 pm12 cd12 ct12 : Value}
    (a12 : PySem.W.nsIn K mainGlobals "power" = some (some (.ref f_power)))
    (l12 : K.lookup f_power = some ⟨oc12, od12, .func (PySem.W.fnOf "power" "power" (defArgs s_power) (defBody s_power) (defScope s_power) .none kV12 dc12 pm12 an12 cd12 ct12), sl12⟩)
    (c12 : PySem.W.codeIn K cd12 "power" = true) (k12 : PySem.W.keepIn K (.ref f_power) = true)
    {f_states : Addr} {od13 an13 : Option Addr} {sl13 : Array (Option Value)} {oc13 kV13 dc13 pm13 cd13 ct13 : Value}
    (a13 : PySem.W.nsIn K mainGlobals "states" = some (some (.ref f_states)))
    (l13 : K.lookup f_states = some ⟨oc13, od13, .func (PySem.W.fnOf "states" "states" (defArgs s_states) (defBody s_states) (defScope s_states) .none kV13 dc13 pm13 an13 cd13 ct13), sl13⟩)
    (c13 : PySem.W.codeIn K cd13 "states" = true) (k13 : PySem.W.keepIn K (.ref f_states) = true)
    {f_meetings_of : Addr} {od14 an14 : Option Addr} {sl14 : Array (Option Value)} {oc14 kV14 dc14 pm14 cd14 ct14 : Value}
    (a14 : PySem.W.nsIn K mainGlobals "meetings_of" = some (some (.ref f_meetings_of)))
    (l14 : K.lookup f_meetings_of = some ⟨oc14, od14, .func (PySem.W.fnOf "meetings_of" "meetings_of" (defArgs s_meetings_of) (defBody s_meetings_of) (defScope s_meetings_of) .none kV14 dc14 pm14 an14 cd14 ct14), sl14⟩)
    (c14 : PySem.W.codeIn K cd14 "meetings_of" = true) (k14 : PySem.W.keepIn K (.ref f_meetings_of) = true)
    {f_check_all : Addr} {od15 an15 : Option Addr} {sl15 : Array (Option Value)} {oc15 kV15 dc15 pm15 cd15 ct15 : Value}
    (a15 : PySem.W.nsIn K mainGlobals "check_all" = some (some (.ref f_check_all)))
    (l15 : K.lookup f_check_all = some ⟨oc15, od15, .func (PySem.W.fnOf "check_all" "check_all" (defArgs s_check_all) (defBody s_check_all) (defScope s_check_all) .none kV15 dc15 pm15 an15 cd15 ct15), sl15⟩)
    (c15 : PySem.W.codeIn K cd15 "check_all" = true) (k15 : PySem.W.keepIn K (.ref f_check_all) = true)
    {f_meetings : Addr} {od16 an16 : Option Addr} {sl16 : Array (Option Value)} {oc16 kV16 dc16 pm16 cd16 ct16 : Value}
    (a16 : PySem.W.nsIn K mainGlobals "meetings" = some (some (.ref f_meetings)))
    (l16 : K.lookup f_meetings = some ⟨oc16, od16, .func (PySem.W.fnOf "meetings" "meetings" (defArgs s_meetings) (defBody s_meetings) (defScope s_meetings) .none kV16 dc16 pm16 an16 cd16 ct16), sl16⟩)
    (c16 : PySem.W.codeIn K cd16 "meetings" = true) (k16 : PySem.W.keepIn K (.ref f_meetings) = true)
    {f_common : Addr} {od17 an17 : Option Addr} {sl17 : Array (Option Value)} {oc17 kV17 dc17 pm17 cd17 ct17 : Value}
    (a17 : PySem.W.nsIn K mainGlobals "common" = some (some (.ref f_common)))
    (l17 : K.lookup f_common = some ⟨oc17, od17, .func (PySem.W.fnOf "common" "common" (defArgs s_common) (defBody s_common) (defScope s_common) .none kV17 dc17 pm17 an17 cd17 ct17), sl17⟩)
    (c17 : PySem.W.codeIn K cd17 "common" = true) (k17 : PySem.W.keepIn K (.ref f_common) = true)
    {f_share : Addr} {od18 an18 : Option Addr} {sl18 : Array (Option Value)} {oc18 kV18 dc18 pm18 cd18 ct18 : Value}
    (a18 : PySem.W.nsIn K mainGlobals "share" = some (some (.ref f_share)))
    (l18 : K.lookup f_share = some ⟨oc18, od18, .func (PySem.W.fnOf "share" "share" (defArgs s_share) (defBody s_share) (defScope s_share) .none kV18 dc18 pm18 an18 cd18 ct18), sl18⟩)
    (c18 : PySem.W.codeIn K cd18 "share" = true) (k18 : PySem.W.keepIn K (.ref f_share) = true)
    {f__law_ways_right : Addr} {od19 an19 : Option Addr} {sl19 : Array (Option Value)} {oc19 kV19 dc19 pm19 cd19 ct19 : Value}
    (a19 : PySem.W.nsIn K mainGlobals "_law_ways_right" = some (some (.ref f__law_ways_right)))
    (l19 : K.lookup f__law_ways_right = some ⟨oc19, od19, .func (PySem.W.fnOf "_law_ways_right" "_law_ways_right" (defArgs s__law_ways_right) (defBody s__law_ways_right) (defScope s__law_ways_right) .none kV19 dc19 pm19 an19 cd19 ct19), sl19⟩)
    (c19 : PySem.W.codeIn K cd19 "_law_ways_right" = true) (k19 : PySem.W.keepIn K (.ref f__law_ways_right) = true)
    {f__law_long_right : Addr} {od20 an20 : Option Addr} {sl20 : Array (Option Value)} {oc20 kV20 dc20 pm20 cd20 ct20 : Value}
    (a20 : PySem.W.nsIn K mainGlobals "_law_long_right" = some (some (.ref f__law_long_right)))
    (l20 : K.lookup f__law_long_right = some ⟨oc20, od20, .func (PySem.W.fnOf "_law_long_right" "_law_long_right" (defArgs s__law_long_right) (defBody s__law_long_right) (defScope s__law_long_right) .none kV20 dc20 pm20 an20 cd20 ct20), sl20⟩)
    (c20 : PySem.W.codeIn K cd20 "_law_long_right" = true) (k20 : PySem.W.keepIn K (.ref f__law_long_right) = true)
    {f__law_compared_right : Addr} {od21 an21 : Option Addr} {sl21 : Array (Option Value)} {oc21 kV21 dc21 pm21 cd21 ct21 : Value}
    (a21 : PySem.W.nsIn K mainGlobals "_law_compared_right" = some (some (.ref f__law_compared_right)))
    (l21 : K.lookup f__law_compared_right = some ⟨oc21, od21, .func (PySem.W.fnOf "_law_compared_right" "_law_compared_right" (defArgs s__law_compared_right) (defBody s__law_compared_right) (defScope s__law_compared_right) .none kV21 dc21 pm21 an21 cd21 ct21), sl21⟩)
    (c21 : PySem.W.codeIn K cd21 "_law_compared_right" = true) (k21 : PySem.W.keepIn K (.ref f__law_compared_right) = true)
    {f__law_rows : Addr} {od22 an22 : Option Addr} {sl22 : Array (Option Value)} {oc22 kV22 dc22 pm22 cd22 ct22 : Value}
    (a22 : PySem.W.nsIn K mainGlobals "_law_rows" = some (some (.ref f__law_rows)))
    (l22 : K.lookup f__law_rows = some ⟨oc22, od22, .func (PySem.W.fnOf "_law_rows" "_law_rows" (defArgs s__law_rows) (defBody s__law_rows) (defScope s__law_rows) .none kV22 dc22 pm22 an22 cd22 ct22), sl22⟩)
    (c22 : PySem.W.codeIn K cd22 "_law_rows" = true) (k22 : PySem.W.keepIn K (.ref f__law_rows) = true)
    {f__law_longer : Addr} {od23 an23 : Option Addr} {sl23 : Array (Option Value)} {oc23 kV23 dc23 pm23 cd23 ct23 : Value}
    (a23 : PySem.W.nsIn K mainGlobals "_law_longer" = some (some (.ref f__law_longer)))
    (l23 : K.lookup f__law_longer = some ⟨oc23, od23, .func (PySem.W.fnOf "_law_longer" "_law_longer" (defArgs s__law_longer) (defBody s__law_longer) (defScope s__law_longer) .none kV23 dc23 pm23 an23 cd23 ct23), sl23⟩)
    (c23 : PySem.W.codeIn K cd23 "_law_longer" = true) (k23 : PySem.W.keepIn K (.ref f__law_longer) = true)
    {f__law_met : Addr} {od24 an24 : Option Addr} {sl24 : Array (Option Value)} {oc24 kV24 dc24 pm24 cd24 ct24 : Value}
    (a24 : PySem.W.nsIn K mainGlobals "_law_met" = some (some (.ref f__law_met)))
    (l24 : K.lookup f__law_met = some ⟨oc24, od24, .func (PySem.W.fnOf "_law_met" "_law_met" (defArgs s__law_met) (defBody s__law_met) (defScope s__law_met) .none kV24 dc24 pm24 an24 cd24 ct24), sl24⟩)
    (c24 : PySem.W.codeIn K cd24 "_law_met" = true) (k24 : PySem.W.keepIn K (.ref f__law_met) = true)
    {f__law_shares_right : Addr} {od25 an25 : Option Addr} {sl25 : Array (Option Value)} {oc25 kV25 dc25 pm25 cd25 ct25 : Value}
    (a25 : PySem.W.nsIn K mainGlobals "_law_shares_right" = some (some (.ref f__law_shares_right)))
    (l25 : K.lookup f__law_shares_right = some ⟨oc25, od25, .func (PySem.W.fnOf "_law_shares_right" "_law_shares_right" (defArgs s__law_shares_right) (defBody s__law_shares_right) (defScope s__law_shares_right) .none kV25 dc25 pm25 an25 cd25 ct25), sl25⟩)
    (c25 : PySem.W.codeIn K cd25 "_law_shares_right" = true) (k25 : PySem.W.keepIn K (.ref f__law_shares_right) = true)
    {f_law : Addr} {od26 an26 : Option Addr} {sl26 : Array (Option Value)} {oc26 kV26 dc26 pm26 cd26 ct26 : Value}
    (a26 : PySem.W.nsIn K mainGlobals "law" = some (some (.ref f_law)))
    (l26 : K.lookup f_law = some ⟨oc26, od26, .func (PySem.W.fnOf "law" "law" (defArgs s_law) (defBody s_law) (defScope s_law) .none kV26 dc26 pm26 an26 cd26 ct26), sl26⟩)
    (c26 : PySem.W.codeIn K cd26 "law" = true) (k26 : PySem.W.keepIn K (.ref f_law) = true)
    {f_Meet_init : Addr} {od27 an27 : Option Addr} {sl27 : Array (Option Value)} {oc27 kV27 dc27 pm27 cd27 ct27 : Value}
    (a27 : PySem.W.findIn K (.ref A_Meet) "__init__" = some (some (.ref f_Meet_init)))
    (l27 : K.lookup f_Meet_init = some ⟨oc27, od27, .func (PySem.W.fnOf "__init__" "Meet.__init__" (defArgs s_Meet_init) (defBody s_Meet_init) (defScope s_Meet_init) .none kV27 dc27 pm27 an27 cd27 ct27), sl27⟩)
    (c27 : PySem.W.codeIn K cd27 "Meet.__init__" = true) (k27 : PySem.W.keepIn K (.ref f_Meet_init) = true)
    {f_Meet_shows : Addr} {od28 an28 : Option Addr} {sl28 : Array (Option Value)} {oc28 kV28 dc28 pm28 cd28 ct28 : Value}
    (a28 : PySem.W.findIn K (.ref A_Meet) "shows" = some (some (.ref f_Meet_shows)))
    (l28 : K.lookup f_Meet_shows = some ⟨oc28, od28, .func (PySem.W.fnOf "shows" "Meet.shows" (defArgs s_Meet_shows) (defBody s_Meet_shows) (defScope s_Meet_shows) .none kV28 dc28 pm28 an28 cd28 ct28), sl28⟩)
    (c28 : PySem.W.codeIn K cd28 "Meet.shows" = true) (k28 : PySem.W.keepIn K (.ref f_Meet_shows) = true)
    {f_Apart_init : Addr} {od29 an29 : Option Addr} {sl29 : Array (Option Value)} {oc29 kV29 dc29 pm29 cd29 ct29 : Value}
    (a29 : PySem.W.findIn K (.ref A_Apart) "__init__" = some (some (.ref f_Apart_init)))
    (l29 : K.lookup f_Apart_init = some ⟨oc29, od29, .func (PySem.W.fnOf "__init__" "Apart.__init__" (defArgs s_Apart_init) (defBody s_Apart_init) (defScope s_Apart_init) .none kV29 dc29 pm29 an29 cd29 ct29), sl29⟩)
    (c29 : PySem.W.codeIn K cd29 "Apart.__init__" = true) (k29 : PySem.W.keepIn K (.ref f_Apart_init) = true)
    {f_Apart_shows : Addr} {od30 an30 : Option Addr} {sl30 : Array (Option Value)} {oc30 kV30 dc30 pm30 cd30 ct30 : Value}
    (a30 : PySem.W.findIn K (.ref A_Apart) "shows" = some (some (.ref f_Apart_shows)))
    (l30 : K.lookup f_Apart_shows = some ⟨oc30, od30, .func (PySem.W.fnOf "shows" "Apart.shows" (defArgs s_Apart_shows) (defBody s_Apart_shows) (defScope s_Apart_shows) .none kV30 dc30 pm30 an30 cd30 ct30), sl30⟩)
    (c30 : PySem.W.codeIn K cd30 "Apart.shows" = true) (k30 : PySem.W.keepIn K (.ref f_Apart_shows) = true)
    {t_LONGEST : Tok} (h_LONGEST : PySem.W.nsIn K mainGlobals "LONGEST" = some (some (.int 60 t_LONGEST)))
    {t_GREATEST : Tok} (h_GREATEST : PySem.W.nsIn K mainGlobals "GREATEST" = some (some (.int 20 t_GREATEST)))
    (z_abs : PySem.W.nsIn K mainGlobals "abs" = some none)
    (z_all : PySem.W.nsIn K mainGlobals "all" = some none)
    (z_bool : PySem.W.nsIn K mainGlobals "bool" = some none)
    (z_int : PySem.W.nsIn K mainGlobals "int" = some none)
    (z_isinstance : PySem.W.nsIn K mainGlobals "isinstance" = some none)
    (z_len : PySem.W.nsIn K mainGlobals "len" = some none)
    (z_list : PySem.W.nsIn K mainGlobals "list" = some none)
    (z_min : PySem.W.nsIn K mainGlobals "min" = some none)
    (z_range : PySem.W.nsIn K mainGlobals "range" = some none)
    (z_sorted : PySem.W.nsIn K mainGlobals "sorted" = some none)
    (z_sum : PySem.W.nsIn K mainGlobals "sum" = some none)
    (fn27 : PySem.W.isFn K (.ref f_Meet_init) = true)
    (fn28 : PySem.W.isFn K (.ref f_Meet_shows) = true)
    (fn29 : PySem.W.isFn K (.ref f_Apart_init) = true)
    (fn30 : PySem.W.isFn K (.ref f_Apart_shows) = true)
    (ic_Meet : PySem.W.isClsIn K A_Meet = true) (tc_Meet : PySem.W.typeIn K (.ref A_Meet) = some (.type "type"))
    (su_Meet_Meet : PySem.W.subIn K (.ref A_Meet) (.ref A_Meet) = some true)
    (ic_Apart : PySem.W.isClsIn K A_Apart = true) (tc_Apart : PySem.W.typeIn K (.ref A_Apart) = some (.type "type"))
    (su_Apart_Apart : PySem.W.subIn K (.ref A_Apart) (.ref A_Apart) = some true)
    (ic_BadFar : PySem.W.isClsIn K A_BadFar = true) (tc_BadFar : PySem.W.typeIn K (.ref A_BadFar) = some (.type "type"))
    (su_BadFar_BadFar : PySem.W.subIn K (.ref A_BadFar) (.ref A_BadFar) = some true)
    (su_BadFar_CardError : PySem.W.subIn K (.ref A_BadFar) (.ref A_CardError) = some true)
    : ∃ fd : FuncData, (∀ (s : Shared) (v : Value), BindsTo s fd ⟨[v], []⟩ [("_law_script", v)]) ∧ ∀ base : Heap, K.In base → base.Ns mainGlobals mg → FnOk l.prog w K mg base CX0 6 fa fd ["_law_script"] (sp_law K) := by
  have e := hfa.symm.trans (PySem.W.mg_of X G a26)
  cases e
  have F0 := fun_mk (st := s_is_whole) l0 c0 k0
  have b0 := F0.binds (ps := ["thing"]) fun _ _ _ _ _ _ us hl => match us, hl with | [_], _ => rfl
  have F1 := fun_mk (st := s_check_row) l1 c1 k1
  have b1 := F1.binds (ps := ["row"]) fun _ _ _ _ _ _ us hl => match us, hl with | [_], _ => rfl
  have F2 := fun_mk (st := s_check_place) l2 c2 k2
  have b2 := F2.binds (ps := ["row", "place"]) fun _ _ _ _ _ _ us hl => match us, hl with | [_, _], _ => rfl
  have F3 := fun_mk (st := s_check_count) l3 c3 k3
  have b3 := F3.binds (ps := ["count", "least", "most"]) fun _ _ _ _ _ _ us hl => match us, hl with | [_, _, _], _ => rfl
  have F4 := fun_mk (st := s_way_from) l4 c4 k4
  have b4 := F4.binds (ps := ["row", "place"]) fun _ _ _ _ _ _ us hl => match us, hl with | [_, _], _ => rfl
  have F5 := fun_mk (st := s_way) l5 c5 k5
  have b5 := F5.binds (ps := ["row", "place"]) fun _ _ _ _ _ _ us hl => match us, hl with | [_, _], _ => rfl
  have F6 := fun_mk (st := s_last) l6 c6 k6
  have b6 := F6.binds (ps := ["row", "place"]) fun _ _ _ _ _ _ us hl => match us, hl with | [_, _], _ => rfl
  have F7 := fun_mk (st := s_endings) l7 c7 k7
  have b7 := F7.binds (ps := ["row", "many"]) fun _ _ _ _ _ _ us hl => match us, hl with | [_, _], _ => rfl
  have F8 := fun_mk (st := s_first_common) l8 c8 k8
  have b8 := F8.binds (ps := ["row", "one", "other"]) fun _ _ _ _ _ _ us hl => match us, hl with | [_, _, _], _ => rfl
  have F9 := fun_mk (st := s_compared) l9 c9 k9
  have b9 := F9.binds (ps := ["row", "one", "other"]) fun _ _ _ _ _ _ us hl => match us, hl with | [_, _, _], _ => rfl
  have F10 := fun_mk (st := s_run_by) l10 c10 k10
  have b10 := F10.binds (ps := ["row", "many"]) fun _ _ _ _ _ _ us hl => match us, hl with | [_, _], _ => rfl
  have F11 := fun_mk (st := s_check_far) l11 c11 k11
  have b11 := F11.binds (ps := ["many", "far"]) fun _ _ _ _ _ _ us hl => match us, hl with | [_, _], _ => rfl
  have F12 := fun_mk (st := s_power) l12 c12 k12
  have b12 := F12.binds (ps := ["number", "many"]) fun _ _ _ _ _ _ us hl => match us, hl with | [_, _], _ => rfl
  have F13 := fun_mk (st := s_states) l13 c13 k13
  have b13 := F13.binds (ps := ["cards", "many", "far"]) fun _ _ _ _ _ _ us hl => match us, hl with | [_, _, _], _ => rfl
  have F14 := fun_mk (st := s_meetings_of) l14 c14 k14
  have b14 := F14.binds (ps := ["cards", "many", "far"]) fun _ _ _ _ _ _ us hl => match us, hl with | [_, _, _], _ => rfl
  have F15 := fun_mk (st := s_check_all) l15 c15 k15
  have b15 := F15.binds (ps := ["cards", "many", "far"]) fun _ _ _ _ _ _ us hl => match us, hl with | [_, _, _], _ => rfl
  have F16 := fun_mk (st := s_meetings) l16 c16 k16
  have b16 := F16.binds (ps := ["cards", "many", "far"]) fun _ _ _ _ _ _ us hl => match us, hl with | [_, _, _], _ => rfl
  have F17 := fun_mk (st := s_common) l17 c17 k17
  have b17 := F17.binds (ps := ["one", "other"]) fun _ _ _ _ _ _ us hl => match us, hl with | [_, _], _ => rfl
  have F18 := fun_mk (st := s_share) l18 c18 k18
  have b18 := F18.binds (ps := ["cards", "many", "far"]) fun _ _ _ _ _ _ us hl => match us, hl with | [_, _, _], _ => rfl
  have F19 := fun_mk (st := s__law_ways_right) l19 c19 k19
  have b19 := F19.binds (ps := ["_law_card"]) fun _ _ _ _ _ _ us hl => match us, hl with | [_], _ => rfl
  have F20 := fun_mk (st := s__law_long_right) l20 c20 k20
  have b20 := F20.binds (ps := ["_law_card"]) fun _ _ _ _ _ _ us hl => match us, hl with | [_], _ => rfl
  have F21 := fun_mk (st := s__law_compared_right) l21 c21 k21
  have b21 := F21.binds (ps := ["_law_card"]) fun _ _ _ _ _ _ us hl => match us, hl with | [_], _ => rfl
  have F22 := fun_mk (st := s__law_rows) l22 c22 k22
  have b22 := F22.binds (ps := ["_law_cards", "_law_many"]) fun _ _ _ _ _ _ us hl => match us, hl with | [_, _], _ => rfl
  have F23 := fun_mk (st := s__law_longer) l23 c23 k23
  have b23 := F23.binds (ps := ["_law_rows_here", "_law_cards"]) fun _ _ _ _ _ _ us hl => match us, hl with | [_, _], _ => rfl
  have F24 := fun_mk (st := s__law_met) l24 c24 k24
  have b24 := F24.binds (ps := ["_law_row", "_law_far"]) fun _ _ _ _ _ _ us hl => match us, hl with | [_, _], _ => rfl
  have F25 := fun_mk (st := s__law_shares_right) l25 c25 k25
  have b25 := F25.binds (ps := ["_law_card"]) fun _ _ _ _ _ _ us hl => match us, hl with | [_], _ => rfl
  have F26 := fun_mk (st := s_law) l26 c26 k26
  have b26 := F26.binds (ps := ["_law_script"]) fun _ _ _ _ _ _ us hl => match us, hl with | [_], _ => rfl
  have F27 := fun_mk (st := s_Meet_init) l27 c27 k27
  have b27 := F27.binds (ps := ["self", "place"]) fun _ _ _ _ _ _ us hl => match us, hl with | [_, _], _ => rfl
  have F28 := fun_mk (st := s_Meet_shows) l28 c28 k28
  have b28 := F28.binds (ps := ["self", "row", "one", "other"]) fun _ _ _ _ _ _ us hl => match us, hl with | [_, _, _, _], _ => rfl
  have F29 := fun_mk (st := s_Apart_init) l29 c29 k29
  have b29 := F29.binds (ps := ["self", "mine", "theirs"]) fun _ _ _ _ _ _ us hl => match us, hl with | [_, _, _], _ => rfl
  have F30 := fun_mk (st := s_Apart_shows) l30 c30 k30
  have b30 := F30.binds (ps := ["self", "row", "one", "other"]) fun _ _ _ _ _ _ us hl => match us, hl with | [_, _, _, _], _ => rfl
  let T : Tx K mg := { f_is_whole := f_is_whole, d_is_whole := _, F_is_whole := F0, b_is_whole := b0, m_is_whole := PySem.W.mg_of X G a0, f_check_row := f_check_row, d_check_row := _, F_check_row := F1, b_check_row := b1, m_check_row := PySem.W.mg_of X G a1, f_check_place := f_check_place, d_check_place := _, F_check_place := F2, b_check_place := b2, m_check_place := PySem.W.mg_of X G a2, f_check_count := f_check_count, d_check_count := _, F_check_count := F3, b_check_count := b3, m_check_count := PySem.W.mg_of X G a3, f_way_from := f_way_from, d_way_from := _, F_way_from := F4, b_way_from := b4, m_way_from := PySem.W.mg_of X G a4, f_way := f_way, d_way := _, F_way := F5, b_way := b5, m_way := PySem.W.mg_of X G a5, f_last := f_last, d_last := _, F_last := F6, b_last := b6, m_last := PySem.W.mg_of X G a6, f_endings := f_endings, d_endings := _, F_endings := F7, b_endings := b7, m_endings := PySem.W.mg_of X G a7, f_first_common := f_first_common, d_first_common := _, F_first_common := F8, b_first_common := b8, m_first_common := PySem.W.mg_of X G a8, f_compared := f_compared, d_compared := _, F_compared := F9, b_compared := b9, m_compared := PySem.W.mg_of X G a9, f_run_by := f_run_by, d_run_by := _, F_run_by := F10, b_run_by := b10, m_run_by := PySem.W.mg_of X G a10, f_check_far := f_check_far, d_check_far := _, F_check_far := F11, b_check_far := b11, m_check_far := PySem.W.mg_of X G a11, f_power := f_power, d_power := _, F_power := F12, b_power := b12, m_power := PySem.W.mg_of X G a12, f_states := f_states, d_states := _, F_states := F13, b_states := b13, m_states := PySem.W.mg_of X G a13, f_meetings_of := f_meetings_of, d_meetings_of := _, F_meetings_of := F14, b_meetings_of := b14, m_meetings_of := PySem.W.mg_of X G a14, f_check_all := f_check_all, d_check_all := _, F_check_all := F15, b_check_all := b15, m_check_all := PySem.W.mg_of X G a15, f_meetings := f_meetings, d_meetings := _, F_meetings := F16, b_meetings := b16, m_meetings := PySem.W.mg_of X G a16, f_common := f_common, d_common := _, F_common := F17, b_common := b17, m_common := PySem.W.mg_of X G a17, f_share := f_share, d_share := _, F_share := F18, b_share := b18, m_share := PySem.W.mg_of X G a18, f__law_ways_right := f__law_ways_right, d__law_ways_right := _, F__law_ways_right := F19, b__law_ways_right := b19, m__law_ways_right := PySem.W.mg_of X G a19, f__law_long_right := f__law_long_right, d__law_long_right := _, F__law_long_right := F20, b__law_long_right := b20, m__law_long_right := PySem.W.mg_of X G a20, f__law_compared_right := f__law_compared_right, d__law_compared_right := _, F__law_compared_right := F21, b__law_compared_right := b21, m__law_compared_right := PySem.W.mg_of X G a21, f__law_rows := f__law_rows, d__law_rows := _, F__law_rows := F22, b__law_rows := b22, m__law_rows := PySem.W.mg_of X G a22, f__law_longer := f__law_longer, d__law_longer := _, F__law_longer := F23, b__law_longer := b23, m__law_longer := PySem.W.mg_of X G a23, f__law_met := f__law_met, d__law_met := _, F__law_met := F24, b__law_met := b24, m__law_met := PySem.W.mg_of X G a24, f__law_shares_right := f__law_shares_right, d__law_shares_right := _, F__law_shares_right := F25, b__law_shares_right := b25, m__law_shares_right := PySem.W.mg_of X G a25, f_law := fa, d_law := _, F_law := F26, b_law := b26, m_law := PySem.W.mg_of X G a26, f_Meet_init := f_Meet_init, d_Meet_init := _, F_Meet_init := F27, b_Meet_init := b27, f_Meet_shows := f_Meet_shows, d_Meet_shows := _, F_Meet_shows := F28, b_Meet_shows := b28, f_Apart_init := f_Apart_init, d_Apart_init := _, F_Apart_init := F29, b_Apart_init := b29, f_Apart_shows := f_Apart_shows, d_Apart_shows := _, F_Apart_shows := F30, b_Apart_shows := b30, c_LONGEST := ⟨t_LONGEST, PySem.W.mg_of X G h_LONGEST⟩, c_GREATEST := ⟨t_GREATEST, PySem.W.mg_of X G h_GREATEST⟩, z_abs := PySem.W.mg_none_of X G z_abs, z_all := PySem.W.mg_none_of X G z_all, z_bool := PySem.W.mg_none_of X G z_bool, z_int := PySem.W.mg_none_of X G z_int, z_isinstance := PySem.W.mg_none_of X G z_isinstance, z_len := PySem.W.mg_none_of X G z_len, z_list := PySem.W.mg_none_of X G z_list, z_min := PySem.W.mg_none_of X G z_min, z_range := PySem.W.mg_none_of X G z_range, z_sorted := PySem.W.mg_none_of X G z_sorted, z_sum := PySem.W.mg_none_of X G z_sum, a_Answer := A_Answer, m_Answer := PySem.W.mg_of X G g_Answer, a_Meet := A_Meet, m_Meet := PySem.W.mg_of X G g_Meet, a_Apart := A_Apart, m_Apart := PySem.W.mg_of X G g_Apart, a_CardError := A_CardError, m_CardError := PySem.W.mg_of X G g_CardError, a_BadFar := A_BadFar, m_BadFar := PySem.W.mg_of X G g_BadFar, n_Meet_place := na_Meet_place, n_Apart_mine := na_Apart_mine, n_Apart_theirs := na_Apart_theirs, x_CardError := ex_CardError, kc_CardError := ek_CardError, bx_CardError := eb_CardError, tx_CardError := et_CardError, ec_CardError := ⟨eg_CardError, eq_CardError, eb_CardError, ed_CardError, ea_CardError, cg, ct, em_CardError⟩, x_BadFar := ex_BadFar, kc_BadFar := ek_BadFar, bx_BadFar := eb_BadFar, tx_BadFar := et_BadFar, ec_BadFar := ⟨eg_BadFar, eq_BadFar, eb_BadFar, ed_BadFar, ea_BadFar, cg, ct, em_BadFar⟩, k_Meet := ⟨mk_Meet, a27, fn27, kp_Meet⟩, me_Meet_shows := ⟨a28, fn28, k28⟩, k_Apart := ⟨mk_Apart, a29, fn29, kp_Apart⟩, me_Apart_shows := ⟨a30, fn30, k30⟩, cl_Meet := ⟨pg_Meet, hd_Meet, po_Meet, sa_Meet⟩, ty_Meet := fun H1 a dx fs e => .ins e ⟨pg_Meet, hd_Meet, po_Meet, sa_Meet⟩ ca_Meet cg ct mo_Meet, cl_Apart := ⟨pg_Apart, hd_Apart, po_Apart, sa_Apart⟩, ty_Apart := fun H1 a dx fs e => .ins e ⟨pg_Apart, hd_Apart, po_Apart, sa_Apart⟩ ca_Apart cg ct mo_Apart, ki_Meet_Meet := kit_true ic_Meet tc_Meet su_Meet_Meet, ki_Apart_Apart := kit_true ic_Apart tc_Apart su_Apart_Apart, ki_BadFar_BadFar := kit_true ic_BadFar tc_BadFar su_BadFar_BadFar, xm_BadFar_CardError := PySem.W.exm_ref eb_CardError ed_CardError et_CardError su_BadFar_CardError }
  exact ⟨_, fun s v => .of_eq rfl, fun base _ _ => ok_law T⟩
end Rt
open PySem PySem.W PyProof.Rows
set_option maxRecDepth 100000 in
set_option maxHeartbeats 0 in
theorem PySem.Challenge.cw_runtogether_k09_promises_by_hand_holds : PySem.Challenge.rw_runtogether_k09_promises_by_hand.Holds := by
  w_on; o_law; k_head; (case hw => w_witness2)
  k_fill
  refine L2.walk_ofB (l := PySem.Challenge.rw_runtogether_k09_promises_by_hand) (n := 63) (k := 6) (x := "_law_script") (CX := fun _ => L2.CX0) (sp := fun w => Rt.sp_law _) rfl (by decide) rfl ⟨rfl, by decide, by decide⟩ (fun w h Y => PySem.W.kIn_of Y) ?F (fun _ _ a ns hl hb _ hS => ⟨a, ns, rfl, hS, hl, hb, fun _ => rfl⟩) (fun _ _ _ _ _ h => h)
  case F =>
    intro w mg fa h KX G hmg
    refine' Rt.all_mk KX G hmg ?g_Answer ?g_Meet ?g_Apart ?g_CardError ?g_BadFar ?pg_Meet ?hd_Meet ?po_Meet ?sa_Meet ?mk_Meet ?kp_Meet ?ca_Meet ?mo_Meet ?na_Meet_place ?pg_Apart ?hd_Apart ?po_Apart ?sa_Apart ?mk_Apart ?kp_Apart ?ca_Apart ?mo_Apart ?na_Apart_mine ?na_Apart_theirs ?ex_CardError ?ek_CardError ?eb_CardError ?et_CardError ?eg_CardError ?eq_CardError ?ed_CardError ?ea_CardError ?em_CardError ?ex_BadFar ?ek_BadFar ?eb_BadFar ?et_BadFar ?eg_BadFar ?eq_BadFar ?ed_BadFar ?ea_BadFar ?em_BadFar ?cg ?ct ?a0 ?l0 ?c0 ?k0 ?a1 ?l1 ?c1 ?k1 ?a2 ?l2 ?c2 ?k2 ?a3 ?l3 ?c3 ?k3 ?a4 ?l4 ?c4 ?k4 ?a5 ?l5 ?c5 ?k5 ?a6 ?l6 ?c6 ?k6 ?a7 ?l7 ?c7 ?k7 ?a8 ?l8 ?c8 ?k8 ?a9 ?l9 ?c9 ?k9 ?a10 ?l10 ?c10 ?k10 ?a11 ?l11 ?c11 ?k11 ?a12 ?l12 ?c12 ?k12 ?a13 ?l13 ?c13 ?k13 ?a14 ?l14 ?c14 ?k14 ?a15 ?l15 ?c15 ?k15 ?a16 ?l16 ?c16 ?k16 ?a17 ?l17 ?c17 ?k17 ?a18 ?l18 ?c18 ?k18 ?a19 ?l19 ?c19 ?k19 ?a20 ?l20 ?c20 ?k20 ?a21 ?l21 ?c21 ?k21 ?a22 ?l22 ?c22 ?k22 ?a23 ?l23 ?c23 ?k23 ?a24 ?l24 ?c24 ?k24 ?a25 ?l25 ?c25 ?k25 ?a26 ?l26 ?c26 ?k26 ?a27 ?l27 ?c27 ?k27 ?a28 ?l28 ?c28 ?k28 ?a29 ?l29 ?c29 ?k29 ?a30 ?l30 ?c30 ?k30 ?h_LONGEST ?h_GREATEST ?z_abs ?z_all ?z_bool ?z_int ?z_isinstance ?z_len ?z_list ?z_min ?z_range ?z_sorted ?z_sum ?fn27 ?fn28 ?fn29 ?fn30 ?ic_Meet ?tc_Meet ?su_Meet_Meet ?ic_Apart ?tc_Apart ?su_Apart_Apart ?ic_BadFar ?tc_BadFar ?su_BadFar_BadFar ?su_BadFar_CardError
    (case g_Answer => k_is); (case g_Meet => k_is); (case g_Apart => k_is); (case g_CardError => k_is); (case g_BadFar => k_is); (case pg_Meet => k_is); (case hd_Meet => k_is); (case po_Meet => k_is); (case sa_Meet => k_is); (case mk_Meet => k_is); (case kp_Meet => k_is); (case ca_Meet => k_is); (case mo_Meet => k_is); (case na_Meet_place => k_is); (case pg_Apart => k_is); (case hd_Apart => k_is); (case po_Apart => k_is); (case sa_Apart => k_is); (case mk_Apart => k_is); (case kp_Apart => k_is); (case ca_Apart => k_is); (case mo_Apart => k_is); (case na_Apart_mine => k_is); (case na_Apart_theirs => k_is); (case ex_CardError => k_exc); (case ek_CardError => k_is); (case eb_CardError => k_is); (case et_CardError => k_is); (case eg_CardError => k_is); (case eq_CardError => k_is); (case ed_CardError => k_is); (case ea_CardError => k_is); (case em_CardError => k_is); (case ex_BadFar => k_exc); (case ek_BadFar => k_is); (case eb_BadFar => k_is); (case et_BadFar => k_is); (case eg_BadFar => k_is); (case eq_BadFar => k_is); (case ed_BadFar => k_is); (case ea_BadFar => k_is); (case em_BadFar => k_is); (case cg => k_is); (case ct => k_is); (case a0 => k_is); (case l0 => k_is); (case c0 => k_is); (case k0 => k_is); (case a1 => k_is); (case l1 => k_is); (case c1 => k_is); (case k1 => k_is); (case a2 => k_is); (case l2 => k_is); (case c2 => k_is); (case k2 => k_is); (case a3 => k_is); (case l3 => k_is); (case c3 => k_is); (case k3 => k_is); (case a4 => k_is); (case l4 => k_is); (case c4 => k_is); (case k4 => k_is); (case a5 => k_is); (case l5 => k_is); (case c5 => k_is); (case k5 => k_is); (case a6 => k_is); (case l6 => k_is); (case c6 => k_is); (case k6 => k_is); (case a7 => k_is); (case l7 => k_is); (case c7 => k_is); (case k7 => k_is); (case a8 => k_is); (case l8 => k_is); (case c8 => k_is); (case k8 => k_is); (case a9 => k_is); (case l9 => k_is); (case c9 => k_is); (case k9 => k_is); (case a10 => k_is); (case l10 => k_is); (case c10 => k_is); (case k10 => k_is); (case a11 => k_is); (case l11 => k_is); (case c11 => k_is); (case k11 => k_is); (case a12 => k_is); (case l12 => k_is); (case c12 => k_is); (case k12 => k_is); (case a13 => k_is); (case l13 => k_is); (case c13 => k_is); (case k13 => k_is); (case a14 => k_is); (case l14 => k_is); (case c14 => k_is); (case k14 => k_is); (case a15 => k_is); (case l15 => k_is); (case c15 => k_is); (case k15 => k_is); (case a16 => k_is); (case l16 => k_is); (case c16 => k_is); (case k16 => k_is); (case a17 => k_is); (case l17 => k_is); (case c17 => k_is); (case k17 => k_is); (case a18 => k_is); (case l18 => k_is); (case c18 => k_is); (case k18 => k_is); (case a19 => k_is); (case l19 => k_is); (case c19 => k_is); (case k19 => k_is); (case a20 => k_is); (case l20 => k_is); (case c20 => k_is); (case k20 => k_is); (case a21 => k_is); (case l21 => k_is); (case c21 => k_is); (case k21 => k_is); (case a22 => k_is); (case l22 => k_is); (case c22 => k_is); (case k22 => k_is); (case a23 => k_is); (case l23 => k_is); (case c23 => k_is); (case k23 => k_is); (case a24 => k_is); (case l24 => k_is); (case c24 => k_is); (case k24 => k_is); (case a25 => k_is); (case l25 => k_is); (case c25 => k_is); (case k25 => k_is); (case a26 => k_is); (case l26 => k_is); (case c26 => k_is); (case k26 => k_is); (case a27 => k_is); (case l27 => k_is); (case c27 => k_is); (case k27 => k_is); (case a28 => k_is); (case l28 => k_is); (case c28 => k_is); (case k28 => k_is); (case a29 => k_is); (case l29 => k_is); (case c29 => k_is); (case k29 => k_is); (case a30 => k_is); (case l30 => k_is); (case c30 => k_is); (case k30 => k_is); (case h_LONGEST => k_is); (case h_GREATEST => k_is); (case z_abs => k_is); (case z_all => k_is); (case z_bool => k_is); (case z_int => k_is); (case z_isinstance => k_is); (case z_len => k_is); (case z_list => k_is); (case z_min => k_is); (case z_range => k_is); (case z_sorted => k_is); (case z_sum => k_is); (case fn27 => k_is); (case fn28 => k_is); (case fn29 => k_is); (case fn30 => k_is); (case ic_Meet => k_is); (case tc_Meet => k_is); (case su_Meet_Meet => first | k_is | rfl); (case ic_Apart => k_is); (case tc_Apart => k_is); (case su_Apart_Apart => first | k_is | rfl); (case ic_BadFar => k_is); (case tc_BadFar => k_is); (case su_BadFar_BadFar => first | k_is | rfl); (case su_BadFar_CardError => first | k_is | rfl)
