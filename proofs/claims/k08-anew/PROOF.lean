import PyProof.Rows.All
import Wide.All
import OpenK.AllK
import Wide.FinOn
import PyProof.EqAt
import PyProof.EqKinds
import PyProof.TupleCall
import HandS.ForMost
import HandS.Evl
import HandS.IsInst
import HandS.Wide
import HandS.EndBits
import HandS.SortInts
import HandS.More
import HandS.Conv
import HandS.Style
import HandS.SetFor
import HandS.Strs
import HandS.ForExc
import HandS.ExcIs
import HandS.Lambda
import HandS.Nested
import HandS.HotCalls
import HandS.Zip
import PySem.Challenge.RW_runtogether_k08_whole_anew
set_option Elab.async false
set_option linter.all false
set_option maxRecDepth 100000
set_option maxHeartbeats 4000000

/-! Rules of my own over the hand layer: great products, texts of data, defs that are called where no repr is under way. -/
namespace Rt
open PySem PySem.Spec PyProof.Rows L2 Evl
section
variable {X : Cx}
/-- a product of any two ints whose bits are within the model's line -/
theorem op_mulX : OpR X (binaryOp .Mult) (rI IntMulOk fun i j => .int (i * j)) :=
  opI fun _ _ _ _ _ _ _ hc q => mul_int q hc
end
theorem bits_le (i : Int) : Builtin.Int.intBits i ≤ i.natAbs.log2 + 1 := by
  unfold Builtin.Int.intBits
  split <;> omega
theorem mulok_bits {i j : Int} (h : Builtin.Int.intBits i + Builtin.Int.intBits j ≤ 134217728) : IntMulOk i j := by
  unfold IntMulOk
  intro z
  rw [Bool.and_eq_true] at z
  have z2 := z.2
  unfold Builtin.Int.intTooBig at z2
  have z3 := of_decide_eq_true z2
  have e : bitsLine = 134217728 := by decide
  rw [e] at z3
  omega
theorem mulok_left {i j : Int} (h0 : -(2 ^ 64) < i) (h1 : i < 2 ^ 64) : IntMulOk i j := CMul.ok (.inl ⟨h0, h1⟩)
theorem mulok_right {i j : Int} (h0 : -(2 ^ 64) < j) (h1 : j < 2 ^ 64) : IntMulOk i j := CMul.ok (.inr ⟨h0, h1⟩)
theorem bits_of_lt {i : Int} {n : Nat} (h : i.natAbs < 2 ^ n) : Builtin.Int.intBits i ≤ n := by
  unfold Builtin.Int.intBits
  split
  · omega
  · rename_i hz
    have h0 : i.natAbs ≠ 0 := by
      intro e
      apply hz
      have : i = 0 := by omega
      simp [this]
    have := (Nat.log2_lt h0).mpr h
    omega
theorem lt_of_bits {i : Int} {n : Nat} (h : Builtin.Int.intBits i ≤ n) : i.natAbs < 2 ^ n := by
  by_cases hz : i = 0
  · subst hz
    exact Nat.two_pow_pos n
  · have h0 : i.natAbs ≠ 0 := by omega
    unfold Builtin.Int.intBits at h
    rw [if_neg (by simpa using hz)] at h
    exact (Nat.log2_lt h0).mp (by omega)
theorem bits_add {i j : Int} {n : Nat} (hi : Builtin.Int.intBits i ≤ n) (hj : Builtin.Int.intBits j ≤ n) : Builtin.Int.intBits (i + j) ≤ n + 1 := by
  have a := lt_of_bits hi
  have b := lt_of_bits hj
  refine bits_of_lt ?_
  rw [Nat.pow_succ]
  omega
theorem bits_mul {i j : Int} {n m : Nat} (hi : Builtin.Int.intBits i ≤ n) (hj : Builtin.Int.intBits j ≤ m) : Builtin.Int.intBits (i * j) ≤ n + m := by
  have a := lt_of_bits hi
  have b := lt_of_bits hj
  refine bits_of_lt ?_
  rw [Int.natAbs_mul, Nat.pow_add]
  exact Nat.mul_lt_mul'' a b
/-! ### str of data -/
def rStrD (K : PySem.W.Frag) : List V → Hp → VK → Prop := fun xs H Q => ∃ (a : Addr) (d : PyData), xs = [.ref a] ∧ Dp K H (.ref a) d ∧ d.showable = true ∧ d.hasDict = false ∧ d.depth ≤ 60 ∧ d.shown.length ≤ sizeLine ∧ Q (.str d.shown) H
theorem call_strD {X : Cx} (hg : X.A.guards = some []) (hu : X.A.units + 64 < cLine) : CallR X (.type "str") (rStrD X.K) := by
  intro pins s σ H xs us Q I r h
  obtain ⟨a, d, rfl, hd, hs, hn, hdep, hl, q⟩ := h
  obtain ⟨u, rfl, ru⟩ := vals1 r
  obtain ⟨as, rd⟩ := Dp.reads I d _ _ hd ru
  cases (show u = Value.ref a from ru)
  exact str_of_reads (h₀ := s.heap) rd hs (fun z => by rw [hn] at z; cases z) hg (by omega) (fun _ _ e => e)
    (fun h' u tk hk => ⟨.str d.shown, H, I.kept (t' := tk) hk, ⟨u, rfl⟩, q⟩) hl
/-! ### defs that are called where no repr is under way -/
structure FnG (P : Program) (w : World) (K : PySem.W.Frag) (mg : Str → Option Value) (base : Heap) (CX : CXT) (k : Nat) (f : Addr) (fd : FuncData) (ps : List Str) (sp : Sp) : Prop where
  ln : ∀ vs H Q E, sp vs H Q E → vs.length = ps.length
  go : ∀ (A : Around) (outer : List Env) (s : Shared) (H : Hp) (args : Args) (us : List Value) (vs : List V) (Q : VK) (E : XK), A.guards = some [] → Room k A →
    Env0 P w K mg base A outer s H → BindsTo s fd args (ps.zip us) → Vals vs us → sp vs H Q E → codeAny (model P w) A (.call (.ref f) args) (CR CX outer P w H s Q E) s
section
variable {P : Program} {w : World} {K : PySem.W.Frag} {mg : Str → Option Value} {base : Heap}
theorem Fun.okG {nm qual : Str} {st : Stmt} {f : Addr} {fd : FuncData} {N ps : List Str} {k : Nat} {sp : Sp} (F : Fun K nm qual st f fd) (S : FnScope N ps (defScope st))
    (ln : ∀ vs H Q E, sp vs H Q E → vs.length = ps.length)
    (hb : ∀ (cv : Value) (A : Around) (outer : List Env) (s : Shared) (H : Hp) (vs : List V) (Q : VK) (E : XK), A.guards = some [] →
      Room k (A.deeper (envOfC qual (defScope st) s.heap.objs.size f cv)) → sp vs H Q E →
      ∃ t, PSs (cxOf CX0 P w K mg base N qual (defScope st) f cv A outer s H E).nox (defBody st) t ∧ t { nx := fun _ H' => Q .non H', rt := Q } (start N vs) H) :
    FnG P w K mg base CX0 (k + 1) f fd ps sp := by
  obtain ⟨oc, od, kV, doc, pm, an, cv, ct, osl, rfl, lk, hcd⟩ := F.ex
  constructor
  · exact ln
  intro A outer s H args us vs Q E hgd room e0 hbd rel hsp
  have hlen := ln _ _ _ _ hsp
  have kept := fun (b : Addr) (o : Obj) (e : base.get? b = some o) => (e0.bs b o e).1
  have KX : K.In s.heap := e0.mod.kin.keeps kept
  have kinds : ∀ y ∈ ps.zip us, (defScope st).names.lookup y.1 = some .local ∨
      ((defScope st).names.lookup y.1 = some .cell ∧ ((cellsFrom (s.heap.objs.size + 1) (defScope st).names []).lookup y.1).isSome = true) := by
    rintro ⟨n, v⟩ hy
    rcases S.par n (List.of_mem_zip hy).1 with z | z
    · exact .inl z
    · exact .inr ⟨z, PySem.W.cellsFrom_some _ _ _ (.inl z)⟩
  refine codeAny_call_function room.depth (KX _ _ lk) rfl S.co S.gen rfl (PySem.W.codeRec_of KX hcd) (hbd _ _ _ _ ?_)
  refine wpAny_newFunctionEnv_cells S.kind kinds ?_
  rintro env rfl s1 inC
  refine ⟨(e0.mod.nolimit.keeps kept).keeps inC.toInCall.keep, codeAny_func ?_⟩
  obtain ⟨t, hd, hq⟩ := hb cv A outer s H vs Q E hgd (room.deeper _) hsp
  have I := inv_start (CX := CX0) (P := P) (w := w) (E := E) S room.hd e0 hlen rel inC
  refine wpAny_mono (hd.nox.run [] s1 (start N vs) H _ I hq) ?_ (fun _ _ z => z)
  intro fl s2 out
  cases fl with
  | next =>
    obtain ⟨_, H2, J, q⟩ := out
    exact ⟨.non, H2, J.os, J.bare, J.base, J.hok, rfl, q⟩
  | ret u =>
    obtain ⟨v, _, H2, J, rv, q⟩ := out
    exact ⟨v, H2, J.os, J.bare, J.base, J.hok, rv, q⟩
  | brk => exact out.elim fun _ z => z.elim fun _ y => y.2.elim
  | cont => exact out.elim fun _ z => z.elim fun _ y => y.2.elim
end
/-- the law's own call, at the caller of the claim: there no repr is under way -/
theorem law_goG {P : Program} {w : World} {K : PySem.W.Frag} {mg mb : Str → Option Value} {k : Nat} {fa a : Addr} {fd : FuncData} {x : Str} {sp : Sp} {s1 : Shared} {vs : List Value} {ns : List Int}
    (KX : K.In s1.heap) (hns : s1.heap.Ns mainGlobals mg) (hbl : s1.heap.Ns builtinsNs mb) (hbb : ∀ y : Str, y ≠ "__name__" → mb y = bootBuiltins y) (lim : s1.heap.NoLimit) (gens : s1.gens = #[])
    (ha : s1.heap.get? a = some { cls := .type "list", data := .seq vs.toArray }) (hi : IntsAre vs ns) (hsz : ns.length ≤ sizeLine) (room : Room k callerA)
    (F : ∀ bs : Heap, K.In bs → bs.Ns mainGlobals mg → FnG P w K mg bs CX0 k fa fd [x] sp) (hbind : ∀ (s : Shared) (u : Value), BindsTo s fd ⟨[u], []⟩ [(x, u)])
    (hsp : ∀ H : Hp, SqL K H a (ns.map V.int) → sp [.ref a] H (fun v _ => v = .bl true) fun _ _ _ => False) :
    codeAny (model P w) callerA (.call (.ref fa) ⟨[.ref a], []⟩) (fun r s2 => r = .ok (.ret (.bool true)) ∧ OldK s1.heap s2.heap ∧ s2.os = s1.os ∧ AllBare s2.gens) s1 := by
  have rel := vals_ints hi
  have lenV := hi.length
  have nil : ∀ b : Addr, b ∉ frs [] := fun b z => by
    have z' : b ∈ ([] : List Addr) := z
    simp at z'
  -- the abstract heap: at most the script, locked
  have main : ∀ H : Hp, (∀ b u, H b = some u → b = a ∧ K.lookup a = none ∧ ∃ o v, u = .frz o v) → HOk P w H s1.heap → SqL K H a (ns.map V.int) →
      codeAny (model P w) callerA (.call (.ref fa) ⟨[.ref a], []⟩) (fun r s2 => r = .ok (.ret (.bool true)) ∧ OldK s1.heap s2.heap ∧ s2.os = s1.os ∧ AllBare s2.gens) s1 := by
    intro H only hok hS
    have free : ∀ {b : Addr} {o : Obj} {es : Array DictEntry} {n : Nat}, s1.heap.get? b = some o → o.data = .dict es n → H b = none := by
      intro b o es n e d
      cases q : H b with
      | none => rfl
      | some u =>
        obtain ⟨rfl, _⟩ := only b u q
        rw [ha] at e
        cases e
        exact nomatch d
    have ns' : ∀ {b : Addr} {m : Str → Option Value}, s1.heap.Ns b m → (hidT s1.heap H).Ns b m := by
      rintro b m ⟨o, es, n, e, d, r⟩
      exact ⟨o, es, n, hidT_get e (free e d), d, r⟩
    have KB : K.In (hidT s1.heap H) := by
      intro b o e
      refine hidT_get (KX b o e) ?_
      cases q : H b with
      | none => rfl
      | some u =>
        obtain ⟨rfl, z, _⟩ := only b u q
        rw [z] at e
        cases e
    have lim' : (hidT s1.heap H).NoLimit := by
      obtain ⟨mc, h1, h2⟩ := lim
      exact ⟨mc, ns' h1, h2⟩
    have e0 : Env0 P w K mg (hidT s1.heap H) callerA [] s1 H :=
      { frames := rfl, mod := ⟨KB, ns' hns, ⟨mb, ns' hbl, hbb⟩, lim'⟩, bs := fun b o e => of_hidT e, bsz := Nat.le_of_eq (hidT_size _ _), funs := trivial,
        frf := fun b hb => absurd hb (nil b), hok := hok, bare := .of_eq gens }
    have run := (F _ KB (ns' hns)).go callerA [] s1 H ⟨[.ref a], []⟩ [.ref a] [.ref a] _ _ rfl room e0 (hbind s1 (.ref a)) (.cons rfl .nil) (hsp H hS)
    refine codeAny_mono run ?_
    intro r s2 out
    rcases r with e | fl
    · exact out.elim
    cases fl with
    | next => exact out.elim
    | brk => exact out.elim
    | cont => exact out.elim
    | ret u =>
      obtain ⟨v, H2, os, bare, un, hok2, rv, rfl⟩ := out
      cases (show u = Value.bool true from rv)
      refine ⟨rfl, OldK.of_keep ?_, os, bare⟩
      intro b o e
      cases q : H b with
      | none => exact un.keep b o e q (nil b) (by simp)
      | some u =>
        obtain ⟨_, _, ob, v, rfl⟩ := only b u q
        have e1 := (hok b _ q).1
        have e2 := (hok2 b _ (un.frzs b ob v q)).1
        rw [e] at e1
        cases e1
        exact e2
  cases hk : K.lookup a with
  | some o =>
    have e := KX a o hk
    rw [ha] at e
    cases e
    refine main (fun _ => none) (fun b u z => nomatch z) (fun b u z => nomatch z) ?_
    exact .inr ⟨_, vs.toArray, _, hk, rfl, rfl, rfl, by rw [List.size_toArray, lenV]; exact hsz, by simpa using rel⟩
  | none =>
    let o1 : Obj := { cls := .type "list", data := .seq vs.toArray }
    have at1 : (fun b => if b = a then some (HO.frz o1 (.lst (ns.map V.int))) else none) a = some (.frz o1 (.lst (ns.map V.int))) := if_pos rfl
    refine main (fun b => if b = a then some (.frz o1 (.lst (ns.map V.int))) else none) ?_ ?_ (.inl (.inr ⟨o1, at1⟩))
    · intro b u z
      by_cases hb : b = a
      · subst hb
        have z' := at1.symm.trans z
        cases z'
        exact ⟨rfl, hk, _, _, rfl⟩
      · have z' := (if_neg hb).symm.trans z
        cases z'
    · intro b u z
      by_cases hb : b = a
      · subst hb
        have z' := at1.symm.trans z
        cases z'
        exact ⟨ha, by rw [List.length_map]; exact hsz, vs, _, rel, ha⟩
      · have z' := (if_neg hb).symm.trans z
        cases z'
theorem walk_ofG {l : PySem.W.OpenLaw} {n k : Nat} {q : Program} {loose : List Str} {XP : (Str → Option Value) → Heap → Prop} {YP : World → Heap → Prop} {d : DefRec} {KK : Params → PySem.W.Frag} {sp : World → Sp} {x : Str}
    (hn : l.most = some n) (hn2 : n ≤ sizeLine) (hdf : d.params.defaults = []) (room : Room k callerA)
    (hY : ∀ (w : World) (h : Heap), YP w h → (KK w.params).In h)
    (F : ∀ (w : World) (mg : Str → Option Value) (fa : Addr) (h : Heap), (KK w.params).In h → h.Ns mainGlobals mg → mg d.name = some (.ref fa) →
      ∃ fd : FuncData, (∀ (s : Shared) (u : Value), BindsTo s fd ⟨[u], []⟩ [(x, u)]) ∧
        ∀ bs : Heap, (KK w.params).In bs → bs.Ns mainGlobals mg → FnG l.prog w (KK w.params) mg bs CX0 k fa fd [x] (sp w))
    (hsp : ∀ (w : World) (H : Hp) (a : Addr) (ns : List Int), ns.length ≤ n → (∀ z ∈ ns, Builtin.Int.intBits z ≤ 1048576) → SqL (KK w.params) H a (ns.map V.int) →
      sp w [.ref a] H (fun v _ => v = .bl true) fun _ _ _ => False) :
    PySem.W.WalkO q loose XP YP l.row.toRowW d [] (fun f vs => PySem.call f vs) := by
  refine Att.attach_callB hn hdf ?_
  intro w s0 s1 mg mb fa o pm cd doc a vs ns G Y _ _ _ hmg hobj hints hlen hbits hg
  obtain ⟨fd, hb, hF⟩ := F w mg fa _ (hY w _ Y) G.T.g hmg
  exact law_goG (hY w _ Y) G.T.g G.T.b G.T.builtins G.T.nolimit hg hobj hints (Nat.le_trans hlen hn2) room hF hb fun H hS => hsp w H a ns hlen hbits hS
/-! ### isinstance of own classes -/
theorem kit_cls {K : PySem.W.Frag} {C D : Addr} {b : Bool} (h1 : PySem.W.isClsIn K D = true) (h2 : PySem.W.typeIn K (.ref D) = some (.type "type")) (h3 : PySem.W.subIn K (.ref C) (.ref D) = some b) : PySem.W.kitCls K (.ref C) (.ref D) = some b := by
  have e : ((PySem.W.clsIn K D).isSome && PySem.W.typeIn K (.ref D) == some (.type "type")) = true := by
    have h1' : (PySem.W.clsIn K D).isSome = true := h1
    rw [h1', h2]
    rfl
  show (if ((PySem.W.clsIn K D).isSome && PySem.W.typeIn K (.ref D) == some (.type "type")) = true then PySem.W.subIn K (.ref C) (.ref D) else none) = some b
  rw [if_pos e]
  exact h3
theorem kit_true {K : PySem.W.Frag} {C D : Addr} (h1 : PySem.W.isClsIn K D = true) (h2 : PySem.W.typeIn K (.ref D) = some (.type "type")) (h3 : PySem.W.subIn K (.ref C) (.ref D) = some true) : PySem.W.kitOne K (.ref C) (.ref D) = some true := by
  unfold PySem.W.kitOne
  split
  · rfl
  · exact kit_cls h1 h2 h3
theorem kit_false {K : PySem.W.Frag} {C D : Addr} (h1 : PySem.W.isClsIn K D = true) (h2 : PySem.W.typeIn K (.ref D) = some (.type "type")) (h3 : PySem.W.subIn K (.ref C) (.ref D) = some false) (h4 : PySem.W.subIn K (.ref C) (.ref C) = some true) : PySem.W.kitOne K (.ref C) (.ref D) = some false := by
  unfold PySem.W.kitOne
  split
  · rename_i e
    have e' : Value.ref C = Value.ref D := eq_of_beq e
    rw [← e', h4] at h3
    cases h3
  · exact kit_cls h1 h2 h3
end Rt

/-! Further evaluations over HandS.Evl, and rows of cards in plain Lean. -/
namespace Rt
open PySem PySem.Spec PyProof.Rows L2 Evl
/-! ### values -/
def vN (n : Nat) : V := .int (n : Int)
def vNs (l : List Nat) : List V := l.map vN
theorem vNs_len (l : List Nat) : (vNs l).length = l.length := List.length_map ..
theorem vNs_app (l m : List Nat) : vNs (l ++ m) = vNs l ++ vNs m := List.map_append ..
theorem vNs_get {l : List Nat} {i n : Nat} (h : l[i]? = some n) : (vNs l)[i]? = some (vN n) := by
  unfold vNs
  rw [List.getElem?_map, h]
  rfl
theorem vNs_at {l : List Nat} {i n : Nat} (h : l[i]? = some n) : atI (vNs l) (i : Int) = some (vN n) := atI_nat (vNs_get h)
theorem getD_some {l : List Nat} {i : Nat} (h : i < l.length) : l[i]? = some (l.getD i 0) := by
  rw [List.getD_eq_getElem?_getD, List.getElem?_eq_getElem h]
  rfl
theorem mem_getD {l : List Nat} {i : Nat} (h : i < l.length) : l.getD i 0 ∈ l := List.mem_of_getElem? (getD_some h)
section
variable {K : PySem.W.Frag} {σ : L2.St} {H H' : Hp} {ta tb tc te : TE} {x y z v : V}
theorem tyx_l {a : Addr} {xs : List V} (h : SqL K H a xs) : TyX K H (.ref a) (.type "list") := by
  rcases h with (h | ⟨o, h⟩) | ⟨o, its, n, hk, hc, _⟩
  · exact .base (.lst h)
  · exact .base (.frz h)
  · exact .kList hk hc
/-- isinstance(x, c) -/
theorem ev_isi {c : V} {t u : Value} {b : Bool} (h : Ev ta σ H x) (hc : ClsV c u) (ty : ∀ H1, Ex H H1 → TyX K H1 x t) (hk : PySem.W.kitOne K t u = some b) :
    Ev (tCB (rIsi K) (tCons ta (tCons (tC c) tNil))) σ H (.bl b) := fun H1 e Q q =>
  h H1 e _ fun H2 e2 => ⟨x, c, t, u, b, rfl, hc, ty H2 (e.trans e2), hk, q H2 e2⟩
theorem ev_isiB {n m : String} {b : Bool} (h : Ev ta σ H x) (ty : ∀ H1, Ex H H1 → TyX K H1 x (.type n)) (hk : kitB n m = some b) :
    Ev (tCB (rIsi K) (tCons ta (tCons (tC (.ty m)) tNil))) σ H (.bl b) := ev_isi h (.ty m) ty (kit_ty hk)
theorem tyx_int (i : Int) : TyX K H (.int i) (.type "int") := .base (.int i)
theorem tyx_bl (b : Bool) : TyX K H (.bl b) (.type "bool") := .base (.bl b)
/-- a < b < c -/
theorem ev_chain {r r' : R2} {k b : Bool} (ha : Ev ta σ H x) (hb : Ev tb σ H y) (hr : RV r x y H (.bl k)) (hc : k = true → Ev tc σ H z) (hr' : k = true → RV r' y z H (.bl b)) :
    Ev (tChain r r' ta tb tc) σ H (.bl (k && b)) := fun H1 e Q q =>
  ha H1 e _ fun H2 e2 => hb H2 (e.trans e2) _ fun H3 e3 => hr H3 ((e.trans e2).trans e3) _ fun H4 e4 => ⟨k, rfl, by
    cases k with
    | true =>
      show tc σ H4 _
      exact hc rfl H4 (((e.trans e2).trans e3).trans e4) _ fun H5 e5 => hr' rfl H5 ((((e.trans e2).trans e3).trans e4).trans e5) Q fun H6 e6 => q H6 ((((e2.trans e3).trans e4).trans e5).trans e6)
    | false =>
      show Q (.bl false) H4
      exact q H4 ((e2.trans e3).trans e4)⟩
theorem rv_lt {i j : Int} : RV (rI0 fun i j => .bl (decide (i < j))) (.int i) (.int j) H (.bl (decide (i < j))) := rv_I0
theorem ev_to {w : V} (h : Ev te σ H v) (e : v = w) : Ev te σ H w := e ▸ h
theorem evT_to {t : TT} {a b : Bool} (h : EvT t σ H a) (e : a = b) : EvT t σ H b := e ▸ h
theorem ev_lenT {p : Addr} {xs : List V} (ha : Ev ta σ H (.ref p)) (h : SqT K H p xs) : Ev (tCB (rLenS K) (tCons ta tNil)) σ H (.int (xs.length : Int)) := fun H1 e Q q =>
  ha H1 e _ fun H2 e2 => ⟨p, xs, rfl, Or.inr (ex_t (e.trans e2) h), q H2 e2⟩
/-- (a, b, ..)[i] -/
theorem ev_ixU {xs : List V} {i : Int} (ha : EvU ta σ H xs) (hb : Ev tb σ H (.int i)) (hv : atI xs i = some v) : Ev (tOp (rIxT K) ta tb) σ H v := fun H1 e Q q =>
  ha H1 e _ fun p H2 _ e2 hp => hb H2 (e.trans e2) _ fun H3 e3 => ⟨p, xs, i, v, rfl, rfl, st_of (e3 p _ hp), hv, q H3 (e2.trans e3)⟩
/-- f(..)[i], f(..) a new list -/
theorem ev_ixN {xs : List V} {i : Int} (ha : EvL ta σ H xs) (hb : Ev tb σ H (.int i)) (hv : atI xs i = some v) : Ev (tOp (rIxL K) ta tb) σ H v := fun H1 e Q q =>
  ha H1 e _ fun p H2 _ e2 hp => hb H2 (e.trans e2) _ fun H3 e3 => ⟨p, xs, i, v, rfl, rfl, sq_of (e3 p _ hp), hv, q H3 (e2.trans e3)⟩
def rMin2 : List V → Hp → VK → Prop := fun xs H Q => ∃ i j, xs = [.int i, .int j] ∧ Q (.int (if j < i then j else i)) H
theorem ev_min2 {i j : Int} (ha : Ev ta σ H (.int i)) (hb : Ev tb σ H (.int j)) : Ev (tCB rMin2 (tCons ta (tCons tb tNil))) σ H (.int (if j < i then j else i)) := fun H1 e Q q =>
  ha H1 e _ fun H2 e2 => hb H2 (e.trans e2) _ fun H3 e3 => ⟨i, j, rfl, q H3 (e2.trans e3)⟩
/-- all(..) of a new list of truths -/
theorem ev_allN {bs : List Bool} (ha : EvL ta σ H (bs.map V.bl)) : Ev (tCB (rAll K) (tCons ta tNil)) σ H (.bl (bs.all id)) := fun H1 e Q q =>
  ha H1 e _ fun p H2 _ e2 hp => ⟨p, bs, rfl, sq_of hp, q H2 e2⟩
/-- the same data, unlike or not -/
theorem rv_neD {d d' : PyData} (h1 : ∀ H1, Ex H H1 → Dp K H1 x d) (h2 : ∀ H1, Ex H H1 → Dp K H1 y d') (s1 : SeqAt.shaped d = true) (s2 : SeqAt.shaped d' = true) : RV (rNeD K) x y H (.bl (!PyData.eqv d d')) :=
  fun H1 e _ q => ⟨d, d', h1 H1 e, h2 H1 e, s1, s2, q H1 (Ex.refl H1)⟩
theorem rv_eqD {d d' : PyData} (h1 : ∀ H1, Ex H H1 → Dp K H1 x d) (h2 : ∀ H1, Ex H H1 → Dp K H1 y d') (s1 : SeqAt.shaped d = true) (s2 : SeqAt.shaped d' = true) : RV (rEqD K) x y H (.bl (PyData.eqv d d')) :=
  fun H1 e _ q => ⟨d, d', h1 H1 e, h2 H1 e, s1, s2, q H1 (Ex.refl H1)⟩
end
/-! ### lists of numbers as data -/
def pdN (l : List Nat) : PyData := .list (l.map fun n : Nat => PyData.int (n : Int))
theorem dpAll_N {K : PySem.W.Frag} {H : Hp} : ∀ l : List Nat, DpAll K H (vNs l) (l.map fun n : Nat => PyData.int (n : Int))
  | [] => .nil
  | n :: r => .cons (.int _) (dpAll_N r)
theorem dp_N {K : PySem.W.Frag} {H : Hp} {a : Addr} {l : List Nat} (h : SqL K H a (vNs l)) : Dp K H (.ref a) (pdN l) := .lst h (dpAll_N l)
end Rt
namespace Rt
open PySem PySem.Spec PyProof.Rows L2 Evl
/-! ### comprehensions by their elements -/
theorem given_all (n : Nat) (v : Nat → V) : given n (fun _ => true) v = (List.range n).map v := by
  unfold given
  rw [List.filter_eq_self.mpr fun _ _ => rfl]
theorem range_getD (xs : List V) : (List.range xs.length).map (fun i => xs.getD i .non) = xs := by
  refine List.ext_getElem (by simp) fun i h1 h2 => ?_
  simp [List.getD_eq_getElem?_getD, List.getElem?_eq_getElem h2]
theorem given_of (xs : List V) (f : V → Bool) (g : V → V) : given xs.length (fun i => f (xs.getD i .non)) (fun i => g (xs.getD i .non)) = (xs.filter f).map g := by
  unfold given
  have e : (xs.filter f).map g = (((List.range xs.length).map (fun i => xs.getD i .non)).filter f).map g := by rw [range_getD]
  rw [e, List.filter_map, List.map_map]
  rfl
theorem getD_of {xs : List V} {i : Nat} {x : V} (h : xs[i]? = some x) : xs.getD i .non = x := by
  rw [List.getD_eq_getElem?_getD, h]
  rfl
section
variable {K : PySem.W.Frag} {σ : L2.St} {H H' : Hp} {ta tb tc te : TE} {x y z v : V} {t : TT}
theorem et_yes : EvT tYes σ H true := fun H1 _ _ q => q H1 (Ex.refl H1)
theorem el_to {xs ys : List V} (h : EvL te σ H xs) (e : xs = ys) : EvL te σ H ys := e ▸ h
/-- [e for x in xs] -/
theorem el_mapL {a : Addr} {xs : List V} {tl : TE} {j : Nat} {vs : List Nat} (g : V → V) (h : Ev tl σ H (.ref a)) (hx : SqL K H a xs) (hz : xs.length ≤ 40000)
    (he : ∀ x ∈ xs, ∀ H1, Ex H H1 → Ev te ((wipe σ vs).set j (some x)) H1 (g x)) (hw : ∀ x, wipe ((wipe σ vs).set j (some x)) vs = wipe σ vs := by intro _; rfl) :
    EvL (tLc (iList K tl) (gName j) tYes te vs) σ H (xs.map g) := by
  have e := given_of xs (fun _ => true) g
  rw [List.filter_eq_self.mpr fun _ _ => rfl] at e
  refine el_to (el_lcL (fun _ => true) (fun i => g (xs.getD i .non)) h hx hz hw (fun _ _ _ _ _ => et_yes) ?_) e
  intro i x H1 e1 hi _
  show Ev te _ H1 (g (xs.getD i .non))
  rw [getD_of hi]
  exact he x (List.mem_of_getElem? hi) H1 e1
/-- [e for x in xs if c] -/
theorem el_filtL {a : Addr} {xs : List V} {tl : TE} {j : Nat} {vs : List Nat} (f : V → Bool) (g : V → V) (h : Ev tl σ H (.ref a)) (hx : SqL K H a xs) (hz : xs.length ≤ 40000)
    (ht : ∀ x ∈ xs, ∀ H1, Ex H H1 → EvT t ((wipe σ vs).set j (some x)) H1 (f x))
    (he : ∀ x ∈ xs, ∀ H1, Ex H H1 → f x = true → Ev te ((wipe σ vs).set j (some x)) H1 (g x)) (hw : ∀ x, wipe ((wipe σ vs).set j (some x)) vs = wipe σ vs := by intro _; rfl) :
    EvL (tLc (iList K tl) (gName j) t te vs) σ H ((xs.filter f).map g) := by
  refine el_to (el_lcL (fun i => f (xs.getD i .non)) (fun i => g (xs.getD i .non)) h hx hz hw ?_ ?_) (given_of xs f g)
  · intro i x H1 e1 hi
    show EvT t _ H1 (f (xs.getD i .non))
    rw [getD_of hi]
    exact ht x (List.mem_of_getElem? hi) H1 e1
  · intro i x H1 e1 hi
    show f (xs.getD i .non) = true → Ev te _ H1 (g (xs.getD i .non))
    rw [getD_of hi]
    exact he x (List.mem_of_getElem? hi) H1 e1
/-- the same over a new list -/
theorem el_filtN {xs : List V} {tl : TE} {j : Nat} {vs : List Nat} (f : V → Bool) (g : V → V) (h : EvL tl σ H xs) (hz : xs.length ≤ 40000)
    (ht : ∀ x ∈ xs, ∀ H1, Ex H H1 → EvT t ((wipe σ vs).set j (some x)) H1 (f x))
    (he : ∀ x ∈ xs, ∀ H1, Ex H H1 → f x = true → Ev te ((wipe σ vs).set j (some x)) H1 (g x)) (hw : ∀ x, wipe ((wipe σ vs).set j (some x)) vs = wipe σ vs := by intro _; rfl) :
    EvL (tLc (iList K tl) (gName j) t te vs) σ H ((xs.filter f).map g) := by
  refine el_to (el_lcNL (fun i => f (xs.getD i .non)) (fun i => g (xs.getD i .non)) h hz hw ?_ ?_) (given_of xs f g)
  · intro i x H1 e1 hi
    show EvT t _ H1 (f (xs.getD i .non))
    rw [getD_of hi]
    exact ht x (List.mem_of_getElem? hi) H1 e1
  · intro i x H1 e1 hi
    show f (xs.getD i .non) = true → Ev te _ H1 (g (xs.getD i .non))
    rw [getD_of hi]
    exact he x (List.mem_of_getElem? hi) H1 e1
/-- [e for i in range(n)] -/
theorem el_mapR {ta : TA} {j : Nat} {vs : List Nat} {n : Nat} (g : Nat → V) (h : EvA ta σ H [vN n]) (hn : n ≤ 40000)
    (he : ∀ i, i < n → ∀ H1, Ex H H1 → Ev te ((wipe σ vs).set j (some (vN i))) H1 (g i)) (hw : ∀ x, wipe ((wipe σ vs).set j (some x)) vs = wipe σ vs := by intro _; rfl) :
    EvL (tLc (iRng1 ta) (gName j) tYes te vs) σ H ((List.range n).map g) := by
  have e := given_all ((n : Int).toNat) g
  rw [Int.toNat_natCast] at e
  refine el_to (el_lcR1 (n := (n : Int)) (fun _ => true) g h ⟨by omega, by omega⟩ hw (fun _ _ _ _ => et_yes) ?_) e
  intro i H1 e1 hi _
  exact he i (by omega) H1 e1
end
end Rt
namespace Rt
open PySem PySem.Spec PyProof.Rows L2 Evl
section
variable {K : PySem.W.Frag} {σ : L2.St} {H : Hp} {te : TE} {x y : V} {D : Ends} {tz : TS}
/-- a, b = (x, y), the pair made and taken apart -/
theorem q_asgT2 {i j : Nat} (h : EvU te σ H [x, y]) (k : ∀ H1, Ex H H1 → tz D ((σ.set i (some x)).set j (some y)) H1) : tSeq (tAsg te (gTup K 2 (gCons (gName i) (gCons (gName j) gNil)))) tz D σ H :=
  h H (Ex.refl H) _ fun p H1 _ e hp => ⟨p, [x, y], rfl, st_of hp, rfl, x, [y], rfl, y, [], rfl, rfl, k H1 e⟩
/-- a, b = x, y, two locals -/
theorem q_par {i j : Nat} {ta : TA} (h : EvA ta σ H [x, y]) (k : ∀ H1, Ex H H1 → tz D ((σ.set i (some x)).set j (some y)) H1) : tSeq (tPar i j ta) tz D σ H :=
  h H (Ex.refl H) _ fun H1 e => ⟨x, y, rfl, k H1 e⟩
theorem s_par {i j : Nat} {ta : TA} (h : EvA ta σ H [x, y]) (k : ∀ H1, Ex H H1 → D.nx ((σ.set i (some x)).set j (some y)) H1) : tPar i j ta D σ H :=
  h H (Ex.refl H) _ fun H1 e => ⟨x, y, rfl, k H1 e⟩
end
end Rt

/-! Ways along a row: plain Lean. -/
namespace Rt
structure RowOk (row : List Nat) : Prop where
  l1 : 1 ≤ row.length
  l60 : row.length ≤ 60
  c1 : ∀ c ∈ row, 1 ≤ c
  c20 : ∀ c ∈ row, c ≤ 20
def wayF (row : List Nat) : Nat → Nat → List Nat
  | 0, p => [p]
  | f + 1, p => if p + row.getD p 0 < row.length then p :: wayF row f (p + row.getD p 0) else [p]
theorem wayF_succ (row : List Nat) (f p : Nat) : wayF row (f + 1) p = if p + row.getD p 0 < row.length then p :: wayF row f (p + row.getD p 0) else [p] := rfl
def way (row : List Nat) (p : Nat) : List Nat := wayF row row.length p
theorem wayF_same {row : List Nat} (hc : ∀ c ∈ row, 1 ≤ c) : ∀ (f g p : Nat), p < row.length → row.length - p ≤ f → row.length - p ≤ g → wayF row f p = wayF row g p
  | 0, _, p, hp, h1, _ => by omega
  | _ + 1, 0, p, hp, _, h2 => by omega
  | f + 1, g + 1, p, hp, h1, h2 => by
    unfold wayF
    by_cases h : p + row.getD p 0 < row.length
    · have h3 : 1 ≤ row.getD p 0 := hc _ (List.mem_of_getElem? (by rw [List.getD_eq_getElem?_getD, List.getElem?_eq_getElem hp]; rfl))
      rw [if_pos h, if_pos h, wayF_same hc f g _ h (by omega) (by omega)]
    · rw [if_neg h, if_neg h]
theorem way_eq {row : List Nat} (hc : ∀ c ∈ row, 1 ≤ c) {p : Nat} (hp : p < row.length) : way row p = if p + row.getD p 0 < row.length then p :: way row (p + row.getD p 0) else [p] := by
  unfold way
  obtain ⟨n, hn⟩ : ∃ n, row.length = n + 1 := ⟨row.length - 1, by omega⟩
  by_cases h : p + row.getD p 0 < row.length
  · have h3 : 1 ≤ row.getD p 0 := hc _ (List.mem_of_getElem? (by rw [List.getD_eq_getElem?_getD, List.getElem?_eq_getElem hp]; rfl))
    rw [if_pos h, wayF_same hc row.length (n + 1) p hp (by omega) (by omega), wayF_succ, if_pos h, wayF_same hc n row.length _ h (by omega) (by omega)]
  · rw [if_neg h, wayF_same hc row.length (n + 1) p hp (by omega) (by omega), wayF_succ, if_neg h]
theorem way_go {row : List Nat} (hc : ∀ c ∈ row, 1 ≤ c) {p : Nat} (hp : p < row.length) (h : p + row.getD p 0 < row.length) : way row p = p :: way row (p + row.getD p 0) := by
  rw [way_eq hc hp, if_pos h]
theorem way_end {row : List Nat} (hc : ∀ c ∈ row, 1 ≤ c) {p : Nat} (hp : p < row.length) (h : ¬ p + row.getD p 0 < row.length) : way row p = [p] := by
  rw [way_eq hc hp, if_neg h]
theorem wayF_len (row : List Nat) : ∀ f p, (wayF row f p).length ≤ f + 1
  | 0, _ => Nat.le_refl _
  | f + 1, p => by
    unfold wayF
    split
    · have := wayF_len row f (p + row.getD p 0)
      rw [List.length_cons]
      omega
    · rw [List.length_singleton]
      omega
theorem way_len (row : List Nat) (p : Nat) : (way row p).length ≤ row.length + 1 := wayF_len row _ p
theorem wayF_ne (row : List Nat) : ∀ f p, wayF row f p ≠ []
  | 0, _ => by unfold wayF; simp
  | f + 1, p => by
    unfold wayF
    split <;> simp
theorem way_ne (row : List Nat) (p : Nat) : way row p ≠ [] := wayF_ne row _ p
def lastOf (row : List Nat) (p : Nat) : Nat := (way row p).getLast (way_ne row p)
theorem way_split (row : List Nat) (p : Nat) : way row p = (way row p).dropLast ++ [lastOf row p] := (List.dropLast_concat_getLast (way_ne row p)).symm
/-- every place of a way is a place of the row -/
theorem wayF_lt {row : List Nat} : ∀ f p, p < row.length → ∀ q ∈ wayF row f p, q < row.length
  | 0, p, hp, q, hq => by
    unfold wayF at hq
    rw [List.mem_singleton.mp hq]
    exact hp
  | f + 1, p, hp, q, hq => by
    unfold wayF at hq
    split at hq
    · rename_i h
      rcases List.mem_cons.mp hq with e | e
      · rw [e]
        exact hp
      · exact wayF_lt f _ h q e
    · rw [List.mem_singleton.mp hq]
      exact hp
theorem way_lt {row : List Nat} {p : Nat} (hp : p < row.length) : ∀ q ∈ way row p, q < row.length := wayF_lt _ p hp
theorem lastOf_lt {row : List Nat} {p : Nat} (hp : p < row.length) : lastOf row p < row.length := way_lt hp _ (List.getLast_mem _)
end Rt

/-! The law's own draws, in plain Lean. -/
namespace Rt
open PySem
def cellAt (ns : List Int) (k : Nat) : Int := ns.getD k 0
def primesL : List Int := [1000003, 1000033, 1000037, 1000039, 1000081, 1000099, 1000117, 1000121, 1000133, 1000151, 1000159, 1000171, 1000183, 1000187, 1000193, 1000199]
def sevens : List Int := [1, 7, 49, 343, 2401]
def drawV (c : Int) (k : Nat) (m : Int) : Int := (c * 48271 + (k : Int) * 69621) % (primesL.getD (k % 16) 1) % m
def numV (c : Int) (k : Nat) (m : Int) : Int :=
  if 10 ^ 18 ≤ c then (c - 10 ^ 18) / (sevens.getD (k % 5) 1) % m else drawV ((c + 977 * (k : Int)) * (c + 31 * (k : Int) + 5)) (k % 9 + 1) 999983 % m
def numN (c : Int) (k : Nat) (m : Nat) : Nat := (numV c k (m : Int)).toNat
theorem numV_pos {c : Int} {k : Nat} {m : Int} (h : 0 < m) : 0 ≤ numV c k m := by
  unfold numV
  split <;> exact Int.emod_nonneg _ (by omega)
theorem numV_lt {c : Int} {k : Nat} {m : Int} (h : 0 < m) : numV c k m < m := by
  unfold numV
  split <;> exact Int.emod_lt_of_pos _ h
theorem numN_is {c : Int} {k m : Nat} (h : 0 < m) : ((numN c k m : Nat) : Int) = numV c k (m : Int) := Int.toNat_of_nonneg (numV_pos (by omega))
theorem numN_lt {c : Int} {k m : Nat} (h : 0 < m) : numN c k m < m := by
  have h1 := numN_is (c := c) (k := k) h
  have h2 := numV_lt (c := c) (k := k) (m := (m : Int)) (by omega)
  omega
def wides : List Nat := [1, 3, 6, 20]
def wideN (ns : List Int) (b : Nat) : Nat := wides.getD (numN (cellAt ns b) (b + 2) 4) 1
def manyN (ns : List Int) (b m : Nat) : Nat := 1 + numN (cellAt ns b) (b + 1) m
def cardN (ns : List Int) (b k : Nat) : Nat := 1 + numN (cellAt ns (b + k) + 31 * (k : Int)) (k + b) (wideN ns b)
def rowV (ns : List Int) (b m : Nat) : List Nat := (List.range (manyN ns b m)).map (cardN ns b)
theorem wides_ok : ∀ i, i < 4 → 1 ≤ wides.getD i 1 ∧ wides.getD i 1 ≤ 20 := by decide
theorem wideN_ok (ns : List Int) (b : Nat) : 1 ≤ wideN ns b ∧ wideN ns b ≤ 20 := wides_ok _ (numN_lt (by decide))
theorem rowV_len (ns : List Int) (b m : Nat) : (rowV ns b m).length = manyN ns b m := by
  unfold rowV
  rw [List.length_map, List.length_range]
theorem manyN_le {ns : List Int} {b m : Nat} (h : 1 ≤ m) : 1 ≤ manyN ns b m ∧ manyN ns b m ≤ m := by
  have := numN_lt (c := cellAt ns b) (k := b + 1) (m := m) h
  unfold manyN
  omega
theorem rowV_ok {ns : List Int} {b m : Nat} (h1 : 1 ≤ m) (h2 : m ≤ 60) : RowOk (rowV ns b m) := by
  have hm := manyN_le (ns := ns) (b := b) h1
  have hw := wideN_ok ns b
  refine ⟨by rw [rowV_len]; exact hm.1, by rw [rowV_len]; omega, fun c hc => ?_, fun c hc => ?_⟩
  · obtain ⟨k, _, rfl⟩ := List.mem_map.mp hc
    unfold cardN
    omega
  · obtain ⟨k, _, rfl⟩ := List.mem_map.mp hc
    have := numN_lt (c := cellAt ns (b + k) + 31 * (k : Int)) (k := k + b) (m := wideN ns b) hw.1
    unfold cardN
    omega
/-- the script's cells have so many bits -/
def BitsOk (ns : List Int) : Prop := ∀ z ∈ ns, Builtin.Int.intBits z ≤ 1048576
theorem cell_bits {ns : List Int} (h : BitsOk ns) (k : Nat) : Builtin.Int.intBits (cellAt ns k) ≤ 1048576 := by
  unfold cellAt
  rw [List.getD_eq_getElem?_getD]
  cases e : ns[k]? with
  | none => exact Nat.zero_le _
  | some z => exact h z (List.mem_of_getElem? e)
theorem small_bits {i : Int} (h0 : -1000000 ≤ i) (h1 : i ≤ 1000000) : Builtin.Int.intBits i ≤ 20 := bits_of_lt (show i.natAbs < 1048576 by omega)
end Rt

/-! Evaluations to data: what is told lies in new objects. -/
namespace Rt
open PySem PySem.Spec PyProof.Rows L2 Evl
mutual
theorem Dp.ex {K : PySem.W.Frag} {H H' : Hp} (e : Ex H H') : ∀ {v : V} {d : PyData}, Dp K H v d → Dp K H' v d
  | _, _, .non => .non
  | _, _, .bl b => .bl b
  | _, _, .int i => .int i
  | _, _, .str x => .str x
  | _, _, .lst h r => .lst (ex_l e h) (DpAll.ex e r)
  | _, _, .tup h r => .tup (ex_t e h) (DpAll.ex e r)
theorem DpAll.ex {K : PySem.W.Frag} {H H' : Hp} (e : Ex H H') : ∀ {vs : List V} {ds : List PyData}, DpAll K H vs ds → DpAll K H' vs ds
  | _, _, .nil => .nil
  | _, _, .cons h r => .cons (Dp.ex e h) (DpAll.ex e r)
end
/-- what is new in H2 beside H1 -/
def New (H1 H2 : Hp) : Hp := fun b => if (H1 b).isSome = true then none else H2 b
theorem new_old {H1 H2 : Hp} {b : Addr} {o : HO} (h : H1 b = some o) : New H1 H2 b = none := by
  unfold New
  rw [h]
  rfl
theorem new_at {H1 H2 : Hp} {b : Addr} (h : H1 b = none) : New H1 H2 b = H2 b := by
  unfold New
  rw [h]
  rfl
theorem new_ex (H1 H2 : Hp) : Ex (New H1 H2) H2 := fun b o h => by
  cases q : H1 b with
  | none => rw [new_at q] at h; exact h
  | some u => rw [new_old q] at h; cases h
theorem new_mono {H1 H2 H3 H4 : Hp} (a : Ex H1 H2) (b : Ex H3 H4) : Ex (New H2 H3) (New H1 H4) := fun c o h => by
  cases q : H2 c with
  | some u => rw [new_old q] at h; cases h
  | none =>
    rw [new_at q] at h
    rw [new_at (fresh_back a q)]
    exact b c o h
/-- what stands in a part stays though another object is changed -/
theorem ex_upd {Hs H : Hp} {l : Addr} {o : HO} (e : Ex Hs H) (h : Hs l = none) : Ex Hs (upd H l o) := Ex.mut e h
def EvN (K : PySem.W.Frag) (te : TE) (σ : L2.St) (H : Hp) (d : PyData) : Prop := ∀ H1, Ex H H1 → ∀ Q : VK, (∀ v H2, Ex H1 H2 → Dp K (New H1 H2) v d → Q v H2) → te σ H1 Q
def EvD (K : PySem.W.Frag) (te : TE) (σ : L2.St) (H : Hp) (d : PyData) : Prop := ∀ H1, Ex H H1 → ∀ Q : VK, (∀ v H2, Ex H1 H2 → Dp K H2 v d → Q v H2) → te σ H1 Q
def EvNA (K : PySem.W.Frag) (ta : TA) (σ : L2.St) (H : Hp) (ds : List PyData) : Prop := ∀ H1, Ex H H1 → ∀ Q : List V → Hp → Prop, (∀ vs H2, Ex H1 H2 → DpAll K (New H1 H2) vs ds → Q vs H2) → ta σ H1 Q
section
variable {K : PySem.W.Frag} {σ : L2.St} {H H' : Hp} {ta tb tc te : TE} {x y z v : V} {d d' : PyData} {ds : List PyData}
theorem EvN.mono (e : Ex H H') (h : EvN K te σ H d) : EvN K te σ H' d := fun H1 a Q q => h H1 (e.trans a) Q q
theorem EvD.mono (e : Ex H H') (h : EvD K te σ H d) : EvD K te σ H' d := fun H1 a Q q => h H1 (e.trans a) Q q
theorem EvN.toD (h : EvN K te σ H d) : EvD K te σ H d := fun H1 e Q q => h H1 e Q fun v H2 e2 hd => q v H2 e2 (Dp.ex (new_ex H1 H2) hd)
theorem ed_var {i : Nat} (h : σ[i]? = some (some v)) (hd : Dp K H v d) : EvD K (tVar i) σ H d := fun H1 e _ q => ⟨v, h, q v H1 (Ex.refl H1) (Dp.ex e hd)⟩
theorem en_of (h : Ev te σ H v) (hd : ∀ H1, Dp K H1 v d) : EvN K te σ H d := fun H1 e Q q => h H1 e Q fun H2 e2 => q v H2 e2 (hd _)
theorem en_int {i : Int} (h : Ev te σ H (.int i)) : EvN K te σ H (.int i) := en_of h fun _ => .int i
theorem en_N {n : Nat} (h : Ev te σ H (vN n)) : EvN K te σ H (.int (n : Int)) := en_of h fun _ => .int _
theorem en_bl {b : Bool} (h : Ev te σ H (.bl b)) : EvN K te σ H (.bool b) := en_of h fun _ => .bl b
theorem en_non (h : Ev te σ H .non) : EvN K te σ H .none := en_of h fun _ => .non
theorem en_l {xs : List V} (h : EvL te σ H xs) (hd : ∀ H1, DpAll K H1 xs ds) : EvN K te σ H (.list ds) := fun H1 e Q q =>
  h H1 e Q fun p H2 np e2 hp => q (.ref p) H2 e2 (.lst (sq_of (by rw [new_at np]; exact hp)) (hd _))
theorem en_Ns {l : List Nat} (h : EvL te σ H (vNs l)) : EvN K te σ H (pdN l) := en_l h fun _ => dpAll_N l
theorem ena_nil : EvNA K tNil σ H [] := fun H1 _ _ q => q [] H1 (Ex.refl H1) .nil
theorem ena_cons {tr : TA} (h : EvN K te σ H d) (hr : EvNA K tr σ H ds) : EvNA K (tCons te tr) σ H (d :: ds) := fun H1 e Q q =>
  h H1 e _ fun v H2 e2 hv => hr H2 (e.trans e2) _ fun vs H3 e3 hvs => q (v :: vs) H3 (e2.trans e3) (.cons (Dp.ex (new_mono (Ex.refl H1) e3) hv) (DpAll.ex (new_mono e2 (Ex.refl H3)) hvs))
theorem dpAll_len : ∀ {vs : List V} {ds : List PyData}, DpAll K H vs ds → vs.length = ds.length
  | _, _, .nil => rfl
  | _, _, .cons _ r => by rw [List.length_cons, List.length_cons, dpAll_len r]
theorem en_lst {ta : TA} (h : EvNA K ta σ H ds) (hl : ds.length ≤ 100000) : EvN K (tLst ta) σ H (.list ds) := fun H1 e Q q =>
  h H1 e _ fun vs H2 e2 hv => ⟨sz_of (by rw [dpAll_len hv]; exact hl), fun p hp => q (.ref p) _ (e2.trans (Ex.new hp)) (.lst (sq_of (by rw [new_at (fresh_back e2 hp)]; exact upd_same)) (DpAll.ex (new_mono (Ex.refl H1) (Ex.new hp)) hv))⟩
theorem en_tup {ta : TA} (h : EvNA K ta σ H ds) (hl : ds.length ≤ 100000) : EvN K (tTup ta) σ H (.tuple ds) := fun H1 e Q q =>
  h H1 e _ fun vs H2 e2 hv => ⟨sz_of (by rw [dpAll_len hv]; exact hl), fun p hp => q (.ref p) _ (e2.trans (Ex.new hp)) (.tup (st_of (by rw [new_at (fresh_back e2 hp)]; exact upd_same)) (DpAll.ex (new_mono (Ex.refl H1) (Ex.new hp)) hv))⟩
theorem en_to (h : EvN K te σ H d) (e : d = d') : EvN K te σ H d' := e ▸ h
theorem ed_to (h : EvD K te σ H d) (e : d = d') : EvD K te σ H d' := e ▸ h
theorem ev_eqD (h1 : EvD K ta σ H d) (h2 : EvD K tb σ H d') (s1 : SeqAt.shaped d = true) (s2 : SeqAt.shaped d' = true) : Ev (tOp (rEqD K) ta tb) σ H (.bl (PyData.eqv d d')) := fun H1 e Q q =>
  h1 H1 e _ fun v H2 e2 hv => h2 H2 (e.trans e2) _ fun u H3 e3 hu => ⟨d, d', Dp.ex e3 hv, hu, s1, s2, q H3 (e2.trans e3)⟩
theorem ev_neD (h1 : EvD K ta σ H d) (h2 : EvD K tb σ H d') (s1 : SeqAt.shaped d = true) (s2 : SeqAt.shaped d' = true) : Ev (tOp (rNeD K) ta tb) σ H (.bl (!PyData.eqv d d')) := fun H1 e Q q =>
  h1 H1 e _ fun v H2 e2 hv => h2 H2 (e.trans e2) _ fun u H3 e3 hu => ⟨d, d', Dp.ex e3 hv, hu, s1, s2, q H3 (e2.trans e3)⟩
/-- str(..) of a list or a tuple -/
structure Good (d : PyData) : Prop where
  lay : d.canLay0 = true
  dep : d.depth ≤ 60
  shw : d.showable = true
  lvs : d.leavesShort 13 = true
  wgt : d.weight ≤ 2 ^ 20
theorem Good.shaped (g : Good d) : SeqAt.shaped d = true := by
  unfold SeqAt.shaped
  rw [g.lay, decide_eq_true (show d.depth ≤ 64 from Nat.le_trans g.dep (by decide))]
  rfl
theorem Good.refl (g : Good d) : PyData.eqv d d = true := SeqAt.eqv_refl d g.lay
theorem ev_strD (h : EvD K ta σ H d) (hs : (∃ ds, d = .list ds) ∨ ∃ ds, d = .tuple ds) (g : Good d) : Ev (tCB (rStrD K) (tCons ta tNil)) σ H (.str d.shown) := fun H1 e Q q =>
  h H1 e _ fun v H2 e2 hv => by
    have hd : d.hasDict = false := PyData.hasDict_of_canLay d g.lay
    have hz := PyData.shown_fits (by decide) (by decide) g.lvs g.wgt
    obtain ⟨a, rfl⟩ : ∃ a, v = .ref a := by
      rcases hs with ⟨ds, rfl⟩ | ⟨ds, rfl⟩ <;> (cases hv; exact ⟨_, rfl⟩)
    exact ⟨a, d, rfl, hv, g.shw, hd, g.dep, hz, q H2 e2⟩
variable {D : Ends} {tz : TS}
/-- name = data -/
theorem q_asgN {i : Nat} (h : EvN K te σ H d) (k : ∀ v H1, Ex H H1 → Dp K (New H H1) v d → tz D (σ.set i (some v)) H1) : tSeq (tAsg te (gName i)) tz D σ H := h H (Ex.refl H) _ fun v H1 e hv => k v H1 e hv
theorem q_parLV {i j : Nat} {xs : List V} (h1 : EvL ta σ H xs) (h2 : Ev tb σ H y) (k : ∀ p H1, H p = none → Ex H H1 → H1 p = some (.lst xs) → tz D ((σ.set i (some (.ref p))).set j (some y)) H1) :
    tSeq (tPar i j (tCons ta (tCons tb tNil))) tz D σ H :=
  h1 H (Ex.refl H) _ fun p H1 np e1 hp => h2 H1 e1 _ fun H2 e2 => ⟨.ref p, y, rfl, k p H2 np (e1.trans e2) (e2 p _ hp)⟩
/-- for x in range(lo, hi, c) -/
theorem s_forR3 {ta : TA} {tu : TS} {j : Nat} {lo hi c : Int} {n : Nat} (h : EvA ta σ H [.int lo, .int hi, .int c]) (hr : RgC lo hi c n) (Pv : Nat → L2.St → Hp → Prop) (h0 : ∀ H1, Ex H H1 → Pv 0 σ H1)
    (hs : ∀ (i : Nat) σ' H', i < n → Pv i σ' H' → tu { D with nx := Pv (i + 1), ct := Pv (i + 1), bk := D.nx } (σ'.set j (some (.int (lo + (i : Nat) * c)))) H') (hd : ∀ σ' H', Pv n σ' H' → D.nx σ' H') : tFor (iRng3 ta) (gName j) tu D σ H :=
  h H (Ex.refl H) _ fun H1 e => ⟨lo, hi, c, n, rfl, hr, for_rangeC (lo := lo) (c := c) (n := n) Pv (h0 H1 e) (fun i σ' H' hi p => hs i σ' H' hi p) hd⟩
theorem q_forR3 {ta : TA} {tu : TS} {j : Nat} {lo hi c : Int} {n : Nat} (h : EvA ta σ H [.int lo, .int hi, .int c]) (hr : RgC lo hi c n) (Pv : Nat → L2.St → Hp → Prop) (h0 : ∀ H1, Ex H H1 → Pv 0 σ H1)
    (hs : ∀ (i : Nat) σ' H', i < n → Pv i σ' H' → tu { D with nx := Pv (i + 1), ct := Pv (i + 1), bk := tz D } (σ'.set j (some (.int (lo + (i : Nat) * c)))) H') (hd : ∀ σ' H', Pv n σ' H' → tz D σ' H') : tSeq (tFor (iRng3 ta) (gName j) tu) tz D σ H :=
  s_forR3 (D := { D with nx := tz D }) h hr Pv h0 hs hd
end
/-! ### what a list of numbers is as data -/
theorem good_all : ∀ l : List Nat, (∀ n ∈ l, n < 10 ^ 6) → PyData.canLayAll0 (l.map fun n : Nat => PyData.int (n : Int)) = true ∧ PyData.depthAll (l.map fun n : Nat => PyData.int (n : Int)) = 0 ∧
    PyData.showableAll (l.map fun n : Nat => PyData.int (n : Int)) = true ∧ PyData.leavesShortAll 13 (l.map fun n : Nat => PyData.int (n : Int)) = true ∧ PyData.weightAll (l.map fun n : Nat => PyData.int (n : Int)) ≤ 21 * l.length
  | [], _ => ⟨rfl, rfl, rfl, rfl, Nat.le_refl _⟩
  | n :: r, h => by
    obtain ⟨h1, h2, h3, h4, h5⟩ := good_all r fun m hm => h m (List.mem_cons_of_mem _ hm)
    have hn : n < 10 ^ 6 := h n List.mem_cons_self
    have hb : (PyData.int (n : Int)).weight = Builtin.Int.intBits (n : Int) := by simp only [PyData.weight, Builtin.Int.intBits]
    have hb2 : Builtin.Int.intBits (n : Int) ≤ 20 := bits_of_lt (show (n : Int).natAbs < 1048576 by omega)
    have hlog : (n : Int).natAbs.log2 < 1920 := by
      by_cases hz : n = 0
      · subst hz
        decide
      · have h0 : (n : Int).natAbs ≠ 0 := by omega
        exact (Nat.log2_lt h0).mpr (Nat.lt_of_lt_of_le (show (n : Int).natAbs < 2 ^ 20 by omega) (Nat.pow_le_pow_right (by decide) (by decide)))
    have hs : (PyData.shown (.int (n : Int))).length ≤ 13 := PyData.shown_int_le (by omega)
    rw [List.map_cons]
    refine ⟨?_, ?_, ?_, ?_, ?_⟩
    · rw [PyData.canLayAll0, h1]
      rfl
    · rw [PyData.depthAll, h2]
      rfl
    · rw [PyData.showableAll, h3, PyData.showable, decide_eq_true hlog]
      rfl
    · rw [PyData.leavesShortAll, h4, PyData.leavesShort, decide_eq_true hs]
      rfl
    · rw [PyData.weightAll, hb, List.length_cons]
      omega
theorem good_N {l : List Nat} (h : ∀ n ∈ l, n < 10 ^ 6) (hl : l.length ≤ 40000) : Good (pdN l) := by
  obtain ⟨h1, h2, h3, h4, h5⟩ := good_all l h
  refine ⟨?_, ?_, ?_, ?_, ?_⟩
  · exact h1
  · show (PyData.list _).depth ≤ 60
    rw [PyData.depth, h2]
    decide
  · exact h3
  · exact h4
  · show (PyData.list _).weight ≤ 2 ^ 20
    rw [PyData.weight]
    omega
end Rt
namespace Rt
open PySem PySem.Spec PyProof.Rows L2 Evl
section
variable {K : PySem.W.Frag} {σ : L2.St} {H : Hp} {ta te : TE} {z : V}
/-- f([..], b, ..): the first argument a new list -/
theorem el_callL {sp : Sp} {dvs vs xs ys : List V} {E : XK} {tr : TA} (h : EvL te σ H xs) (hr : EvA tr σ H vs) (hs : ∀ p H1, Ex H H1 → H1 p = some (.lst xs) → SpL sp ((.ref p :: vs) ++ dvs) H1 ys) : EvL (tCall sp dvs E (tCons te tr)) σ H ys := fun H1 e Q q =>
  h H1 e _ fun p H2 np e2 hp => hr H2 (e.trans e2) _ fun H3 e3 => hs p H3 ((e.trans e2).trans e3) (e3 p _ hp) H3 (Ex.refl H3) Q (fun u H4 hu e4 h4 => q u H4 (fresh_back (e2.trans e3) hu) ((e2.trans e3).trans e4) h4) E
theorem ev_callL {sp : Sp} {dvs vs xs : List V} {E : XK} {tr : TA} (h : EvL te σ H xs) (hr : EvA tr σ H vs) (hs : ∀ p H1, Ex H H1 → H1 p = some (.lst xs) → SpV sp ((.ref p :: vs) ++ dvs) H1 z) : Ev (tCall sp dvs E (tCons te tr)) σ H z := fun H1 e Q q =>
  h H1 e _ fun p H2 np e2 hp => hr H2 (e.trans e2) _ fun H3 e3 => hs p H3 ((e.trans e2).trans e3) (e3 p _ hp) H3 (Ex.refl H3) Q (fun H4 e4 => q H4 ((e2.trans e3).trans e4)) E
end
end Rt

/-! Objects, choices, loops over data. -/
namespace Rt
open PySem PySem.Spec PyProof.Rows L2 Evl
theorem pe_or2 {X : Cx} {e : Expr} {t u : TE} (h : PE X e t) (k : PE X e u) : PE X e (fun σ H Q => t σ H Q ∨ u σ H Q) :=
  ⟨fun pins s σ H Q I z => z.elim (fun z => h.run pins s σ H Q I z) fun z => k.run pins s σ H Q I z⟩
/-- a new object -/
def EvO (te : TE) (σ : L2.St) (H : Hp) (C : Addr) (fs : List (Str × V)) : Prop := ∀ H1, Ex H H1 → ∀ Q : VK, (∀ p dx H2, H1 p = none → Ex H1 H2 → H2 p = some (.ins C dx fs) → Q (.ref p) H2) → te σ H1 Q
def RetO (C : Addr) (fs : List (Str × V)) (H : Hp) (Q : VK) : Prop := ∀ p dx H2, H p = none → Ex H H2 → H2 p = some (.ins C dx fs) → Q (.ref p) H2
/-- an __init__ that fills in the fields of the new object -/
def spInit (C : Addr) (n : Nat) (fs : List V → List (Str × V)) : Sp := fun vs H Q _ => ∃ (x dx : Addr) (us : List V), vs = .ref x :: us ∧ us.length = n ∧ H x = some (.ins C dx []) ∧ Q .non (upd H x (.ins C dx (fs us)))
section
variable {K : PySem.W.Frag} {σ : L2.St} {H H' : Hp} {ta tb tc te t1 t2 : TE} {x y z v : V}
theorem ev_orL (h : Ev t1 σ H v) : Ev (fun σ H Q => t1 σ H Q ∨ t2 σ H Q) σ H v := fun H1 e Q q => .inl (h H1 e Q q)
theorem ev_orR (h : Ev t2 σ H v) : Ev (fun σ H Q => t1 σ H Q ∨ t2 σ H Q) σ H v := fun H1 e Q q => .inr (h H1 e Q q)
/-- o.f -/
theorem ev_fld {a C dx : Addr} {fs : List (Str × V)} {f : Str} (h : Ev ta σ H (.ref a)) (ho : H a = some (.ins C dx fs)) (c : Cls K C) (n : NoAttr K C f) (hl : fs.lookup f = some v) : Ev (tFld K ta f) σ H v := fun H1 e Q q =>
  h H1 e _ fun H2 e2 => ⟨a, C, dx, fs, v, rfl, e2 a _ (e a _ ho), c, n, hl, q H2 e2⟩
/-- o.m(..) -/
theorem ev_meth {a C dx : Addr} {fs : List (Str × V)} {m : Str} {sp : Sp} {dvs vs : List V} {E : XK} {tr : TA} (h : Ev ta σ H (.ref a)) (ho : H a = some (.ins C dx fs)) (hm : fs.lookup m = none) (hr : EvA tr σ H vs) (hs : SpV sp (.ref a :: (vs ++ dvs)) H z) :
    Ev (tMeth C m sp dvs E ta tr) σ H z := fun H1 e Q q =>
  h H1 e _ fun H2 e2 => ⟨a, dx, fs, rfl, e2 a _ (e a _ ho), hm, hr H2 (e.trans e2) _ fun H3 e3 => hs H3 ((e.trans e2).trans e3) Q (fun H4 e4 => q H4 ((e2.trans e3).trans e4)) E⟩
/-- C(..).m(..) -/
theorem ev_methO {C : Addr} {fs : List (Str × V)} {m : Str} {sp : Sp} {dvs vs : List V} {E : XK} {tr : TA} (h : EvO ta σ H C fs) (hm : fs.lookup m = none) (hr : EvA tr σ H vs) (hs : ∀ a dx H1, Ex H H1 → H1 a = some (.ins C dx fs) → SpV sp (.ref a :: (vs ++ dvs)) H1 z) :
    Ev (tMeth C m sp dvs E ta tr) σ H z := fun H1 e Q q =>
  h H1 e _ fun a dx H2 na e2 ha => ⟨a, dx, fs, rfl, ha, hm, hr H2 (e.trans e2) _ fun H3 e3 => hs a dx H3 ((e.trans e2).trans e3) (e3 a _ ha) H3 (Ex.refl H3) Q (fun H4 e4 => q H4 ((e2.trans e3).trans e4)) E⟩
/-- C(..).f -/
theorem ev_fldO {C : Addr} {fs : List (Str × V)} {f : Str} (h : EvO ta σ H C fs) (c : Cls K C) (n : NoAttr K C f) (hl : fs.lookup f = some v) : Ev (tFld K ta f) σ H v := fun H1 e Q q =>
  h H1 e _ fun a dx H2 na e2 ha => ⟨a, C, dx, fs, v, rfl, ha, c, n, hl, q H2 e2⟩
/-- C(..) -/
theorem eo_make {C : Addr} {n : Nat} {fs : List V → List (Str × V)} {vs : List V} {E : XK} {tr : TA} (h : EvA tr σ H vs) (hn : vs.length = n) : EvO (tMake C (spInit C n fs) [] E tr) σ H C (fs vs) := fun H1 e Q q =>
  h H1 e _ fun H2 e2 x dx nx nd ne => by
    refine ⟨x, dx, vs, by rw [List.append_nil], hn, upd_same, rfl, q x dx _ (fresh_back e2 nx) (e2.trans ?_) upd_same⟩
    rw [upd_upd]
    intro b o hb
    rw [upd_ne (ne_of_none hb nx), upd_ne (ne_of_none hb nd)]
    exact hb
/-- isinstance of an object -/
theorem ev_isiO {a C D dx : Addr} {fs : List (Str × V)} {b : Bool} (h : Ev ta σ H (.ref a)) (ho : H a = some (.ins C dx fs)) (ty : ∀ (H1 : Hp) (a dx : Addr) (fs : List (Str × V)), H1 a = some (.ins C dx fs) → TyOf K H1 (.ref a) (.ref C)) (hk : PySem.W.kitOne K (.ref C) (.ref D) = some b) :
    Ev (tCB (rIsi K) (tCons ta (tCons (tC (.ref D)) tNil))) σ H (.bl b) := ev_isi h (.own D) (fun H1 e => .base (ty H1 a dx fs (e a _ ho))) hk
theorem ev_same {b : Bool} {v : V} {t : TT} (h : EvT t σ H b) (h1 : b = true → Ev ta σ H v) (h2 : b = false → Ev tb σ H v) : Ev (tIf t ta tb) σ H v := ev_if h h1 h2
variable {D : Ends} {tz : TS}
theorem q_asgO {i : Nat} {C : Addr} {fs : List (Str × V)} (h : EvO te σ H C fs) (k : ∀ p dx H1, H p = none → Ex H H1 → H1 p = some (.ins C dx fs) → tz D (σ.set i (some (.ref p))) H1) : tSeq (tAsg te (gName i)) tz D σ H := h H (Ex.refl H) _ k
theorem s_retO {C : Addr} {fs : List (Str × V)} (h : EvO te σ H C fs) (k : RetO C fs H D.rt) : tRet te D σ H := h H (Ex.refl H) _ k
/-- for x in data -/
theorem s_forD {g : TG} {tu : TS} {tl : TE} {ds : List PyData} (h : EvD K tl σ H (.list ds)) (Pv : Hp → Nat → L2.St → Hp → Prop) (h0 : ∀ H1, Ex H H1 → Pv H1 0 σ H1) (hx : ∀ H1 i σ' H', Pv H1 i σ' H' → Ex H1 H')
    (hs : ∀ H1, Ex H H1 → ∀ i x d σ' H', ds[i]? = some d → Dp K H' x d → Pv H1 i σ' H' → g x σ' H' fun σ2 H2 => tu { D with nx := Pv H1 (i + 1), ct := Pv H1 (i + 1), bk := D.nx } σ2 H2)
    (hd : ∀ H1, Ex H H1 → ∀ σ' H', Pv H1 ds.length σ' H' → D.nx σ' H') : tFor (iList K tl) g tu D σ H :=
  h H (Ex.refl H) _ fun v H1 e hv => by
    cases hv with
    | @lst a xs _ hq hall =>
      refine ⟨a, rfl, ⟨xs, hq⟩, for_list (Pv H1) (h0 H1 e) (fun i σ' H' _ p => ex_l (hx H1 i σ' H' p) hq) (fun i x σ' H' hi p => ?_) fun σ' H' p => hd H1 e σ' H' (by rw [← dpAll_len hall]; exact p)⟩
      obtain ⟨d, h1, h2⟩ := dpAll_get hall hi
      exact hs H1 e i x d σ' H' h1 (Dp.ex (hx H1 i σ' H' p) h2) p
where
  dpAll_get : ∀ {H : Hp} {vs : List V} {ds : List PyData} {i : Nat} {x : V}, DpAll K H vs ds → vs[i]? = some x → ∃ d, ds[i]? = some d ∧ Dp K H x d
    | _, _, _, 0, _, .cons h _, e => by
      have e1 := Option.some.inj e
      subst e1
      exact ⟨_, rfl, h⟩
    | _, _, _, i + 1, _, .cons _ r, e => dpAll_get (i := i) r e
    | _, _, _, _, _, .nil, e => by simp at e
theorem q_forD {g : TG} {tu : TS} {tl : TE} {ds : List PyData} (h : EvD K tl σ H (.list ds)) (Pv : Hp → Nat → L2.St → Hp → Prop) (h0 : ∀ H1, Ex H H1 → Pv H1 0 σ H1) (hx : ∀ H1 i σ' H', Pv H1 i σ' H' → Ex H1 H')
    (hs : ∀ H1, Ex H H1 → ∀ i x d σ' H', ds[i]? = some d → Dp K H' x d → Pv H1 i σ' H' → g x σ' H' fun σ2 H2 => tu { D with nx := Pv H1 (i + 1), ct := Pv H1 (i + 1), bk := tz D } σ2 H2)
    (hd : ∀ H1, Ex H H1 → ∀ σ' H', Pv H1 ds.length σ' H' → tz D σ' H') : tSeq (tFor (iList K tl) g tu) tz D σ H := s_forD (D := { D with nx := tz D }) h Pv h0 hx hs hd
/-- a pair taken apart into two names -/
theorem g_pair {i j : Nat} {d1 d2 : Int} {Q : L2.St → Hp → Prop} (h : Dp K H x (.tuple [.int d1, .int d2])) (k : Q ((σ.set i (some (.int d1))).set j (some (.int d2))) H) : gTup K 2 (gCons (gName i) (gCons (gName j) gNil)) x σ H Q := by
  cases h with
  | tup hq hall =>
    cases hall with
    | cons h1 hr =>
      cases hr with
      | cons h2 hn =>
        cases hn
        cases h1
        cases h2
        exact ⟨_, _, rfl, hq, rfl, _, _, rfl, _, _, rfl, rfl, k⟩
/-- a new list of data -/
def EvM (K : PySem.W.Frag) (te : TE) (σ : L2.St) (H : Hp) (ds : List PyData) : Prop := ∀ H1, Ex H H1 → ∀ Q : VK, (∀ p xs H2, Ex H1 H2 → H1 p = none → H2 p = some (.lst xs) → DpAll K (New H1 H2) xs ds → Q (.ref p) H2) → te σ H1 Q
theorem EvM.toN {ds : List PyData} (h : EvM K te σ H ds) : EvN K te σ H (.list ds) := fun H1 e Q q => h H1 e Q fun p xs H2 e2 np hp hall => q (.ref p) H2 e2 (.lst (sq_of (by rw [new_at np]; exact hp)) hall)
theorem em_lst {ds : List PyData} {ta : TA} (h : EvNA K ta σ H ds) (hl : ds.length ≤ 100000) : EvM K (tLst ta) σ H ds := fun H1 e Q q =>
  h H1 e _ fun vs H2 e2 hv => ⟨sz_of (by rw [dpAll_len hv]; exact hl), fun p hp => q p vs _ (e2.trans (Ex.new hp)) (fresh_back e2 hp) upd_same (DpAll.ex (new_mono (Ex.refl H1) (Ex.new hp)) hv)⟩
theorem dpAll_app : ∀ {vs us : List V} {ds es : List PyData}, DpAll K H vs ds → DpAll K H us es → DpAll K H (vs ++ us) (ds ++ es)
  | _, _, _, _, .nil, h => h
  | _, _, _, _, .cons a r, h => .cons a (dpAll_app r h)
/-- a list of data and a new one: + -/
theorem ed_cat {ds es : List PyData} {l : Addr} {xs : List V} (h1 : Ev ta σ H (.ref l)) (hl : H l = some (.lst xs)) (hall : DpAll K H xs ds) (h2 : EvM K tb σ H es) (hz : ds.length + es.length ≤ 100000) : EvD K (tOp rCat ta tb) σ H (.list (ds ++ es)) := fun H1 e Q q =>
  h1 H1 e _ fun H2 e2 => h2 H2 (e.trans e2) _ fun p ys H3 e3 np hp hys =>
    ⟨l, p, xs, ys, rfl, rfl, ((e.trans e2).trans e3) l _ hl, hp, sz_of (by rw [dpAll_len hall, dpAll_len hys]; exact hz), fun c hc => q (.ref c) _ ((e2.trans e3).trans (Ex.new hc))
      (.lst (sq_of upd_same) (dpAll_app (DpAll.ex (((e.trans e2).trans e3).trans (Ex.new hc)) hall) (DpAll.ex ((new_ex H2 H3).trans (Ex.new hc)) hys)))⟩
theorem q_asgM {i : Nat} {ds : List PyData} (h : EvM K te σ H ds) (k : ∀ p xs H1, Ex H H1 → H p = none → H1 p = some (.lst xs) → DpAll K (New H H1) xs ds → tz D (σ.set i (some (.ref p))) H1) : tSeq (tAsg te (gName i)) tz D σ H := h H (Ex.refl H) _ k
end
/-! ### membership of numbers -/
theorem inV_N (n : Nat) : ∀ l : List Nat, inV (vN n) (vNs l) = decide (n ∈ l)
  | [] => rfl
  | m :: r => by
    have ih := inV_N n r
    unfold inV vNs at *
    rw [List.map_cons, List.any_cons, ih]
    have e : eqV (vN m) (vN n) = decide (n = m) := by
      show (((m : Int)) == ((n : Int))) = decide (n = m)
      rw [Bool.eq_iff_iff]
      simp
      omega
    rw [e, Bool.eq_iff_iff]
    simp
theorem flat_N : ∀ l : List Nat, (vNs l).all flatV = true
  | [] => rfl
  | _ :: r => by
    show (_ && (vNs r).all flatV) = true
    rw [flat_N r]
    rfl
theorem filt_N (m : List Nat) : ∀ l : List Nat, (vNs l).filter (fun x => inV x (vNs m)) = vNs (l.filter fun p => decide (p ∈ m))
  | [] => rfl
  | n :: r => by
    have ih := filt_N m r
    show (vN n :: vNs r).filter _ = _
    rw [List.filter_cons, List.filter_cons, inV_N, ih]
    split <;> rfl
def optV : Option Nat → V
  | some p => vN p
  | none => .non
def SpO (sp : Sp) (vs : List V) (H : Hp) (C : Addr) (fs : List (Str × V)) : Prop := ∀ H1, Ex H H1 → ∀ Q : VK, (∀ p dx H2, H1 p = none → Ex H1 H2 → H2 p = some (.ins C dx fs) → Q (.ref p) H2) → ∀ E : XK, sp vs H1 Q E
section
variable {K : PySem.W.Frag} {σ : L2.St} {H : Hp} {ta te : TE} {x z : V}
theorem eo_call {sp : Sp} {dvs vs : List V} {E : XK} {ta : TA} {C : Addr} {fs : List (Str × V)} (h : EvA ta σ H vs) (hs : SpO sp (vs ++ dvs) H C fs) : EvO (tCall sp dvs E ta) σ H C fs := fun H1 e Q q =>
  h H1 e _ fun H2 e2 => hs H2 (e.trans e2) Q (fun p dx H3 hp e3 h3 => q p dx H3 (fresh_back e2 hp) (e2.trans e3) h3) E
theorem eo_callL {sp : Sp} {dvs vs xs : List V} {E : XK} {tr : TA} {C : Addr} {fs : List (Str × V)} (h : EvL te σ H xs) (hr : EvA tr σ H vs) (hs : ∀ p H1, Ex H H1 → H1 p = some (.lst xs) → SpO sp ((.ref p :: vs) ++ dvs) H1 C fs) : EvO (tCall sp dvs E (tCons te tr)) σ H C fs := fun H1 e Q q =>
  h H1 e _ fun p H2 np e2 hp => hr H2 (e.trans e2) _ fun H3 e3 => hs p H3 ((e.trans e2).trans e3) (e3 p _ hp) H3 (Ex.refl H3) Q (fun u dx H4 hu e4 h4 => q u dx H4 (fresh_back (e2.trans e3) hu) ((e2.trans e3).trans e4) h4) E
def rIsNon : R2 := fun x y H Q => y = .non ∧ Q (.bl (decide (x = .non))) H
theorem rv_isN : RV rIsNon x .non H (.bl (decide (x = .non))) := fun H1 _ _ q => ⟨rfl, q H1 (Ex.refl H1)⟩
theorem el_if {b : Bool} {t : TT} {tb : TE} {xs : List V} (h : EvT t σ H b) (h1 : b = true → EvL ta σ H xs) (h2 : b = false → EvL tb σ H xs) : EvL (tIf t ta tb) σ H xs := fun H1 e Q q => h H1 e _ fun H2 e2 => by
  cases b with
  | true =>
    show ta σ H2 Q
    exact h1 rfl H2 (e.trans e2) Q fun p H3 np e3 h3 => q p H3 (fresh_back e2 np) (e2.trans e3) h3
  | false =>
    show tb σ H2 Q
    exact h2 rfl H2 (e.trans e2) Q fun p H3 np e3 h3 => q p H3 (fresh_back e2 np) (e2.trans e3) h3
/-- [x] * n -/
theorem el_rep {xs : List V} {k : Nat} {tb : TE} (h : EvL ta σ H xs) (hb : Ev tb σ H (vN k)) (hz : xs.length * k ≤ 100000) (hk : k ≤ 100000) : EvL (tOp rRep ta tb) σ H (List.replicate k xs).flatten := fun H1 e Q q =>
  h H1 e _ fun p H2 np e2 hp => hb H2 (e.trans e2) _ fun H3 e3 => ⟨p, (k : Int), xs, rfl, rfl, e3 p _ hp, by omega, by omega, sz_of (by rw [Int.toNat_natCast]; exact hz), fun l hl => q l _ (fresh_back (e2.trans e3) hl) ((e2.trans e3).trans (Ex.new hl)) (by rw [Int.toNat_natCast]; exact upd_same)⟩
end
end Rt

/-! Two ways: where they first meet. Plain Lean. -/
namespace Rt
/-- two rising lists with the same members are one -/
theorem rising_eq : ∀ {l m : List Nat}, l.Pairwise (· < ·) → m.Pairwise (· < ·) → (∀ x, x ∈ l ↔ x ∈ m) → l = m
  | [], [], _, _, _ => rfl
  | [], b :: m, _, _, h => absurd ((h b).mpr List.mem_cons_self) List.not_mem_nil
  | a :: l, [], _, _, h => absurd ((h a).mp List.mem_cons_self) List.not_mem_nil
  | a :: l, b :: m, hl, hm, h => by
    obtain ⟨h1, h2⟩ := List.pairwise_cons.mp hl
    obtain ⟨h3, h4⟩ := List.pairwise_cons.mp hm
    have e : a = b := by
      rcases List.mem_cons.mp ((h a).mp List.mem_cons_self) with e | e
      · exact e
      · rcases List.mem_cons.mp ((h b).mpr List.mem_cons_self) with z | z
        · exact z.symm
        · have := h3 a e
          have := h1 b z
          omega
    subst e
    have : l = m := rising_eq h2 h4 fun x => by
      constructor
      · intro hx
        rcases List.mem_cons.mp ((h x).mp (List.mem_cons_of_mem _ hx)) with e | e
        · have := h1 x hx
          omega
        · exact e
      · intro hx
        rcases List.mem_cons.mp ((h x).mpr (List.mem_cons_of_mem _ hx)) with e | e
        · have := h3 x hx
          omega
        · exact e
    rw [this]
theorem wayF_ge (row : List Nat) : ∀ f p, ∀ q ∈ wayF row f p, p ≤ q
  | 0, p, q, hq => by
    unfold wayF at hq
    rw [List.mem_singleton.mp hq]
    exact Nat.le_refl _
  | f + 1, p, q, hq => by
    rw [wayF_succ] at hq
    split at hq
    · rcases List.mem_cons.mp hq with e | e
      · omega
      · have := wayF_ge row f _ q e
        omega
    · rw [List.mem_singleton.mp hq]
      exact Nat.le_refl _
theorem wayF_rise {row : List Nat} (hc : ∀ c ∈ row, 1 ≤ c) : ∀ f p, p < row.length → (wayF row f p).Pairwise (· < ·)
  | 0, p, _ => by
    unfold wayF
    exact List.pairwise_singleton _ _
  | f + 1, p, hp => by
    rw [wayF_succ]
    split
    · rename_i h
      refine List.pairwise_cons.mpr ⟨fun q hq => ?_, wayF_rise hc f _ h⟩
      have h1 := wayF_ge row f _ q hq
      have h2 : 1 ≤ row.getD p 0 := hc _ (List.mem_of_getElem? (by rw [List.getD_eq_getElem?_getD, List.getElem?_eq_getElem hp]; rfl))
      omega
    · exact List.pairwise_singleton _ _
theorem way_rise {row : List Nat} (hc : ∀ c ∈ row, 1 ≤ c) {p : Nat} (hp : p < row.length) : (way row p).Pairwise (· < ·) := wayF_rise hc _ p hp
/-- the places on both ways, by the other's way -/
def bothL (row : List Nat) (one other : Nat) : List Nat := (way row other).filter fun p => decide (p ∈ way row one)
def firstC (row : List Nat) (one other : Nat) : Option Nat := (bothL row one other).head?
theorem both_sym {row : List Nat} (hc : ∀ c ∈ row, 1 ≤ c) {p q : Nat} (hp : p < row.length) (hq : q < row.length) : bothL row p q = bothL row q p := by
  refine rising_eq ((way_rise hc hq).filter _) ((way_rise hc hp).filter _) fun x => ?_
  unfold bothL
  rw [List.mem_filter, List.mem_filter, decide_eq_true_iff, decide_eq_true_iff]
  exact And.comm
theorem last_mem (row : List Nat) (p : Nat) : lastOf row p ∈ way row p := List.getLast_mem _
theorem apart_ne {row : List Nat} {one other : Nat} (h : firstC row one other = none) : lastOf row one ≠ lastOf row other := by
  intro e
  have h1 : bothL row one other = [] := List.head?_eq_none_iff.mp h
  have h2 : lastOf row other ∈ bothL row one other := by
    unfold bothL
    rw [List.mem_filter, decide_eq_true_iff]
    exact ⟨last_mem row other, by rw [← e]; exact last_mem row one⟩
  rw [h1] at h2
  exact List.not_mem_nil h2
/-- what is told of two ways -/
inductive Ans where
  | meet (z : Int)
  | apart (m t : Int)
  deriving DecidableEq
def isMeet : Ans → Bool
  | .meet _ => true
  | .apart _ _ => false
def cmpA (row : List Nat) (one other : Nat) : Ans := match firstC row one other with
  | some p => .meet (p : Int)
  | none => .apart (lastOf row one : Int) (lastOf row other : Int)
/-- whether it shows so -/
def shB (row : List Nat) (one other : Nat) : Ans → Bool
  | .meet z => match firstC row one other with
    | some p => decide (z = (p : Int))
    | none => false
  | .apart m t => if m = t then false else (m == (lastOf row one : Int) && (t == (lastOf row other : Int) && true))
def dueB (row : List Nat) (one other : Nat) : Ans → Bool
  | .meet z => match firstC row one other with
    | some p => decide (z = (p : Int))
    | none => false
  | .apart m t => (!decide ((lastOf row one : Int) = (lastOf row other : Int))) && (m == (lastOf row one : Int) && (t == (lastOf row other : Int) && true))
theorem due_sh (row : List Nat) (one other : Nat) (a : Ans) : dueB row one other a = shB row one other a := by
  cases a with
  | meet z => rfl
  | apart m t =>
    show ((!decide ((lastOf row one : Int) = (lastOf row other : Int))) && (m == (lastOf row one : Int) && (t == (lastOf row other : Int) && true))) = if m = t then false else (m == (lastOf row one : Int) && (t == (lastOf row other : Int) && true))
    by_cases h : m = t
    · rw [if_pos h]
      subst h
      by_cases h1 : (lastOf row one : Int) = (lastOf row other : Int)
      · rw [decide_eq_true h1]
        rfl
      · by_cases h2 : m = (lastOf row one : Int)
        · have h3 : ¬ m = (lastOf row other : Int) := fun z => h1 (h2.symm.trans z)
          rw [beq_eq_false_iff_ne.mpr h3]
          simp
        · rw [beq_eq_false_iff_ne.mpr h2]
          simp
    · rw [if_neg h]
      by_cases h1 : (lastOf row one : Int) = (lastOf row other : Int)
      · rw [decide_eq_true h1]
        have h3 : ¬ (m = (lastOf row one : Int) ∧ t = (lastOf row other : Int)) := fun z => h (z.1.trans (h1.trans z.2.symm))
        by_cases h2 : m = (lastOf row one : Int)
        · have h4 : ¬ t = (lastOf row other : Int) := fun z => h3 ⟨h2, z⟩
          rw [beq_eq_false_iff_ne.mpr h4]
          simp
        · rw [beq_eq_false_iff_ne.mpr h2]
          simp
      · rw [decide_eq_false h1]
        rfl
theorem sh_cmp (row : List Nat) (one other : Nat) : shB row one other (cmpA row one other) = true := by
  unfold cmpA
  cases e : firstC row one other with
  | some p =>
    unfold shB
    rw [e]
    exact decide_eq_true rfl
  | none =>
    have h := apart_ne e
    show (if (lastOf row one : Int) = (lastOf row other : Int) then false else ((lastOf row one : Int) == (lastOf row one : Int) && ((lastOf row other : Int) == (lastOf row other : Int) && true))) = true
    rw [if_neg (by omega)]
    simp
end Rt

namespace Rt
open PySem L2
theorem rg4 : ∀ j : Nat, 1 ≤ j → j ≤ 12 → RgC 0 (j : Int) 4 ((j + 3) / 4) := by
  intro j h1 h2
  have hs : Builtin.Range.small 0 (j : Int) 4 = true ∧ Builtin.Range.rangeSize 0 (j : Int) 4 = (((j + 3) / 4 : Nat) : Int) := by
    rcases (show j = 1 ∨ j = 2 ∨ j = 3 ∨ j = 4 ∨ j = 5 ∨ j = 6 ∨ j = 7 ∨ j = 8 ∨ j = 9 ∨ j = 10 ∨ j = 11 ∨ j = 12 by omega) with h | h | h | h | h | h | h | h | h | h | h | h <;> subst h <;> exact ⟨by decide +kernel, by decide +kernel⟩
  exact ⟨by decide, by decide, hs.1, hs.2⟩
theorem byJ (n : Nat) : ∃ j : Nat, 1 ≤ j ∧ j ≤ 12 ∧ (if (if (n : Int) < 12 then (n : Int) else 12) > 1 then (if (n : Int) < 12 then (n : Int) else 12) else 1) = (j : Int) := by
  refine ⟨max 1 (min 12 n), by omega, by omega, ?_⟩
  split <;> split <;> omega
end Rt

/-! Further: ranges as lists, lists put together, loops over tuples, objects in lists. -/
namespace Rt
open PySem PySem.Spec PyProof.Rows L2 Evl
section
variable {K : PySem.W.Frag} {σ : L2.St} {H H' : Hp} {ta tb tc te : TE} {x y z v : V} {D : Ends} {tz : TS}
theorem rgV_N (n : Nat) : rgV 0 (n : Int) = vNs (List.range n) := by
  unfold rgV vNs
  rw [show ((n : Int) - 0).toNat = n by omega]
  refine List.map_congr_left fun i _ => ?_
  show V.int _ = V.int _
  rw [Int.zero_add]
/-- list(range(n)) -/
theorem el_listRg {n : Nat} (h : Ev ta σ H (vN n)) (hn : n ≤ 100000) : EvL (tLstRg (tRg1 ta)) σ H (vNs (List.range n)) := fun H1 e Q q =>
  h H1 e _ fun H2 e2 => ⟨(n : Int), rfl, rgOk_small hn, fun l hl => by
    rw [rgV_N]
    exact q l _ (fresh_back e2 hl) (e2.trans (Ex.new hl)) upd_same⟩
where
  rgOk_small {n : Nat} (hn : n ≤ 100000) : RgOk 0 (n : Int) := by
    unfold RgOk
    refine ⟨?_, ?_, ?_, ?_⟩ <;> first | omega | (have h : 100000 ≤ sizeLine := by decide
                                                 omega) | decide
/-- two new lists: + -/
theorem el_cat {xs ys : List V} (h1 : EvL ta σ H xs) (h2 : EvL tb σ H ys) (hz : xs.length + ys.length ≤ 100000) : EvL (tOp rCat ta tb) σ H (xs ++ ys) := fun H1 e Q q =>
  h1 H1 e _ fun p H2 np e2 hp => h2 H2 (e.trans e2) _ fun r H3 nr e3 hr =>
    ⟨p, r, xs, ys, rfl, rfl, e3 p _ hp, hr, sz_of hz, fun l hl => q l _ (fresh_back (e2.trans e3) hl) ((e2.trans e3).trans (Ex.new hl)) upd_same⟩
/-- a list that stands and a new one: + -/
theorem el_cat1 {xs ys : List V} {l : Addr} (h1 : Ev ta σ H (.ref l)) (hl : H l = some (.lst xs)) (h2 : EvL tb σ H ys) (hz : xs.length + ys.length ≤ 100000) : EvL (tOp rCat ta tb) σ H (xs ++ ys) := fun H1 e Q q =>
  h1 H1 e _ fun H2 e2 => h2 H2 (e.trans e2) _ fun r H3 nr e3 hr =>
    ⟨l, r, xs, ys, rfl, rfl, ((e.trans e2).trans e3) l _ hl, hr, sz_of hz, fun c hc => q c _ (fresh_back (e2.trans e3) hc) ((e2.trans e3).trans (Ex.new hc)) upd_same⟩
theorem rv_isBl {a b : Bool} : RV rIsB (.bl a) (.bl b) H (.bl (decide (a = b))) := fun H1 _ _ q => ⟨a, b, rfl, rfl, q H1 (Ex.refl H1)⟩
theorem rv_notBl {a b : Bool} : RV rNotB (.bl a) (.bl b) H (.bl (!decide (a = b))) := fun H1 _ _ q => ⟨a, b, rfl, rfl, q H1 (Ex.refl H1)⟩
/-- for x in data, a tuple -/
theorem s_forDT {g : TG} {tu : TS} {tl : TE} {ds : List PyData} (h : EvD K tl σ H (.tuple ds)) (Pv : Hp → Nat → L2.St → Hp → Prop) (h0 : ∀ H1, Ex H H1 → Pv H1 0 σ H1) (hx : ∀ H1 i σ' H', Pv H1 i σ' H' → Ex H1 H')
    (hs : ∀ H1, Ex H H1 → ∀ i x d σ' H', ds[i]? = some d → Dp K H' x d → Pv H1 i σ' H' → g x σ' H' fun σ2 H2 => tu { D with nx := Pv H1 (i + 1), ct := Pv H1 (i + 1), bk := D.nx } σ2 H2)
    (hd : ∀ H1, Ex H H1 → ∀ σ' H', Pv H1 ds.length σ' H' → D.nx σ' H') : tFor (iTup K tl) g tu D σ H :=
  h H (Ex.refl H) _ fun v H1 e hv => by
    cases hv with
    | @tup a xs _ hq hall =>
      refine ⟨a, rfl, ⟨xs, hq⟩, for_tup (Pv H1) (h0 H1 e) (fun i σ' H' _ p => ex_t (hx H1 i σ' H' p) hq) (fun i x σ' H' hi p => ?_) fun σ' H' p => hd H1 e σ' H' (by rw [← dpAll_len hall]; exact p)⟩
      obtain ⟨d, h1, h2⟩ := s_forD.dpAll_get hall hi
      exact hs H1 e i x d σ' H' h1 (Dp.ex (hx H1 i σ' H' p) h2) p
theorem q_forDT {g : TG} {tu : TS} {tl : TE} {ds : List PyData} (h : EvD K tl σ H (.tuple ds)) (Pv : Hp → Nat → L2.St → Hp → Prop) (h0 : ∀ H1, Ex H H1 → Pv H1 0 σ H1) (hx : ∀ H1 i σ' H', Pv H1 i σ' H' → Ex H1 H')
    (hs : ∀ H1, Ex H H1 → ∀ i x d σ' H', ds[i]? = some d → Dp K H' x d → Pv H1 i σ' H' → g x σ' H' fun σ2 H2 => tu { D with nx := Pv H1 (i + 1), ct := Pv H1 (i + 1), bk := tz D } σ2 H2)
    (hd : ∀ H1, Ex H H1 → ∀ σ' H', Pv H1 ds.length σ' H' → tz D σ' H') : tSeq (tFor (iTup K tl) g tu) tz D σ H := s_forDT (D := { D with nx := tz D }) h Pv h0 hx hs hd
/-- for x in (a, b, ..), a name for target; the word is kept to what stands at the loop's start -/
theorem s_forU {tu : TS} {tl : TE} {j : Nat} {xs : List V} (h : EvU tl σ H xs) (Pv : Hp → Nat → L2.St → Hp → Prop) (h0 : ∀ H1, Ex H H1 → Pv H1 0 σ H1) (hx : ∀ H1 i σ' H', Pv H1 i σ' H' → Ex H1 H')
    (hs : ∀ H1, Ex H H1 → ∀ i x σ' H', xs[i]? = some x → Pv H1 i σ' H' → tu { D with nx := Pv H1 (i + 1), ct := Pv H1 (i + 1), bk := D.nx } (σ'.set j (some x)) H')
    (hd : ∀ H1, Ex H H1 → ∀ σ' H', Pv H1 xs.length σ' H' → D.nx σ' H') : tFor (iTup K tl) (gName j) tu D σ H :=
  h H (Ex.refl H) _ fun p H1 np e hp => ⟨p, rfl, ⟨xs, st_of hp⟩, for_tup (Pv H1) (h0 H1 e) (fun i σ' H' _ w => st_of (hx H1 i σ' H' w p _ hp)) (fun i x σ' H' hi w => hs H1 e i x σ' H' hi w) fun σ' H' w => hd H1 e σ' H' w⟩
/-- for x in [..], the same -/
theorem s_forN {tu : TS} {tl : TE} {j : Nat} {xs : List V} (h : EvL tl σ H xs) (Pv : Hp → Nat → L2.St → Hp → Prop) (h0 : ∀ H1, Ex H H1 → Pv H1 0 σ H1) (hx : ∀ H1 i σ' H', Pv H1 i σ' H' → Ex H1 H')
    (hs : ∀ H1, Ex H H1 → ∀ i x σ' H', xs[i]? = some x → Pv H1 i σ' H' → tu { D with nx := Pv H1 (i + 1), ct := Pv H1 (i + 1), bk := D.nx } (σ'.set j (some x)) H')
    (hd : ∀ H1, Ex H H1 → ∀ σ' H', Pv H1 xs.length σ' H' → D.nx σ' H') : tFor (iList K tl) (gName j) tu D σ H :=
  h H (Ex.refl H) _ fun p H1 np e hp => ⟨p, rfl, ⟨xs, sq_of hp⟩, for_list (Pv H1) (h0 H1 e) (fun i σ' H' _ w => sq_of (hx H1 i σ' H' w p _ hp)) (fun i x σ' H' hi w => hs H1 e i x σ' H' hi w) fun σ' H' w => hd H1 e σ' H' w⟩
theorem q_forN {tu : TS} {tl : TE} {j : Nat} {xs : List V} (h : EvL tl σ H xs) (Pv : Hp → Nat → L2.St → Hp → Prop) (h0 : ∀ H1, Ex H H1 → Pv H1 0 σ H1) (hx : ∀ H1 i σ' H', Pv H1 i σ' H' → Ex H1 H')
    (hs : ∀ H1, Ex H H1 → ∀ i x σ' H', xs[i]? = some x → Pv H1 i σ' H' → tu { D with nx := Pv H1 (i + 1), ct := Pv H1 (i + 1), bk := tz D } (σ'.set j (some x)) H')
    (hd : ∀ H1, Ex H H1 → ∀ σ' H', Pv H1 xs.length σ' H' → tz D σ' H') : tSeq (tFor (iList K tl) (gName j) tu) tz D σ H := s_forN (D := { D with nx := tz D }) h Pv h0 hx hs hd
/-- [e for x in xs], told by the turn -/
theorem el_mapLi {a : Addr} {xs : List V} {tl : TE} {j : Nat} {vs : List Nat} (g : Nat → V) (h : Ev tl σ H (.ref a)) (hx : SqL K H a xs) (hz : xs.length ≤ 40000)
    (he : ∀ i x, xs[i]? = some x → ∀ H1, Ex H H1 → Ev te ((wipe σ vs).set j (some x)) H1 (g i)) (hw : ∀ x, wipe ((wipe σ vs).set j (some x)) vs = wipe σ vs := by intro _; rfl) :
    EvL (tLc (iList K tl) (gName j) tYes te vs) σ H ((List.range xs.length).map g) :=
  el_to (el_lcL (fun _ => true) g h hx hz hw (fun _ _ _ _ _ => et_yes) fun i x H1 e1 hi _ => he i x hi H1 e1) (given_all _ g)
end
end Rt
namespace Rt
open PySem PySem.Spec PyProof.Rows L2 Evl
section
variable {K : PySem.W.Frag} {σ : L2.St} {H H' : Hp} {ta te : TE} {z : V}
/-- C(..).m([..], ..) -/
theorem ev_methOL {C : Addr} {fs : List (Str × V)} {m : Str} {sp : Sp} {dvs vs xs : List V} {E : XK} {tr : TA} (h : EvO ta σ H C fs) (hm : fs.lookup m = none) (hl : EvL te σ H xs) (hr : EvA tr σ H vs)
    (hs : ∀ a dx p H1, Ex H H1 → H1 a = some (.ins C dx fs) → H1 p = some (.lst xs) → SpV sp (.ref a :: ((.ref p :: vs) ++ dvs)) H1 z) : Ev (tMeth C m sp dvs E ta (tCons te tr)) σ H z := fun H1 e Q q =>
  h H1 e _ fun a dx H2 na e2 ha => ⟨a, dx, fs, rfl, ha, hm, hl H2 (e.trans e2) _ fun p H3 np e3 hp => hr H3 ((e.trans e2).trans e3) _ fun H4 e4 =>
    hs a dx p H4 (((e.trans e2).trans e3).trans e4) (e4 a _ (e3 a _ ha)) (e4 p _ hp) H4 (Ex.refl H4) Q (fun H5 e5 => q H5 (((e2.trans e3).trans e4).trans e5)) E⟩
theorem dpAll_bl : ∀ bs : List Bool, DpAll K H (bs.map V.bl) (bs.map PyData.bool)
  | [] => .nil
  | b :: r => .cons (.bl b) (dpAll_bl r)
theorem en_bls {bs : List Bool} (h : EvL te σ H (bs.map V.bl)) : EvN K te σ H (.list (bs.map PyData.bool)) := en_l h fun _ => dpAll_bl bs
theorem range_map_getD {α : Type} (l : List α) (d : α) (f : α → V) : (List.range l.length).map (fun i => f (l.getD i d)) = l.map f := by
  refine List.ext_getElem (by simp) fun i h1 h2 => ?_
  have h3 : i < l.length := by simpa using h2
  simp [List.getD_eq_getElem?_getD, List.getElem?_eq_getElem h3]
end
end Rt

/-! set(a list of ints), with what sorted asks of the set. (The layer has it of a tuple alone.) -/
namespace Rt
open PySem PySem.Spec PyProof.Rows L2 Evl
/-- the set as it is made, empty -/
abbrev set0 (w : World) : Obj := { cls := .type "set", dict := none, data := .set #[] 0 (.fresh 0 0 (!w.params.followText "set-order")) }
section
variable {P : Program} {w : World} {A : Around} {E : Value → Shared → Prop} {s : Shared}
/-- what is left behind set.__init__ -/
def SetMade (w : World) (s : Shared) (ns : List Int) (s2 : Shared) : Prop :=
  ∃ (h2 : Heap) (tk c : Nat), s2 = { s with heap := h2, toks := tk } ∧ SetR w h2 s.heap.objs.size (fun j => decide (j ∈ ns)) c ∧ c ≤ ns.length ∧ ∀ b o, s.heap.get? b = some o → h2.get? b = some o
set_option maxHeartbeats 4000000 in
theorem set_init_list {l : Addr} {items : Array Value} {B : Around} (ns : List Int) (hh : B.handled = none) (hl : s.heap.IsList l items) (hit : IntsAre items.toList ns) (hb : ns.length + 1 < scanBound) :
    wpAny (model P w) B.in1 (Builtin.«set.__init__» ⟨[.ref s.heap.objs.size, .ref l], []⟩)
      (fun fin s1 => match fin with
        | .done f => wants (fun r s2 => r = Value.none ∧ SetMade w s ns s2) E (.ok f) s1
        | .again c => c.quiet = true ∧ codeAny (model P w) B c (wants (fun r s2 => r = Value.none ∧ SetMade w s ns s2) E) s1)
      (fun e s1 => wants (fun r s2 => r = Value.none ∧ SetMade w s ns s2) E (.error e) s1) { s with heap := s.heap.push (set0 w) } := by
  have size : items.size = ns.length := by simpa using IntsAre.length hit
  obtain ⟨⟨oc, od, odt, osl⟩, at0, ec, nl, ed⟩ := hl
  dsimp only at ec ed
  subst ec ed
  have at1 : (s.heap.push (set0 w)).get? l = some { cls := .type "list", dict := od, data := .seq items nl, slots := osl } := Heap.get?_push_of_some _ at0
  have lst1 : (s.heap.push (set0 w)).IsList l items := ⟨_, at1, rfl, nl, rfl⟩
  have old : l < s.heap.objs.size := Heap.lt_size at0
  have new : (s.heap.push (set0 w)).objs.size = s.heap.objs.size + 1 := Heap.size_push ..
  have self1 : (s.heap.push (set0 w)).get? s.heap.objs.size = some (set0 w) := Heap.get?_push_size _ rfl
  have k1 := F.sub_list_set
  have k2 := F.sub_list_frozenset
  have k3 : (Value.type "list" == Value.type "dict") = false := by decide
  unfold Builtin.«set.__init__» noKeywords Builtin.Frozenset.updateFrom
  generalize ePI : pyIter = PI
  wp_walk
  subst ePI
  refine wpAny_pyIter_list lst1 (wpAny_bind (wpAny_runValue ?_))
  have apart : l ≠ (s.heap.push (set0 w)).objs.size := by
    rw [new]
    exact Nat.ne_of_lt (Nat.lt_succ_of_lt old)
  have own : s.heap.objs.size ∉ [(s.heap.push (set0 w)).objs.size, l] := by
    rw [new]
    intro z
    simp only [List.mem_cons, List.not_mem_nil, or_false] at z
    rcases z with z | z
    · exact absurd z (Nat.ne_of_lt (Nat.lt_succ_self _))
    · exact absurd z (Nat.ne_of_gt old)
  have each : ∀ (i : Nat) (v : Value), items[i]? = some v → ∃ k t, ns[i]? = some k ∧ v = .int k t := by
    intro i v e
    have lt : i < ns.length := by
      rw [← size]
      exact (Array.getElem?_eq_some_iff.mp e).1
    obtain ⟨t, q⟩ := PyProof.Rows.IntsAre.int_at hit i v (by rw [Array.getElem?_toList]; exact e)
    exact ⟨ns[i], t, List.getElem?_eq_getElem lt, by rw [q, List.getD_eq_getElem?_getD, List.getElem?_eq_getElem lt]; rfl⟩
  have quiet : B.in1.in1.in1.handled = none := by simp [hh]
  refine set_update_ints ((Walks.list (by first | exact quiet | simp [hh]) _ l apart items).toS) s.heap.objs.size own ns size hb each (items.size - 0) 0 _ (by omega) (Nat.zero_le _) ⟨⟨_, Heap.get?_push_size _ rfl, rfl, rfl⟩, lst1.push _⟩ ?_ ?_
  · exact ⟨0, Nat.le_refl 0, setR_new_at (Heap.get?_push_of_some _ self1)⟩
  · rintro ⟨h2, g2, d2, tk2, os2⟩ c moved hc R
    have e1 : g2 = s.gens := moved.gens
    have e2 : d2 = s.drawn := moved.drawn
    have e3 : os2 = s.os := moved.os
    subst e1 e2 e3
    refine wpAny_pure ?_
    show wpAny _ _ (ret Value.none) _ _ _
    refine wpAny_pure ⟨rfl, h2, tk2, c, rfl, R, by omega, ?_⟩
    intro b o e
    have hlt : b < s.heap.objs.size := Heap.lt_size e
    refine moved.heap b o ?_ (Heap.get?_push_of_some _ (Heap.get?_push_of_some _ e))
    rw [new]
    intro z
    simp only [List.mem_cons, List.not_mem_nil, or_false] at z
    rcases z with z | z
    · exact absurd z (Nat.ne_of_lt hlt)
    · exact absurd z (Nat.ne_of_lt (Nat.lt_succ_of_lt hlt))
set_option maxHeartbeats 4000000 in
theorem set_of_list {l : Addr} {items : Array Value} {Q : Value → Shared → Prop} (ns : List Int) (hh : A.handled = none) (hl : s.heap.IsList l items) (hit : IntsAre items.toList ns) (hb : ns.length + 1 < scanBound)
    (h : ∀ s2, SetMade w s ns s2 → Q (.ref s.heap.objs.size) s2) : wpAny (model P w) A (call (.type "set") [.ref l]) Q E s := by
  obtain ⟨mc, mt, f0⟩ := F.called_set.mro
  have f1 := F.called_set.made
  have f2 := F.called_set.sub
  have f3 := F.called_set.notType
  have f4 := F.called_set.canCreate
  have f5 := F.typeCall_set_1 (.ref l)
  have f6 := F.called_set.init.lookup
  have f7 := F.called_set.init.bind (.ref s.heap.objs.size)
  refine wpAny_call (codeAny_of_tree (show wpAny _ _ (callAny (.type "set") _) _ _ _ from wpAny_pure ⟨Code.quiet_builtin _ (by decide +kernel), codeAny_builtin F.entry_type_call ?_⟩))
  rw [Around.under_plain (weight_type_call_type "set" [.ref l] []) rfl]
  repeat (any_goals (first | assumption | wp_step))
  refine codeAny_mono (code_set_led1 (.ref l) (E := E) (Q₁ := fun v t => v = .ref s.heap.objs.size ∧ t = { s with heap := s.heap.push (set0 w) }) ⟨rfl, rfl⟩) ?_
  intro r t hr
  rcases r with e | fl
  · exact hr
  cases fl with
  | ret v =>
    obtain ⟨rfl, rfl⟩ := hr
    have ty : Shared.TypeIs { s with heap := s.heap.push (set0 w) } (.ref s.heap.objs.size) "set" := ⟨_, Heap.get?_push_size _ rfl, rfl⟩
    repeat (any_goals (first | assumption | wp_step))
    refine codeAny_mono (codeAny_call_builtin (R := wants (fun r s2 => r = .none ∧ SetMade w s ns s2) E) F.called_set.init.plain F.entry_set_init (check_set_init_1 ty ?_)) ?_
    · first
        | exact set_init_list ns (by simp [hh]) hl hit hb
        | exact set_init_list (B := _) ns hh hl hit hb
    · intro r2 s2 hr2
      rcases r2 with e | fl2
      · exact hr2
      cases fl2 with
      | ret r =>
        obtain ⟨rfl, made⟩ := hr2
        repeat (any_goals (first | assumption | wp_step))
        exact h _ made
      | _ => exact hr2.elim
  | _ => exact hr.elim
end
/-- set(xs) of a list of ints, as a rule -/
def rSetL (K : PySem.W.Frag) (w : World) : List V → Hp → VK → Prop := fun xs H Q => ∃ (a : Addr) (ns : List Int), xs = [.ref a] ∧ SqL K H a (ns.map V.int) ∧ ns.length ≤ 1000 ∧
  ∀ p c, H p = none → c ≤ ns.length → Q (.ref p) (upd H p (SetO w p (fun j => decide (j ∈ ns)) c))
theorem cr_setL {X : Cx} (hc : X.calm = true) : CallR X (.type "set") (rSetL X.K X.w) := by
  intro pins s σ H xs us Q I r h
  obtain ⟨a, ns, rfl, hS, hn, q⟩ := h
  obtain ⟨u, rfl, ru⟩ := vals1 r
  cases (show u = Value.ref a from ru)
  obtain ⟨its, rv, ⟨o, n, ho, hcl, _, hd⟩, _⟩ := I.list hS
  refine set_of_list ns (I.ok.hd hc) ⟨o, ho, hcl, n, hd⟩ (by simpa using ints_of_vals rv) (by unfold scanBound; omega) ?_
  rintro s2 ⟨h2, tk, c, rfl, R, hle, keep⟩
  have fresh : s.heap.objs.size ≤ s.heap.objs.size := Nat.le_refl _
  exact ⟨.ref s.heap.objs.size, _, I.laid (t' := tk) keep fresh (setO_new R), rfl, q _ c (I.hok.fresh fresh) hle⟩
end Rt

/-! Dicts, sorted, counts; comprehensions that tell data. -/
namespace Rt
open PySem PySem.Spec PyProof.Rows L2 Evl
section
variable {K : PySem.W.Frag} {σ : L2.St} {H H' : Hp} {ta tb tc td te tl tx ty : TE} {x y z v : V} {D : Ends} {tz : TS}
/-- d.get(k, z) -/
theorem ev_get2 {a : Addr} {kvs : List (Key × V)} {k : Key} (hd : Ev td σ H (.ref a)) (ha : H a = some (.dK kvs)) (hk : Ev ty σ H (kV k)) (hz : Ev tx σ H z) : Ev (tDGet2 td ty tx) σ H ((valV kvs k).getD z) := fun H1 e Q q =>
  hd H1 e _ fun H2 e2 => ⟨a, rfl, .inl ⟨kvs, .inl ((e.trans e2) a _ ha)⟩, hk H2 (e.trans e2) _ fun H3 e3 => hz H3 ((e.trans e2).trans e3) _ fun H4 e4 =>
    ⟨valV kvs k, DGet.k ((((e.trans e2).trans e3).trans e4) a _ ha), q H4 ((e2.trans e3).trans e4)⟩⟩
/-- d[k] -/
theorem ev_dget {a : Addr} {kvs : List (Key × V)} {k : Key} (hd : Ev td σ H (.ref a)) (ha : H a = some (.dK kvs)) (hk : Ev ty σ H (kV k)) (hv : valV kvs k = some v) : Ev (tDGet td ty) σ H v := fun H1 e Q q =>
  hd H1 e _ fun H2 e2 => hk H2 (e.trans e2) _ fun H3 e3 => ⟨a, v, rfl, by rw [← hv]; exact DGet.k (((e.trans e2).trans e3) a _ ha), q H3 (e2.trans e3)⟩
/-- d[k] = v -/
theorem s_dput {a : Addr} {kvs : List (Key × V)} {k : Key} (ha : H a = some (.dK kvs)) (hv : Ev te σ H v) (hd : Ev td σ H (.ref a)) (hk : Ev ty σ H (kV k)) (hl : kvs.length < 100000) (q : ∀ H1, Ex H H1 → D.nx σ (upd H1 a (.dK (putK kvs k v)))) : sDPut td ty te D σ H :=
  hv H (Ex.refl H) _ fun H1 e1 => hd H1 e1 _ fun H2 e2 => hk H2 (e1.trans e2) _ fun H3 e3 => ⟨a, _, rfl, DPut.k (((e1.trans e2).trans e3) a _ ha) (sz_lt hl), q H3 ((e1.trans e2).trans e3)⟩
theorem q_dnew {i : Nat} (q : ∀ p H1, H p = none → Ex H H1 → H1 p = some (.dK []) → tz D (σ.set i (some (.ref p))) H1) : tSeq (tAsg tDNewK (gName i)) tz D σ H := fun p hp => q p _ hp (Ex.new hp) upd_same
/-! sorted -/
theorem rise_ints {ys ks : List Int} {rs : List Nat} (p : ys.Perm ks) (hs : ys.Pairwise (· ≤ ·)) (nd : ks.Nodup) (hr : rs.Pairwise (· < ·)) (hm : ∀ z : Int, z ∈ ks ↔ ∃ n : Nat, n ∈ rs ∧ z = (n : Int)) : ys = rs.map fun n : Nat => (n : Int) := by
  have ndy : ys.Nodup := p.symm.nodup nd
  have hlt : ys.Pairwise (· < ·) := by
    have h2 := List.Pairwise.and hs ndy
    exact h2.imp fun h => Int.lt_iff_le_and_ne.mpr h
  have e : ys.map Int.toNat = rs := by
    refine rising_eq ?_ hr fun n => ?_
    · rw [List.pairwise_map]
      refine List.Pairwise.imp_of_mem ?_ hlt
      intro x y hx hy hxy
      obtain ⟨n, _, rfl⟩ := (hm x).mp (p.mem_iff.mp hx)
      obtain ⟨m, _, rfl⟩ := (hm y).mp (p.mem_iff.mp hy)
      omega
    · constructor
      · intro h
        obtain ⟨z, hz, rfl⟩ := List.mem_map.mp h
        obtain ⟨m, hm1, rfl⟩ := (hm z).mp (p.mem_iff.mp hz)
        exact hm1
      · intro h
        exact List.mem_map.mpr ⟨(n : Int), p.mem_iff.mpr ((hm _).mpr ⟨n, h, rfl⟩), rfl⟩
  rw [← e, List.map_map]
  have : ∀ z ∈ ys, ((fun n : Nat => (n : Int)) ∘ Int.toNat) z = z := by
    intro z hz
    obtain ⟨m, _, rfl⟩ := (hm z).mp (p.mem_iff.mp hz)
    rfl
  rw [List.map_congr_left this, List.map_id']
def rSortDI : List V → Hp → VK → Prop := fun xs H Q => ∃ (a : Addr) (kvs : List (Key × V)) (ks : List Int), xs = [.ref a] ∧ Rd H a (.dK kvs) ∧ kvs.map (·.1) = ks.map Sum.inl ∧ ks.length < 64 ∧ ∀ (ys : List Int) (p : Addr), ys.Perm ks → ys.Pairwise (· ≤ ·) → H p = none → Q (.ref p) (upd H p (.lst (ys.map V.int)))
/-- sorted(d), d with keys that are numbers -/
theorem el_sortD {a : Addr} {kvs : List (Key × V)} {ks rs : List Nat} (h : Ev ta σ H (.ref a)) (ha : H a = some (.dK kvs)) (hk : kvs.map (·.1) = ks.map fun n : Nat => Sum.inl (n : Int)) (h64 : ks.length < 64) (nd : ks.Nodup) (hr : rs.Pairwise (· < ·)) (hm : ∀ n, n ∈ ks ↔ n ∈ rs) :
    EvL (tCB rSortDI (tCons ta tNil)) σ H (vNs rs) := fun H1 e Q q =>
  h H1 e _ fun H2 e2 => ⟨a, kvs, ks.map fun n : Nat => (n : Int), rfl, .inl ((e.trans e2) a _ ha), by rw [hk, List.map_map]; rfl, by rw [List.length_map]; exact h64, fun ys p pm sr hp => by
    have ndI : (ks.map fun n : Nat => (n : Int)).Nodup := List.Pairwise.map _ (fun x y hxy => by omega) nd
    have := rise_ints pm sr ndI hr (fun z => by
      constructor
      · intro hz
        obtain ⟨n, hn, rfl⟩ := List.mem_map.mp hz
        exact ⟨n, (hm n).mp hn, rfl⟩
      · rintro ⟨n, hn, rfl⟩
        exact List.mem_map.mpr ⟨n, (hm n).mpr hn, rfl⟩)
    rw [this, List.map_map]
    exact q p _ (fresh_back e2 hp) (e2.trans (Ex.new hp)) upd_same⟩
/-- sorted(set(l)) -/
theorem el_sortSet {w : World} {a : Addr} {l rs : List Nat} (h : Ev ta σ H (.ref a)) (ha : SqL K H a (vNs l)) (hl : l.length < 64) (hr : rs.Pairwise (· < ·)) (hm : ∀ n, n ∈ l ↔ n ∈ rs) :
    EvL (tCB (rSortedSet w) (tCons (tCB (rSetL K w) (tCons ta tNil)) tNil)) σ H (vNs rs) := fun H1 e Q q =>
  h H1 e _ fun H2 e2 => ⟨a, l.map fun n : Nat => (n : Int), rfl, by rw [List.map_map]; exact ex_l (e.trans e2) ha, by rw [List.length_map]; omega, fun s c hs hc => ⟨s, _, c, rfl, upd_same, by rw [List.length_map] at hc; omega, fun ns p pw mem hlen hp => by
    have ndz : ns.Nodup := pw.imp fun h => Int.ne_of_lt h
    have := rise_ints (List.Perm.refl ns) (pw.imp fun h => Int.le_of_lt h) ndz hr (fun z => by
      rw [mem z, decide_eq_true_iff]
      constructor
      · intro hz
        obtain ⟨n, hn, rfl⟩ := List.mem_map.mp hz
        exact ⟨n, (hm n).mp hn, rfl⟩
      · rintro ⟨n, hn, rfl⟩
        exact List.mem_map.mpr ⟨n, (hm n).mpr hn, rfl⟩)
    rw [this, List.map_map]
    exact q p _ (fresh_back (e2.trans (Ex.new hs)) hp) ((e2.trans (Ex.new hs)).trans (Ex.new hp)) upd_same⟩⟩
theorem count_int (l : List Nat) (n : Nat) : (l.map fun n : Nat => (n : Int)).count (n : Int) = l.count n := by
  induction l with
  | nil => rfl
  | cons m r ih =>
    rw [List.map_cons, List.count_cons, List.count_cons, ih]
    congr 1
    by_cases h : m = n
    · subst h
      simp
    · have h2 : ¬ (m : Int) = (n : Int) := by omega
      simp [h, h2]
/-- l.count(n) -/
theorem ev_count {a : Addr} {l : List Nat} {n : Nat} (h : Ev ta σ H (.ref a)) (ha : SqL K H a (vNs l)) (hn : Ev tb σ H (vN n)) : Ev (tBM K "list" (rCntI K) ta (tCons tb tNil)) σ H (vN (l.count n)) := fun H1 e Q q =>
  h H1 e _ fun H2 e2 => ⟨.inl ⟨rfl, _, ex_l (e.trans e2) ha⟩, hn H2 (e.trans e2) _ fun H3 e3 => ⟨a, l.map fun n : Nat => (n : Int), (n : Int), rfl, rfl, by rw [List.map_map]; exact ex_l ((e.trans e2).trans e3) ha, by
    rw [count_int]
    exact q H3 (e2.trans e3)⟩⟩
theorem tyx_t {a : Addr} {xs : List V} (h : SqT K H a xs) : TyX K H (.ref a) (.type "tuple") := by
  rcases h with (h | ⟨o, h⟩) | ⟨o, its, n, hk, hc, _⟩
  · exact .base (.tup h)
  · exact .fTuple h
  · exact .kTuple hk hc
theorem dp_N_inv {l : List Nat} (h : Dp K H v (pdN l)) : ∃ a, v = .ref a ∧ SqL K H a (vNs l) := by
  cases h with
  | @lst a xs _ hq hall => exact ⟨a, rfl, by rw [← dpAll_N_inv hall]; exact hq⟩
where
  dpAll_N_inv : ∀ {l : List Nat} {xs : List V}, DpAll K H xs (l.map fun n : Nat => PyData.int (n : Int)) → xs = vNs l
    | [], _, .nil => rfl
    | n :: r, _, .cons h1 h2 => by
      cases h1
      rw [dpAll_N_inv h2]
      rfl
theorem dpAll_at : ∀ {vs : List V} {ds : List PyData} {i : Nat} {d : PyData}, DpAll K H vs ds → ds[i]? = some d → ∃ v, vs[i]? = some v ∧ Dp K H v d
  | _, _, 0, _, .cons h _, e => by
    have e1 := Option.some.inj e
    subst e1
    exact ⟨_, rfl, h⟩
  | _, _, i + 1, _, .cons _ r, e => dpAll_at (i := i) r e
  | _, _, _, _, .nil, e => by simp at e
/-! comprehensions that tell data -/
theorem new_sub {H1 H2 H3 H4 : Hp} (a : ∀ c, H2 c = none → H1 c = none) (b : ∀ c o, H2 c = none → H3 c = some o → H4 c = some o) : Ex (New H2 H3) (New H1 H4) := fun c o h => by
  cases q : H2 c with
  | some u => rw [new_old q] at h; cases h
  | none =>
    rw [new_at q] at h
    rw [new_at (a c q)]
    exact b c o q h
/-- at the turn i the list at L tells the data of what went before -/
def Dw (K : PySem.W.Frag) (H1 : Hp) (L : Addr) (ds : List PyData) (i : Nat) (H' : Hp) : Prop :=
  H1 L = none ∧ Ex H1 H' ∧ ∃ acc, H' L = some (.lst acc) ∧ DpAll K (New (upd H1 L (.lst [])) H') acc (ds.take i)
theorem dw_turn {H1 : Hp} {L : Addr} {ds : List PyData} {i : Nat} {d : PyData} {σ2 : L2.St} (p : Dw K H1 L ds i H') (hi : ds[i]? = some d) (hz : ds.length ≤ 50000) (he : EvN K te σ2 H' d) :
    te σ2 H' fun y H4 => ∃ acc, H4 L = some (.lst acc) ∧ acc.length < sizeLine ∧ Dw K H1 L ds (i + 1) (upd H4 L (.lst (acc ++ [y]))) := by
  obtain ⟨p1, p2, acc, p3, p4⟩ := p
  refine he H' (Ex.refl H') _ fun y H4 e4 hy => ⟨acc, e4 L _ p3, ?_, p1, Ex.mut (p2.trans e4) p1, acc ++ [y], upd_same, ?_⟩
  · have := dpAll_len p4
    have h2 : (ds.take i).length ≤ ds.length := by
      rw [List.length_take]
      omega
    exact sz_lt (by omega)
  · have ne : ∀ c : Addr, upd H1 L (.lst []) c = none → c ≠ L := fun c hc z => by
      rw [z, upd_same] at hc
      cases hc
    have ne2 : ∀ c : Addr, H' c = none → c ≠ L := fun c hc z => by
      rw [z, p3] at hc
      cases hc
    rw [List.take_add_one, hi]
    refine dpAll_app (DpAll.ex (new_sub (fun _ h => h) fun c o hc ho => ?_) p4) (.cons (Dp.ex (new_sub (fun c hc => ?_) fun c o hc ho => ?_) hy) .nil)
    · rw [upd_ne (ne c hc)]
      exact e4 c o ho
    · rw [upd_ne (ne2 c hc)]
      exact fresh_back p2 hc
    · rw [upd_ne (ne2 c hc)]
      exact ho
theorem dw_end {H0 H1 : Hp} {L : Addr} {ds : List PyData} {Q : VK} (e : Ex H0 H1) (p : Dw K H1 L ds ds.length H') (q : ∀ p xs H2, Ex H0 H2 → H0 p = none → H2 p = some (.lst xs) → DpAll K (New H0 H2) xs ds → Q (.ref p) H2) : Q (.ref L) H' := by
  obtain ⟨p1, p2, acc, p3, p4⟩ := p
  rw [List.take_length] at p4
  refine q L acc H' (e.trans p2) (fresh_back e p1) p3 (DpAll.ex (new_sub (fun c hc => ?_) fun _ _ _ h => h) p4)
  refine fresh_back e ?_
  by_cases z : c = L
  · rw [z, upd_same] at hc
    cases hc
  · rw [upd_ne z] at hc
    exact hc
theorem dw_start {H1 : Hp} {L : Addr} {ds : List PyData} (hL : H1 L = none) : Dw K H1 L ds 0 (upd H1 L (.lst [])) := ⟨hL, Ex.new hL, [], upd_same, by rw [List.take_zero]; exact .nil⟩
/-- [data for i in range(n)] -/
theorem em_mapR {ta : TA} {j : Nat} {vs : List Nat} {n : Nat} (g : Nat → PyData) (h : EvA ta σ H [vN n]) (hn : n ≤ 40000)
    (he : ∀ i, i < n → ∀ H1, Ex H H1 → EvN K te ((wipe σ vs).set j (some (vN i))) H1 (g i)) (hw : ∀ x, wipe ((wipe σ vs).set j (some x)) vs = wipe σ vs := by intro _; rfl) :
    EvM K (tLc (iRng1 ta) (gName j) tYes te vs) σ H ((List.range n).map g) := fun H0 e Q q =>
  h H0 e _ fun H1 e1 => ⟨(n : Int), rfl, by omega, by omega, fun L hL => lc_range (lo := 0) (n := (n : Int).toNat) (Dw K H1 L ((List.range n).map g)) (dw_start hL) (fun i H' hi p => by
      have hi' : i < n := by omega
      have e0 : (0 : Int) + (i : Int) = (i : Int) := Int.zero_add _
      show wipe ((wipe σ vs).set j (some (.int ((0 : Int) + (i : Int))))) vs = wipe σ vs ∧ te ((wipe σ vs).set j (some (.int ((0 : Int) + (i : Int))))) H' _
      rw [e0]
      exact ⟨hw _, dw_turn (d := g i) p (by rw [List.getElem?_map, List.getElem?_range hi']; rfl) (by rw [List.length_map, List.length_range]; omega) (he i hi' H' ((e.trans e1).trans p.2.1))⟩)
    (fun H' p => dw_end e1 (by rw [List.length_map, List.length_range]; rw [Int.toNat_natCast] at p; exact p) q)⟩
/-- [data for x in xs], xs a new list -/
theorem em_mapN {xs : List V} {j : Nat} {vs : List Nat} (g : V → PyData) (h : EvL tl σ H xs) (hz : xs.length ≤ 40000)
    (he : ∀ x ∈ xs, ∀ H1, Ex H H1 → EvN K te ((wipe σ vs).set j (some x)) H1 (g x)) (hw : ∀ x, wipe ((wipe σ vs).set j (some x)) vs = wipe σ vs := by intro _; rfl) :
    EvM K (tLc (iList K tl) (gName j) tYes te vs) σ H (xs.map g) := fun H0 e Q q =>
  h H0 e _ fun a H1 na e1 ha => ⟨a, rfl, ⟨xs, sq_of ha⟩, fun L hL => lc_list (xs := xs) (Dw K H1 L (xs.map g)) (dw_start hL) (fun i H' _ p => sq_of (p.2.1 a _ ha)) (fun i x H' hi p =>
      ⟨hw x, dw_turn (d := g x) p (by rw [List.getElem?_map, hi]; rfl) (by rw [List.length_map]; omega) (he x (List.mem_of_getElem? hi) H' ((e.trans e1).trans p.2.1))⟩)
    (fun H' p => dw_end e1 (by rw [List.length_map]; exact p) q)⟩
end
/-- a def that tells a new list of data -/
def RetM (K : PySem.W.Frag) (ds : List PyData) (H : Hp) (Q : VK) : Prop := ∀ p xs H2, Ex H H2 → H p = none → H2 p = some (.lst xs) → DpAll K (New H H2) xs ds → Q (.ref p) H2
def SpM (K : PySem.W.Frag) (sp : Sp) (vs : List V) (H : Hp) (ds : List PyData) : Prop := ∀ H1, Ex H H1 → ∀ Q : VK, RetM K ds H1 Q → ∀ E : XK, sp vs H1 Q E
section
variable {K : PySem.W.Frag} {σ : L2.St} {H : Hp} {te : TE} {ds : List PyData} {D : Ends}
theorem em_call {sp : Sp} {dvs vs : List V} {E : XK} {ta : TA} (h : EvA ta σ H vs) (hs : SpM K sp (vs ++ dvs) H ds) : EvM K (tCall sp dvs E ta) σ H ds := fun H1 e Q q =>
  h H1 e _ fun H2 e2 => hs H2 (e.trans e2) Q (fun p xs H3 e3 np hp hall => q p xs H3 (e2.trans e3) (fresh_back e2 np) hp (DpAll.ex (new_mono e2 (Ex.refl H3)) hall)) E
theorem em_callL {sp : Sp} {dvs vs ys : List V} {E : XK} {tr : TA} (h : EvL te σ H ys) (hr : EvA tr σ H vs) (hs : ∀ p H1, Ex H H1 → H1 p = some (.lst ys) → SpM K sp ((.ref p :: vs) ++ dvs) H1 ds) : EvM K (tCall sp dvs E (tCons te tr)) σ H ds := fun H1 e Q q =>
  h H1 e _ fun p H2 np e2 hp => hr H2 (e.trans e2) _ fun H3 e3 => hs p H3 ((e.trans e2).trans e3) (e3 p _ hp) H3 (Ex.refl H3) Q (fun u xs H4 e4 nu hu hall => q u xs H4 ((e2.trans e3).trans e4) (fresh_back (e2.trans e3) nu) hu (DpAll.ex (new_mono (e2.trans e3) (Ex.refl H4)) hall)) E
theorem s_retM (h : EvM K te σ H ds) (k : RetM K ds H D.rt) : tRet te D σ H := h H (Ex.refl H) _ k
theorem RetM.back {H0 : Hp} {Q : VK} (k : RetM K ds H0 Q) (e : Ex H0 H) : RetM K ds H Q := fun p xs H2 e2 np hp hall => k p xs H2 (e.trans e2) (fresh_back e np) hp (DpAll.ex (new_mono e (Ex.refl H2)) hall)
end
end Rt
namespace Rt
open PySem PySem.Spec PyProof.Rows L2 Evl
/-- a test of numbers as one of values -/
def vB (f : Nat → Bool) : V → Bool
  | .int i => f i.toNat
  | _ => false
theorem filt_of (f : Nat → Bool) : ∀ l : List Nat, (vNs l).filter (vB f) = vNs (l.filter f)
  | [] => rfl
  | n :: r => by
    have ih := filt_of f r
    show (vN n :: vNs r).filter _ = _
    rw [List.filter_cons, List.filter_cons, ih, show vB f (vN n) = f n from rfl]
    split <;> rfl
theorem scal_opts (o o' : Option Nat) : scal (optV o) (optV o') = true := by
  cases o <;> cases o' <;> rfl
section
variable {K : PySem.W.Frag} {σ : L2.St} {H : Hp} {ta tb te tl : TE} {x z v : V} {D : Ends} {tz : TS}
theorem dpAll_mem : ∀ {vs : List V} {ds : List PyData}, DpAll K H vs ds → ∀ x ∈ vs, ∃ d ∈ ds, Dp K H x d
  | _, _, .nil => fun x hx => by cases hx
  | _, _, .cons h r => fun x hx => by
    rcases List.mem_cons.mp hx with e | e
    · exact ⟨_, List.mem_cons_self, by rw [e]; exact h⟩
    · obtain ⟨d, h1, h2⟩ := dpAll_mem r x e
      exact ⟨d, List.mem_cons_of_mem _ h1, h2⟩
theorem dp_tup {ds : List PyData} (h : Dp K H v (.tuple ds)) : ∃ a xs, v = .ref a ∧ SqT K H a xs := by
  cases h with
  | tup hq _ => exact ⟨_, _, rfl, hq⟩
/-- a, b = (data, [..]) by a pair -/
theorem q_asgML {i j : Nat} {ds : List PyData} {ys : List V} (h : EvM K ta σ H ds) (h2 : EvL tb σ H ys)
    (k : ∀ p t Hm H1, Ex H Hm → Ex Hm H1 → Dp K (New H Hm) (.ref p) (.list ds) → Hm t = none → H1 t = some (.lst ys) → tz D ((σ.set i (some (.ref p))).set j (some (.ref t))) H1) :
    tSeq (tAsg (tTup (tCons ta (tCons tb tNil))) (gTup K 2 (gCons (gName i) (gCons (gName j) gNil)))) tz D σ H :=
  h H (Ex.refl H) _ fun p xs Hm em np hp hall => h2 Hm em _ fun t H2 nt e2 ht => ⟨by show 2 ≤ sizeLine; decide, fun c nc =>
    ⟨c, [.ref p, .ref t], rfl, st_of upd_same, rfl, .ref p, [.ref t], rfl, .ref t, [], rfl, rfl, k p t Hm _ em (e2.trans (Ex.new nc)) (.lst (sq_of (by rw [new_at np]; exact hp)) hall) nt (Ex.new nc t _ ht)⟩⟩
/-- [e for x in (a, b, ..)] -/
theorem el_mapU {xs : List V} {j : Nat} {vs : List Nat} (g : V → V) (h : EvU tl σ H xs) (hz : xs.length ≤ 40000)
    (he : ∀ x ∈ xs, ∀ H1, Ex H H1 → Ev te ((wipe σ vs).set j (some x)) H1 (g x)) (hw : ∀ x, wipe ((wipe σ vs).set j (some x)) vs = wipe σ vs := by intro _; rfl) :
    EvL (tLc (iTup K tl) (gName j) tYes te vs) σ H (xs.map g) := fun H0 e Q q =>
  h H0 e _ fun a H1 na e1 ha => ⟨a, rfl, ⟨xs, st_of ha⟩, fun L hL => lc_tup (xs := xs) (Cw H1 (fun _ => true) (fun i => g (xs.getD i .non)) L) ⟨hL, Ex.new hL, upd_same⟩ (fun i H' _ p => st_of (p.2.1 a _ ha)) (fun i x H' hi p =>
      ⟨hw x, cw_turn p (by have := (List.getElem?_eq_some_iff.mp hi).1; omega) et_yes fun _ => by
        show Ev te _ H1 (g (xs.getD i .non))
        rw [getD_of hi]
        exact he x (List.mem_of_getElem? hi) H1 (e.trans e1)⟩)
    (fun H' p => by
      have h3 := p.2.2
      have e3 := given_of xs (fun _ => true) g
      rw [List.filter_eq_self.mpr fun _ _ => rfl] at e3
      rw [e3] at h3
      exact q L H' (fresh_back e1 p.1) (e1.trans p.2.1) h3)⟩
theorem en_mono {d : PyData} {H' : Hp} (e : Ex H H') (h : EvN K te σ H d) : EvN K te σ H' d := h.mono e
end
end Rt

/-! Where the ways from the first places end, and which place is on all of them: plain Lean. -/
namespace Rt
open PySem L2
def lastsL (row : List Nat) (many : Nat) : List Nat := (List.range many).map (lastOf row)
def riseL (l : List Nat) : List Nat := (List.range 60).filter fun n => decide (n ∈ l)
theorem rise_rise (l : List Nat) : (riseL l).Pairwise (· < ·) := List.pairwise_lt_range.filter _
theorem rise_mem {l : List Nat} (h : ∀ n ∈ l, n < 60) (n : Nat) : n ∈ l ↔ n ∈ riseL l := by
  unfold riseL
  rw [List.mem_filter, decide_eq_true_iff, List.mem_range]
  exact ⟨fun z => ⟨h n z, z⟩, fun z => z.2⟩
theorem rise_len (l : List Nat) : (riseL l).length ≤ 60 := by
  have := List.length_filter_le (fun n => decide (n ∈ l)) (List.range 60)
  rw [List.length_range] at this
  exact this
def endP (l : List Nat) (n : Nat) : PyData := .tuple [.int (n : Int), .int (l.count n : Int)]
def endD (l : List Nat) : List PyData := (riseL l).map (endP l)
theorem lasts_lt {row : List Nat} {many : Nat} (h : many ≤ row.length) : ∀ n ∈ lastsL row many, n < row.length := by
  intro n hn
  obtain ⟨p, hp, rfl⟩ := List.mem_map.mp hn
  exact lastOf_lt (Nat.lt_of_lt_of_le (List.mem_range.mp hp) h)
theorem lasts_len (row : List Nat) (many : Nat) : (lastsL row many).length = many := by
  unfold lastsL
  rw [List.length_map, List.length_range]
theorem lasts_take {row : List Nat} {many i : Nat} (h : i < many) : (lastsL row many).take (i + 1) = (lastsL row many).take i ++ [lastOf row i] := by
  rw [List.take_add_one]
  unfold lastsL
  rw [List.getElem?_map, List.getElem?_range h]
  rfl
/-- a dict that tells how often each stands in l -/
structure Tal (l : List Nat) (kvs : List (Key × V)) : Prop where
  keys : ∃ ks : List Nat, kvs.map (·.1) = ks.map (fun n : Nat => (Sum.inl (n : Int) : Key)) ∧ ks.Nodup ∧ (∀ n, n ∈ ks ↔ n ∈ l)
  vals : ∀ n : Nat, valV kvs (Sum.inl (n : Int)) = if n ∈ l then some (vN (l.count n)) else none
theorem Tal.nil : Tal [] [] := ⟨⟨[], rfl, List.nodup_nil, fun n => Iff.rfl⟩, fun n => by simp [valV]⟩
theorem putK_old {kvs : List (Key × V)} {k : Key} (v : V) (h : (valV kvs k).isSome = true) : (putK kvs k v).map (·.1) = kvs.map (·.1) := by
  unfold putK
  rw [valV_any, if_pos h, List.map_map]
  refine List.map_congr_left fun p _ => ?_
  show (if p.1 = k then (p.1, v) else p).1 = p.1
  split <;> rfl
theorem key_inj {n m : Nat} : (Sum.inl (n : Int) : Key) = Sum.inl (m : Int) ↔ n = m := by
  constructor
  · intro h
    have := Sum.inl.inj h
    omega
  · intro h
    rw [h]
theorem Tal.put {l : List Nat} {kvs : List (Key × V)} (t : Tal l kvs) (x : Nat) : Tal (l ++ [x]) (putK kvs (Sum.inl (x : Int)) (vN (l.count x + 1))) := by
  obtain ⟨ks, h1, h2, h3⟩ := t.keys
  have hx := t.vals x
  constructor
  · by_cases hm : x ∈ l
    · rw [if_pos hm] at hx
      refine ⟨ks, ?_, h2, fun n => ?_⟩
      · rw [putK_old _ (by rw [hx]; rfl), h1]
      · rw [h3 n, List.mem_append, List.mem_singleton]
        exact ⟨fun z => .inl z, fun z => z.elim id fun z => by rw [z]; exact hm⟩
    · rw [if_neg hm] at hx
      refine ⟨ks ++ [x], ?_, nd_snoc h2 (fun z => hm ((h3 x).mp z)), fun n => ?_⟩
      · rw [putK_new _ hx, List.map_append, List.map_append, h1]
        rfl
      · rw [List.mem_append, List.mem_append, h3 n]
  · intro n
    rw [valV_put, List.count_append]
    by_cases hn : n = x
    · subst hn
      rw [if_pos rfl, if_pos (List.mem_append.mpr (.inr (List.mem_singleton.mpr rfl)))]
      simp
    · rw [if_neg (fun z => hn (key_inj.mp z)), t.vals n]
      have h0 : [x].count n = 0 := List.count_eq_zero.mpr (by simpa using hn)
      rw [h0, Nat.add_zero]
      by_cases hm : n ∈ l
      · rw [if_pos hm, if_pos (List.mem_append.mpr (.inl hm))]
      · rw [if_neg hm, if_neg (by rw [List.mem_append, List.mem_singleton]; exact fun z => z.elim hm hn)]
theorem nodup_len : ∀ (n : Nat) (ks : List Nat), ks.Nodup → (∀ k ∈ ks, k < n) → ks.length ≤ n
  | 0, ks, _, h => by
    cases ks with
    | nil => exact Nat.le_refl _
    | cons k r => exact absurd (h k List.mem_cons_self) (Nat.not_lt_zero k)
  | n + 1, ks, hn, h => by
    have ih := nodup_len n (ks.erase n) (hn.erase n) fun k hk => by
      obtain ⟨h1, h2⟩ := (hn.mem_erase_iff).mp hk
      have := h k h2
      omega
    by_cases hm : n ∈ ks
    · rw [List.length_erase_of_mem hm] at ih
      omega
    · rw [List.erase_of_not_mem hm] at ih
      omega
theorem Tal.len {l : List Nat} {kvs : List (Key × V)} (t : Tal l kvs) (h : ∀ n ∈ l, n < 60) : kvs.length ≤ 60 := by
  obtain ⟨ks, h1, h2, h3⟩ := t.keys
  have e : kvs.length = ks.length := by
    have := congrArg List.length h1
    rw [List.length_map, List.length_map] at this
    exact this
  have hs := nodup_len 60 ks h2 fun n hn => h n ((h3 n).mp hn)
  omega
/-! the first place on all ways -/
def runL (row : List Nat) (k : Nat) : List Nat := (way row 0).filter fun p => (List.range k).all fun q => decide (p ∈ way row q)
theorem runL_one (row : List Nat) : runL row 1 = way row 0 := by
  unfold runL
  refine List.filter_eq_self.mpr fun p hp => ?_
  show (decide (p ∈ way row 0) && true) = true
  rw [decide_eq_true hp]
  rfl
theorem runL_succ (row : List Nat) (k : Nat) : runL row (k + 1) = (runL row k).filter fun p => decide (p ∈ way row k) := by
  unfold runL
  rw [List.filter_filter]
  refine List.filter_congr fun p _ => ?_
  rw [List.range_succ, List.all_append]
  simp [Bool.and_comm]
def runBy (row : List Nat) (many : Nat) : Option Nat := (runL row many).head?
end Rt
namespace Rt
open PySem L2
/-- a list of pairs of small numbers, as data -/
theorem good_pairs : ∀ ds : List PyData, (∀ d ∈ ds, ∃ a b : Nat, a < 10 ^ 6 ∧ b < 10 ^ 6 ∧ d = .tuple [.int (a : Int), .int (b : Int)]) → PyData.canLayAll0 ds = true ∧ PyData.depthAll ds ≤ 1 ∧ PyData.showableAll ds = true ∧ PyData.leavesShortAll 13 ds = true ∧ PyData.weightAll ds ≤ 43 * ds.length
  | [], _ => ⟨rfl, Nat.zero_le _, rfl, rfl, Nat.le_refl _⟩
  | d :: r, h => by
    obtain ⟨h1, h2, h3, h4, h5⟩ := good_pairs r fun m hm => h m (List.mem_cons_of_mem _ hm)
    obtain ⟨a, b, ha, hb, rfl⟩ := h d List.mem_cons_self
    obtain ⟨g1, g2, g3, g4, g5⟩ := good_all [a, b] (by
      intro n hn
      rcases List.mem_cons.mp hn with e | e
      · rw [e]
        exact ha
      · rw [List.mem_singleton.mp e]
        exact hb)
    have e : ([a, b].map fun n : Nat => PyData.int (n : Int)) = [.int (a : Int), .int (b : Int)] := rfl
    rw [e] at g1 g2 g3 g4 g5
    refine ⟨?_, ?_, ?_, ?_, ?_⟩
    · rw [PyData.canLayAll0, h1, PyData.canLay0, g1]
      rfl
    · rw [PyData.depthAll, PyData.depth, g2]
      omega
    · rw [PyData.showableAll, h3, PyData.showable, g3]
      rfl
    · rw [PyData.leavesShortAll, h4, PyData.leavesShort, g4]
      rfl
    · rw [PyData.weightAll, PyData.weight, List.length_cons]
      have : [a, b].length = 2 := rfl
      rw [this] at g5
      omega
theorem good_of_pairs {ds : List PyData} (h : ∀ d ∈ ds, ∃ a b : Nat, a < 10 ^ 6 ∧ b < 10 ^ 6 ∧ d = .tuple [.int (a : Int), .int (b : Int)]) (hl : ds.length ≤ 10000) : Good (.list ds) := by
  obtain ⟨h1, h2, h3, h4, h5⟩ := good_pairs ds h
  refine ⟨h1, ?_, h3, h4, ?_⟩
  · rw [PyData.depth]
    omega
  · rw [PyData.weight]
    omega
theorem good_end {row : List Nat} {many : Nat} (h : many ≤ row.length) (h60 : row.length ≤ 60) : Good (.list (endD (lastsL row many))) := by
  refine good_of_pairs (fun d hd => ?_) ?_
  · obtain ⟨n, hn, rfl⟩ := List.mem_map.mp hd
    have hn2 : n < 60 := List.mem_range.mp (List.mem_filter.mp hn).1
    have hc : (lastsL row many).count n ≤ many := by
      have := List.count_le_length (a := n) (l := lastsL row many)
      rw [lasts_len] at this
      exact this
    exact ⟨n, (lastsL row many).count n, by omega, by omega, rfl⟩
  · unfold endD
    rw [List.length_map]
    have := rise_len (lastsL row many)
    omega
end Rt

/-! The table of states, by distances: plain Lean. -/
namespace Rt
abbrev Tab := Nat → Nat → Nat
def addT (t : Tab) (q l v : Nat) : Tab := fun q2 l2 => if q2 = q ∧ l2 = l then t q2 l2 + v else t q2 l2
def gap (a k : Nat) : Nat := (a - k) + (k - a)
def cardS (c m p a w : Nat) (t : Tab) (k : Nat) : Tab := if 0 < a ∧ (p + min k a) + gap a k < m then addT t (p + min k a) (gap a k) (w * c ^ (min k a - 1)) else t
def cardsS (c m p a w : Nat) (t : Tab) (n : Nat) : Tab := (List.range n).foldl (fun t i => cardS c m p a w t (i + 1)) t
def aheadS (c m p : Nat) (t : Tab) (a : Nat) : Tab := cardsS c m p a (t p a) t c
def placeS (c m : Nat) (t : Tab) (p : Nat) : Tab := (List.range m).foldl (aheadS c m p) t
def initT (far : Nat) : Tab := fun q l => if q = 0 ∧ l = far then 1 else 0
def tabS (c m far n : Nat) : Tab := (List.range n).foldl (placeS c m) (initT far)
def meetL (c m far : Nat) : List Nat := (List.range m).map fun q => tabS c m far m q 0 * c ^ (m - q)
theorem cardsS_succ (c m p a w : Nat) (t : Tab) (n : Nat) : cardsS c m p a w t (n + 1) = cardS c m p a w (cardsS c m p a w t n) (n + 1) := by
  unfold cardsS
  rw [List.range_succ, List.foldl_append]
  rfl
theorem tabS_succ (c m far n : Nat) : tabS c m far (n + 1) = placeS c m (tabS c m far n) n := by
  unfold tabS
  rw [List.range_succ, List.foldl_append]
  rfl
theorem addT_zero (t : Tab) (q l : Nat) : addT t q l 0 = t := by
  funext q2 l2
  unfold addT
  split <;> rfl
theorem cardS_zero (c m p a : Nat) (t : Tab) (k : Nat) : cardS c m p a 0 t k = t := by
  unfold cardS
  split
  · rw [Nat.zero_mul, addT_zero]
  · rfl
theorem cardsS_zero (c m p a : Nat) (t : Tab) : ∀ n, cardsS c m p a 0 t n = t
  | 0 => rfl
  | n + 1 => by rw [cardsS_succ, cardsS_zero c m p a t n, cardS_zero]
/-- what stands at the place itself or before is not changed -/
theorem cardS_old {c m p a w : Nat} {t : Tab} {k q l : Nat} (hk : 1 ≤ k) (hq : q ≤ p) : cardS c m p a w t k q l = t q l := by
  unfold cardS
  split
  · rename_i h
    unfold addT
    rw [if_neg (by omega)]
  · rfl
theorem cardsS_old {c m p a w : Nat} {t : Tab} {q l : Nat} (hq : q ≤ p) : ∀ n, cardsS c m p a w t n q l = t q l
  | 0 => rfl
  | n + 1 => by rw [cardsS_succ, cardS_old (by omega) hq, cardsS_old hq n]
theorem aheadS_old {c m p : Nat} {t : Tab} {a q l : Nat} (hq : q ≤ p) : aheadS c m p t a q l = t q l := cardsS_old hq c
theorem aheadF_old {c m p : Nat} {q l : Nat} (hq : q ≤ p) : ∀ (as : List Nat) (t : Tab), as.foldl (aheadS c m p) t q l = t q l
  | [], _ => rfl
  | a :: r, t => by rw [List.foldl_cons, aheadF_old hq r, aheadS_old hq]
theorem aheadS_zero {c m p : Nat} {t : Tab} {a : Nat} (h : t p a = 0) : aheadS c m p t a = t := by
  unfold aheadS
  rw [h, cardsS_zero]
/-- going by those distances alone at which something stands -/
theorem aheadF_keys {c m p : Nat} (f : Nat → Bool) : ∀ (as : List Nat) (t : Tab), (∀ a, f a = false → t p a = 0) → (as.filter f).foldl (aheadS c m p) t = as.foldl (aheadS c m p) t
  | [], _, _ => rfl
  | a :: r, t, h => by
    have h2 : ∀ b, f b = false → aheadS c m p t a p b = 0 := fun b hb => by
      rw [aheadS_old (Nat.le_refl p)]
      exact h b hb
    rw [List.filter_cons]
    cases hf : f a with
    | true =>
      show (a :: r.filter f).foldl _ t = _
      rw [List.foldl_cons, List.foldl_cons, aheadF_keys f r _ h2]
    | false =>
      show (r.filter f).foldl _ t = _
      rw [aheadF_keys f r t h, List.foldl_cons, aheadS_zero (h a hf)]
theorem foldl_take {α β : Type} (f : β → α → β) (t : β) {l : List α} {i : Nat} {x : α} (h : l[i]? = some x) : (l.take (i + 1)).foldl f t = f ((l.take i).foldl f t) x := by
  rw [List.take_add_one, h, List.foldl_append]
  rfl
/-! bounds, crude ones -/
def Bd (t : Tab) (n : Nat) : Prop := ∀ q l, t q l < 2 ^ (90 * n + 1)
theorem Bd.mono {t : Tab} {n n2 : Nat} (h : Bd t n) (hn : n ≤ n2) : Bd t n2 := fun q l => Nat.lt_of_lt_of_le (h q l) (Nat.pow_le_pow_right (by decide) (by omega))
theorem pow_bd {c k : Nat} (hc : c ≤ 20) (hk : k ≤ 19) : c ^ k < 2 ^ 83 := by
  have h1 : c ^ k ≤ 20 ^ k := Nat.pow_le_pow_left hc k
  have h2 : 20 ^ k ≤ 20 ^ 19 := Nat.pow_le_pow_right (by decide) hk
  have h3 : (20 : Nat) ^ 19 < 2 ^ 83 := by decide
  omega
theorem Bd.card {t : Tab} {c m p a w k n : Nat} (h : Bd t n) (hw : w < 2 ^ (90 * n + 1)) (hc : c ≤ 20) (hk : k ≤ 20) : Bd (cardS c m p a w t k) (n + 1) := by
  intro q l
  unfold cardS
  have up : 2 ^ (90 * n + 1) ≤ 2 ^ (90 * (n + 1) + 1) := Nat.pow_le_pow_right (by decide) (by omega)
  split
  · unfold addT
    split
    · have h1 := h q l
      have h2 : w * c ^ (min k a - 1) < 2 ^ (90 * n + 1) * 2 ^ 83 := Nat.mul_lt_mul'' hw (pow_bd hc (by omega))
      have e : 2 ^ (90 * (n + 1) + 1) = 2 ^ (90 * n + 1) * 2 ^ 90 := by rw [← Nat.pow_add, show 90 * (n + 1) + 1 = 90 * n + 1 + 90 by omega]
      have h3 : 2 ^ (90 * n + 1) * (1 + 2 ^ 83) ≤ 2 ^ (90 * n + 1) * 2 ^ 90 := Nat.mul_le_mul_left _ (by decide)
      rw [Nat.mul_add, Nat.mul_one] at h3
      rw [e]
      exact Nat.lt_of_lt_of_le (Nat.add_lt_add h1 h2) h3
    · exact Nat.lt_of_lt_of_le (h q l) up
  · exact Nat.lt_of_lt_of_le (h q l) up
theorem Bd.init (far : Nat) : Bd (initT far) 0 := by
  intro q l
  unfold initT
  split <;> decide
end Rt

/-! A list of dicts, each a row of a table. -/
namespace Rt
open PySem PySem.Spec PyProof.Rows L2 Evl
/-- the dict tells g; where it has no key g is 0 -/
structure Rep (g : Nat → Nat) (kvs : List (Key × V)) (ks : List Nat) (m : Nat) : Prop where
  keys : kvs.map (·.1) = ks.map (fun n : Nat => (Sum.inl (n : Int) : Key))
  nd : ks.Nodup
  lt : ∀ n ∈ ks, n < m
  vals : ∀ n : Nat, valV kvs (Sum.inl (n : Int)) = if n ∈ ks then some (vN (g n)) else none
  zero : ∀ n, n ∉ ks → g n = 0
theorem Rep.nil (m : Nat) : Rep (fun _ => 0) [] [] m := ⟨rfl, List.nodup_nil, (fun n h => by cases h), (fun n => by simp [valV]), fun _ _ => rfl⟩
theorem Rep.get {g : Nat → Nat} {kvs : List (Key × V)} {ks : List Nat} {m : Nat} (r : Rep g kvs ks m) (n : Nat) : (valV kvs (Sum.inl (n : Int))).getD (.int 0) = vN (g n) := by
  rw [r.vals]
  split
  · rfl
  · rename_i h
    rw [r.zero n h]
    rfl
theorem Rep.len {g : Nat → Nat} {kvs : List (Key × V)} {ks : List Nat} {m : Nat} (r : Rep g kvs ks m) : kvs.length ≤ m := by
  have e := congrArg List.length r.keys
  rw [List.length_map, List.length_map] at e
  have := nodup_len m ks r.nd r.lt
  omega
theorem Rep.put {g : Nat → Nat} {kvs : List (Key × V)} {ks : List Nat} {m l v : Nat} (r : Rep g kvs ks m) (hl : l < m) : ∃ ks2, Rep (fun n => if n = l then g n + v else g n) (putK kvs (Sum.inl (l : Int)) (vN (g l + v))) ks2 m := by
  have hx := r.vals l
  by_cases hm : l ∈ ks
  · rw [if_pos hm] at hx
    refine ⟨ks, ?_, r.nd, r.lt, fun n => ?_, fun n hn => ?_⟩
    · rw [putK_old _ (by rw [hx]; rfl), r.keys]
    · rw [valV_put]
      by_cases e : n = l
      · subst e
        rw [if_pos rfl, if_pos hm, if_pos rfl]
      · rw [if_neg (fun z => e (key_inj.mp z)), r.vals n, if_neg e]
    · have e : ¬ n = l := fun z => hn (by rw [z]; exact hm)
      rw [if_neg e]
      exact r.zero n hn
  · rw [if_neg hm] at hx
    refine ⟨ks ++ [l], ?_, nd_snoc r.nd hm, fun n hn => ?_, fun n => ?_, fun n hn => ?_⟩
    · rw [putK_new _ hx, List.map_append, List.map_append, r.keys]
      rfl
    · rcases List.mem_append.mp hn with h | h
      · exact r.lt n h
      · rw [List.mem_singleton.mp h]
        exact hl
    · rw [valV_put]
      by_cases e : n = l
      · subst e
        rw [if_pos rfl, if_pos rfl, if_pos (List.mem_append.mpr (.inr (List.mem_singleton.mpr rfl)))]
      · rw [if_neg (fun z => e (key_inj.mp z)), r.vals n, if_neg e]
        by_cases h2 : n ∈ ks
        · rw [if_pos h2, if_pos (List.mem_append.mpr (.inl h2))]
        · rw [if_neg h2, if_neg (by rw [List.mem_append, List.mem_singleton]; exact fun z => z.elim h2 e)]
    · have h1 : n ∉ ks := fun z => hn (List.mem_append.mpr (.inl z))
      have e : ¬ n = l := fun z => hn (List.mem_append.mpr (.inr (List.mem_singleton.mpr z)))
      rw [if_neg e]
      exact r.zero n h1
/-- the list at f: its dicts at fs, new beside H0, tell the table t -/
structure DictsAt (H0 H : Hp) (f : Addr) (fs : List Addr) (t : Tab) (m : Nat) : Prop where
  ex : Ex H0 H
  lst : H f = some (.lst (fs.map V.ref))
  len : fs.length = m
  nd : fs.Nodup
  nf : f ∉ fs
  new : ∀ a ∈ fs, H0 a = none
  newf : H0 f = none
  tab : ∀ p a, fs[p]? = some a → ∃ kvs ks, H a = some (.dK kvs) ∧ Rep (t p) kvs ks m
theorem DictsAt.go {H0 H H1 : Hp} {f : Addr} {fs : List Addr} {t : Tab} {m : Nat} (d : DictsAt H0 H f fs t m) (e : Ex H H1) : DictsAt H0 H1 f fs t m :=
  ⟨d.ex.trans e, e f _ d.lst, d.len, d.nd, d.nf, d.new, d.newf, fun p a h => (d.tab p a h).elim fun kvs z => z.elim fun ks y => ⟨kvs, ks, e a _ y.1, y.2⟩⟩
theorem DictsAt.at {H0 H : Hp} {f : Addr} {fs : List Addr} {t : Tab} {m p : Nat} (d : DictsAt H0 H f fs t m) (hp : p < m) : ∃ a, fs[p]? = some a ∧ a ∈ fs := by
  have h : p < fs.length := by
    rw [d.len]
    exact hp
  exact ⟨fs[p], List.getElem?_eq_getElem h, List.getElem_mem h⟩
theorem DictsAt.put {H0 H : Hp} {f : Addr} {fs : List Addr} {t : Tab} {m q l v : Nat} {a : Addr} {kvs : List (Key × V)} {ks : List Nat} (d : DictsAt H0 H f fs t m) (ha : fs[q]? = some a) (hk : H a = some (.dK kvs)) (r : Rep (t q) kvs ks m) (hl : l < m) :
    DictsAt H0 (upd H a (.dK (putK kvs (Sum.inl (l : Int)) (vN (t q l + v))))) f fs (addT t q l v) m := by
  have ham : a ∈ fs := List.mem_of_getElem? ha
  refine ⟨Ex.mut d.ex (d.new a ham), ?_, d.len, d.nd, d.nf, d.new, d.newf, fun p b hb => ?_⟩
  · rw [upd_ne (fun z => d.nf (by rw [z]; exact ham))]
    exact d.lst
  · by_cases e : p = q
    · subst e
      have eb : b = a := Option.some.inj (hb.symm.trans ha)
      subst eb
      obtain ⟨ks2, r2⟩ := r.put (v := v) hl
      refine ⟨_, ks2, upd_same, ?_⟩
      have e2 : addT t p l v p = fun n => if n = l then t p n + v else t p n := by
        funext n
        unfold addT
        by_cases h : n = l
        · rw [if_pos ⟨rfl, h⟩, if_pos h]
        · rw [if_neg (fun z => h z.2), if_neg h]
      rw [e2]
      exact r2
    · have nb : b ≠ a := fun z => by
        subst z
        exact e (nd_ix d.nd hb ha)
      obtain ⟨kv, k2, h1, h2⟩ := d.tab p b hb
      refine ⟨kv, k2, by rw [upd_ne nb]; exact h1, ?_⟩
      have e2 : addT t q l v p = t p := by
        funext n
        unfold addT
        rw [if_neg (fun z => e z.1)]
      rw [e2]
      exact h2
section
variable {K : PySem.W.Frag} {σ : L2.St} {H : Hp} {ta tb td te ty : TE} {x v : V} {D : Ends} {tz : TS}
/-- found[p], a list of dicts -/
theorem ev_dict {H0 : Hp} {f : Addr} {fs : List Addr} {t : Tab} {m p : Nat} {a : Addr} (d : DictsAt H0 H f fs t m) (ha : fs[p]? = some a) (h1 : Ev ta σ H (.ref f)) (h2 : Ev tb σ H (vN p)) : Ev (tOp (rIxL K) ta tb) σ H (.ref a) :=
  ev_op h1 h2 (rv_ixL (sq_of d.lst) (atI_nat (by rw [List.getElem?_map, ha]; rfl)))
theorem q_dput {a : Addr} {kvs : List (Key × V)} {k : Key} (ha : H a = some (.dK kvs)) (hv : Ev te σ H v) (hd : Ev td σ H (.ref a)) (hk : Ev ty σ H (kV k)) (hl : kvs.length < 100000) (q : ∀ H1, Ex H H1 → tz D σ (upd H1 a (.dK (putK kvs k v)))) : tSeq (sDPut td ty te) tz D σ H := s_dput (D := { D with nx := tz D }) ha hv hd hk hl q
/-- found = [{} for p in range(n)] -/
theorem q_dicts {ta : TA} {i j n : Nat} {vs : List Nat} (h : EvA ta σ H [vN n]) (hn : n ≤ 40000) (k : ∀ f fs H1, DictsAt H H1 f fs (fun _ _ => 0) n → tz D (σ.set i (some (.ref f))) H1) (hw : ∀ x, wipe ((wipe σ vs).set j (some x)) vs = wipe σ vs := by intro _; rfl) :
    tSeq (tAsg (tLc (iRng1 ta) (gName j) tYes tDNewK vs) (gName i)) tz D σ H :=
  h H (Ex.refl H) _ fun H1 e1 => ⟨(n : Int), rfl, by omega, by omega, fun L hL =>
    lc_range (lo := 0) (n := (n : Int).toNat) (fun c H' => Ex H1 H' ∧ ∃ fs : List Addr, H' L = some (.lst (fs.map V.ref)) ∧ fs.length = c ∧ fs.Nodup ∧ L ∉ fs ∧ ∀ a ∈ fs, H1 a = none ∧ H' a = some (.dK []))
      ⟨Ex.new hL, [], upd_same, rfl, List.nodup_nil, (fun z => by cases z), (fun a z => by cases z)⟩
      (fun c H' hc ⟨x1, fs, x2, x3, x4, x5, x6⟩ => ⟨hw _, fun p hp => by
        have npL : p ≠ L := fun z => by
          rw [z, x2] at hp
          cases hp
        have npf : p ∉ fs := fun z => by
          rw [(x6 p z).2] at hp
          cases hp
        refine ⟨fs.map V.ref, by rw [upd_ne (Ne.symm npL)]; exact x2, sz_lt (by rw [List.length_map]; omega), Ex.mut (x1.trans (Ex.new hp)) hL, fs ++ [p], ?_, ?_, nd_snoc x4 npf, ?_, ?_⟩
        · rw [upd_same, List.map_append]
          rfl
        · rw [List.length_append, x3]
          rfl
        · rw [List.mem_append, List.mem_singleton]
          exact fun z => z.elim x5 fun z => npL z.symm
        · intro a ha
          rcases List.mem_append.mp ha with h1 | h1
          · have naL : a ≠ L := fun z => x5 (by rw [← z]; exact h1)
            have nap : a ≠ p := fun z => npf (by rw [← z]; exact h1)
            rw [upd_ne naL, upd_ne nap]
            exact x6 a h1
          · rw [List.mem_singleton.mp h1, upd_ne npL, upd_same]
            exact ⟨fresh_back x1 hp, rfl⟩⟩)
      (fun H' ⟨x1, fs, x2, x3, x4, x5, x6⟩ => k L fs H' ⟨e1.trans x1, x2, by rw [Int.toNat_natCast] at x3; exact x3, x4, x5, fun a ha => fresh_back e1 (x6 a ha).1, fresh_back e1 hL, fun p a ha => ⟨[], [], (x6 a (List.mem_of_getElem? ha)).2, Rep.nil n⟩⟩)⟩
def rAbs : List V → Hp → VK → Prop := fun xs H Q => ∃ i, xs = [.int i] ∧ Q (.int (if i < 0 then -i else i)) H
theorem ev_abs {i : Int} (h : Ev ta σ H (.int i)) : Ev (tCB rAbs (tCons ta tNil)) σ H (.int (if i < 0 then -i else i)) := fun H1 e Q q => h H1 e _ fun H2 e2 => ⟨i, rfl, q H2 e2⟩
theorem vNs_sum (l : List Nat) : (l.map fun n : Nat => (n : Int)).sum = ((l.sum : Nat) : Int) := by
  induction l with
  | nil => rfl
  | cons n r ih => rw [List.map_cons, List.sum_cons, List.sum_cons, ih, Int.natCast_add]
/-- sum(a new list) -/
theorem ev_sumN {l : List Nat} (h : EvL ta σ H (vNs l)) : Ev (tCB (rSum K) (tCons ta tNil)) σ H (vN l.sum) := fun H1 e Q q =>
  h H1 e _ fun p H2 np e2 hp => ⟨p, l.map fun n : Nat => (n : Int), rfl, sq_of (by rw [hp, List.map_map]; rfl), by
    rw [vNs_sum]
    exact q H2 e2⟩
theorem ev_sum {l : List Nat} {a : Addr} (h : Ev ta σ H (.ref a)) (ha : SqL K H a (vNs l)) : Ev (tCB (rSum K) (tCons ta tNil)) σ H (vN l.sum) := fun H1 e Q q =>
  h H1 e _ fun H2 e2 => ⟨a, l.map fun n : Nat => (n : Int), rfl, by rw [List.map_map]; exact ex_l (e.trans e2) ha, by
    rw [vNs_sum]
    exact q H2 e2⟩
end
/-- a def that tells a new tuple -/
def RetU (xs : List V) (H : Hp) (Q : VK) : Prop := ∀ p H2, H p = none → Ex H H2 → H2 p = some (.tup xs) → Q (.ref p) H2
def SpU (sp : Sp) (vs : List V) (H : Hp) (xs : List V) : Prop := ∀ H1, Ex H H1 → ∀ Q : VK, RetU xs H1 Q → ∀ E : XK, sp vs H1 Q E
theorem eu_call {σ : L2.St} {H : Hp} {sp : Sp} {dvs vs xs : List V} {E : XK} {ta : TA} (h : EvA ta σ H vs) (hs : SpU sp (vs ++ dvs) H xs) : EvU (tCall sp dvs E ta) σ H xs := fun H1 e Q q =>
  h H1 e _ fun H2 e2 => hs H2 (e.trans e2) Q (fun p H3 hp e3 h3 => q p H3 (fresh_back e2 hp) (e2.trans e3) h3) E
end Rt

/-! All rows counted, and the table of states against any weights that go back by the cards. Plain Lean. -/
namespace Rt
def sumN : Nat → (Nat → Nat) → Nat
  | 0, _ => 0
  | n + 1, f => sumN n f + f n
theorem sumN_congr {f g : Nat → Nat} : ∀ {n}, (∀ i, i < n → f i = g i) → sumN n f = sumN n g
  | 0, _ => rfl
  | n + 1, h => by
    show sumN n f + f n = sumN n g + g n
    rw [sumN_congr fun i hi => h i (by omega), h n (by omega)]
theorem sumN_zero : ∀ n, sumN n (fun _ => 0) = 0
  | 0 => rfl
  | n + 1 => by
    show sumN n _ + 0 = 0
    rw [sumN_zero n]
theorem sumN_nil {f : Nat → Nat} {n : Nat} (h : ∀ i, i < n → f i = 0) : sumN n f = 0 := (sumN_congr h).trans (sumN_zero n)
theorem sumN_add (f g : Nat → Nat) : ∀ n, sumN n (fun i => f i + g i) = sumN n f + sumN n g
  | 0 => rfl
  | n + 1 => by
    show sumN n _ + (f n + g n) = (sumN n f + f n) + (sumN n g + g n)
    rw [sumN_add f g n]
    omega
theorem sumN_mul (v : Nat) (f : Nat → Nat) : ∀ n, sumN n (fun i => v * f i) = v * sumN n f
  | 0 => rfl
  | n + 1 => by
    show sumN n _ + _ = v * (sumN n f + f n)
    rw [sumN_mul v f n, Nat.mul_add]
/-- one place of a sum -/
theorem sumN_one {f g : Nat → Nat} {j v : Nat} : ∀ {n}, j < n → f j = g j + v → (∀ i, i < n → i ≠ j → f i = g i) → sumN n f = sumN n g + v
  | 0, h, _, _ => by omega
  | n + 1, h, h1, h2 => by
    show sumN n f + f n = sumN n g + g n + v
    by_cases e : j = n
    · subst e
      rw [sumN_congr fun i hi => h2 i (by omega) (by omega), h1]
      omega
    · rw [sumN_one (n := n) (by omega) h1 fun i hi hn => h2 i (by omega) hn, h2 n (by omega) (by omega)]
      omega
theorem sumN_range (f : Nat → Nat) : ∀ n, ((List.range n).map f).sum = sumN n f
  | 0 => rfl
  | n + 1 => by
    rw [List.range_succ, List.map_append, List.sum_append, sumN_range f n]
    show _ + (f n + 0) = _ + f n
    rfl
def pairT (m : Nat) (t W : Tab) : Nat := sumN m fun q => sumN m fun l => t q l * W q l
theorem pair_put {m : Nat} {t t2 W W2 : Tab} {q l v : Nat} (hq : q < m) (hl : l < m) (h : t2 q l * W2 q l = t q l * W q l + v) (hn : ∀ q2 l2, ¬ (q2 = q ∧ l2 = l) → t2 q2 l2 * W2 q2 l2 = t q2 l2 * W q2 l2) : pairT m t2 W2 = pairT m t W + v := by
  unfold pairT
  refine sumN_one hq (sumN_one hl h fun i hi hne => hn q i fun z => hne z.2) fun i hi hne => ?_
  exact sumN_congr fun j hj => hn i j fun z => hne z.1
theorem pair_addT {m : Nat} {t W : Tab} {q l v : Nat} (hq : q < m) (hl : l < m) : pairT m (addT t q l v) W = pairT m t W + v * W q l := by
  refine pair_put hq hl ?_ fun q2 l2 hn => ?_
  · unfold addT
    rw [if_pos ⟨rfl, rfl⟩, Nat.add_mul]
  · unfold addT
    rw [if_neg hn]
/-- what a card from a state with weight one brings -/
def goW (c m p a : Nat) (W : Tab) (k : Nat) : Nat := if 0 < a ∧ (p + min k a) + gap a k < m then c ^ (min k a - 1) * W (p + min k a) (gap a k) else 0
theorem pair_card {c m p a w : Nat} {t W : Tab} {k : Nat} : pairT m (cardS c m p a w t k) W = pairT m t W + w * goW c m p a W k := by
  unfold cardS goW
  split
  · rename_i h
    rw [pair_addT (by omega) (by omega), Nat.mul_assoc]
  · rw [Nat.mul_zero, Nat.add_zero]
theorem pair_cards {c m p a w : Nat} {t W : Tab} : ∀ n, pairT m (cardsS c m p a w t n) W = pairT m t W + w * sumN n fun i => goW c m p a W (i + 1)
  | 0 => by
    show pairT m t W = pairT m t W + w * 0
    rw [Nat.mul_zero, Nat.add_zero]
  | n + 1 => by
    rw [cardsS_succ, pair_card, pair_cards n]
    show _ = _ + w * (sumN n _ + _)
    rw [Nat.mul_add, Nat.add_assoc]
/-- weights that go back by the cards -/
def Back (c m : Nat) (W : Tab) : Prop := ∀ p a, p < m → 0 < a → a < m → W p a = sumN c fun i => goW c m p a W (i + 1)
def doneW (p a : Nat) (W : Tab) : Tab := fun q l => if 0 < l ∧ (q < p ∨ (q = p ∧ l < a)) then 0 else W q l
theorem pair_ahead {c m p a : Nat} {t W : Tab} (hb : Back c m W) (hp : p < m) (ha : a < m) : pairT m (aheadS c m p t a) (doneW p (a + 1) W) = pairT m t (doneW p a W) := by
  unfold aheadS
  rw [pair_cards]
  by_cases h0 : 0 < a
  · have e : (sumN c fun i => goW c m p a (doneW p (a + 1) W) (i + 1)) = W p a := by
      rw [hb p a hp h0 ha]
      refine sumN_congr fun i hi => ?_
      unfold goW
      split
      · rename_i h
        unfold doneW
        rw [if_neg (by omega)]
      · rfl
    rw [e]
    refine (pair_put hp ha ?_ fun q2 l2 hn => ?_).symm
    · unfold doneW
      rw [if_neg (by omega), if_pos (by omega), Nat.mul_zero, Nat.zero_add]
    · congr 1
      unfold doneW
      by_cases h : 0 < l2 ∧ (q2 < p ∨ q2 = p ∧ l2 < a)
      · rw [if_pos h, if_pos (by omega)]
      · rw [if_neg h, if_neg (by omega)]
  · have ea : a = 0 := by omega
    subst ea
    have e : (sumN c fun i => goW c m p 0 (doneW p (0 + 1) W) (i + 1)) = 0 := by
      refine sumN_nil fun i hi => ?_
      unfold goW
      rw [if_neg (by omega)]
    rw [e, Nat.mul_zero, Nat.add_zero]
    congr 1
    funext q l
    unfold doneW
    by_cases h : 0 < l ∧ (q < p ∨ q = p ∧ l < 0)
    · rw [if_pos h, if_pos (by omega)]
    · rw [if_neg h, if_neg (by omega)]
theorem pair_aheads {c m p : Nat} {t W : Tab} (hb : Back c m W) (hp : p < m) : ∀ n, n ≤ m → pairT m ((List.range n).foldl (aheadS c m p) t) (doneW p n W) = pairT m t (doneW p 0 W)
  | 0, _ => rfl
  | n + 1, h => by
    rw [List.range_succ, List.foldl_append]
    show pairT m (aheadS c m p _ n) _ = _
    rw [pair_ahead hb hp (by omega), pair_aheads hb hp n (by omega)]
theorem pair_cong {m : Nat} {t W W2 : Tab} (h : ∀ q l, q < m → l < m → W q l = W2 q l) : pairT m t W = pairT m t W2 :=
  sumN_congr fun q hq => sumN_congr fun l hl => by rw [h q l hq hl]
theorem pair_place {c m p : Nat} {t W : Tab} (hb : Back c m W) (hp : p < m) : pairT m (placeS c m t p) (doneW (p + 1) 0 W) = pairT m t (doneW p 0 W) := by
  unfold placeS
  rw [← pair_aheads hb hp m (Nat.le_refl _)]
  refine pair_cong fun q l hq hl => ?_
  unfold doneW
  by_cases h : 0 < l ∧ (q < p + 1 ∨ q = p + 1 ∧ l < 0)
  · rw [if_pos h, if_pos (by omega)]
  · rw [if_neg h, if_neg (by omega)]
theorem pair_places {c m far : Nat} {W : Tab} (hb : Back c m W) : ∀ n, n ≤ m → pairT m (tabS c m far n) (doneW n 0 W) = pairT m (initT far) (doneW 0 0 W)
  | 0, _ => rfl
  | n + 1, h => by
    rw [tabS_succ, pair_place hb (by omega), pair_places hb n (by omega)]
/-- all that the table has at distance 0, weighed, is the weight of the beginning -/
theorem table_back {c m far : Nat} {W : Tab} (hb : Back c m W) (hf : far < m) : (sumN m fun q => tabS c m far m q 0 * W q 0) = W 0 far := by
  have h1 : pairT m (tabS c m far m) (doneW m 0 W) = sumN m fun q => tabS c m far m q 0 * W q 0 := by
    unfold pairT
    refine sumN_congr fun q hq => ?_
    have : (sumN m fun l => tabS c m far m q l * doneW m 0 W q l) = sumN m (fun _ => 0) + tabS c m far m q 0 * W q 0 := by
      refine sumN_one (j := 0) (by omega) ?_ fun i hi hn => ?_
      · unfold doneW
        rw [if_neg (by omega), Nat.zero_add]
      · unfold doneW
        rw [if_pos (by omega), Nat.mul_zero]
    rw [this, sumN_zero, Nat.zero_add]
  have h2 : pairT m (initT far) (doneW 0 0 W) = W 0 far := by
    have : pairT m (initT far) (doneW 0 0 W) = pairT m (fun _ _ => 0) (fun _ _ => 0) + W 0 far := by
      refine pair_put (q := 0) (l := far) (by omega) hf ?_ fun q2 l2 hn => ?_
      · unfold initT doneW
        rw [if_pos ⟨rfl, rfl⟩, if_neg (by omega), Nat.one_mul, Nat.zero_mul, Nat.zero_add]
      · unfold initT
        rw [if_neg hn, Nat.zero_mul, Nat.zero_mul]
    rw [this]
    have z : pairT m (fun _ _ => 0) (fun _ _ => 0) = 0 := by
      exact sumN_nil fun q _ => sumN_nil fun l _ => rfl
    rw [z, Nat.zero_add]
  rw [← h1, pair_places hb m (Nat.le_refl _), h2]
/-! all rows -/
def allN (c : Nat) : Nat → (List Nat → Nat) → Nat
  | 0, g => g []
  | n + 1, g => sumN c fun k => allN c n fun r => g ((k + 1) :: r)
theorem allN_congr {c : Nat} : ∀ {n : Nat} {g h : List Nat → Nat}, (∀ r, r.length = n → (∀ x ∈ r, 1 ≤ x ∧ x ≤ c) → g r = h r) → allN c n g = allN c n h
  | 0, g, h, e => e [] rfl (fun x hx => absurd hx List.not_mem_nil)
  | n + 1, g, h, e => by
    unfold allN
    refine sumN_congr fun k hk => allN_congr fun r hr hx => e _ (by rw [List.length_cons, hr]) fun x hm => ?_
    rcases List.mem_cons.mp hm with z | z
    · omega
    · exact hx x z
theorem allN_const (c v : Nat) : ∀ n, allN c n (fun _ => v) = c ^ n * v
  | 0 => by
    show v = 1 * v
    omega
  | n + 1 => by
    show (sumN c fun k => allN c n fun _ => v) = _
    rw [sumN_congr (g := fun _ => (c ^ n * v) * 1) fun k _ => by rw [allN_const c v n, Nat.mul_one], sumN_mul]
    have : ∀ c, sumN c (fun _ => 1) = c := fun c => by
      induction c with
      | zero => rfl
      | succ c ih =>
        show sumN c _ + 1 = c + 1
        rw [ih]
    rw [this, Nat.pow_succ, Nat.mul_assoc, Nat.mul_comm v c, ← Nat.mul_assoc]
theorem allN_drop {c : Nat} (g : List Nat → Nat) : ∀ j n, j ≤ n → allN c n (fun r => g (r.drop j)) = c ^ j * allN c (n - j) g
  | 0, n, _ => by
    show allN c n (fun r => g r) = 1 * allN c n g
    rw [Nat.one_mul]
  | j + 1, 0, h => by omega
  | j + 1, n + 1, h => by
    show (sumN c fun k => allN c n fun r => g (r.drop j)) = _
    rw [sumN_congr (g := fun _ => (c ^ j * allN c (n - j) g) * 1) fun k _ => by rw [allN_drop g j n (by omega), Nat.mul_one], sumN_mul]
    have : ∀ c, sumN c (fun _ => 1) = c := fun c => by
      induction c with
      | zero => rfl
      | succ c ih =>
        show sumN c _ + 1 = c + 1
        rw [ih]
    rw [this, Nat.pow_succ, show n + 1 - (j + 1) = n - j by omega, Nat.mul_assoc, Nat.mul_comm _ c, ← Nat.mul_assoc]
theorem allN_end {c : Nat} : ∀ (n : Nat) (g : List Nat → Nat), allN c (n + 1) g = allN c n fun r => sumN c fun k => g (r ++ [k + 1])
  | 0, g => rfl
  | n + 1, g => by
    show (sumN c fun j => allN c (n + 1) fun r => g ((j + 1) :: r)) = sumN c fun j => allN c n fun r => sumN c fun k => g ((j + 1) :: (r ++ [k + 1]))
    exact sumN_congr fun j _ => allN_end n _
def rowsL (c : Nat) : Nat → List (List Nat)
  | 0 => [[]]
  | n + 1 => (rowsL c n).flatMap fun r => (List.range c).map fun k => r ++ [k + 1]
theorem sum_flat {α β : Type} (f : α → List β) (g : β → Nat) : ∀ l : List α, ((l.flatMap f).map g).sum = (l.map fun a => ((f a).map g).sum).sum
  | [] => rfl
  | a :: l => by
    rw [List.flatMap_cons, List.map_append, List.sum_append, sum_flat f g l, List.map_cons, List.sum_cons]
theorem rowsL_sum {c : Nat} : ∀ (n : Nat) (g : List Nat → Nat), ((rowsL c n).map g).sum = allN c n g
  | 0, g => by
    show g [] + 0 = g []
    rfl
  | n + 1, g => by
    rw [allN_end, ← rowsL_sum n]
    show (((rowsL c n).flatMap _).map g).sum = _
    rw [sum_flat]
    congr 1
    refine List.map_congr_left fun r _ => ?_
    rw [List.map_map, ← sumN_range]
    rfl
theorem rowsL_len (c : Nat) (n : Nat) : (rowsL c n).length = c ^ n := by
  have h := rowsL_sum (c := c) n (fun _ => 1)
  rw [allN_const, Nat.mul_one] at h
  rw [← h]
  clear h
  induction rowsL c n with
  | nil => rfl
  | cons a l ih => rw [List.length_cons, List.map_cons, List.sum_cons, ih, Nat.add_comm]
theorem rowsL_mem {c : Nat} : ∀ {n : Nat} {r : List Nat}, r ∈ rowsL c n → r.length = n ∧ ∀ x ∈ r, 1 ≤ x ∧ x ≤ c
  | 0, r, h => by
    rw [List.mem_singleton.mp h]
    exact ⟨rfl, fun x hx => absurd hx List.not_mem_nil⟩
  | n + 1, r, h => by
    obtain ⟨r2, h2, h3⟩ := List.mem_flatMap.mp h
    obtain ⟨k, hk, rfl⟩ := List.mem_map.mp h3
    obtain ⟨i1, i2⟩ := rowsL_mem h2
    refine ⟨by rw [List.length_append, i1]; rfl, fun x hx => ?_⟩
    rcases List.mem_append.mp hx with z | z
    · exact i2 x z
    · have := List.mem_singleton.mp z
      have := List.mem_range.mp hk
      omega
end Rt

/-! Where two ways first meet, by the first card: plain Lean. -/
namespace Rt
theorem getD_drop (row : List Nat) (j p : Nat) : (row.drop j).getD p 0 = row.getD (j + p) 0 := by
  rw [List.getD_eq_getElem?_getD, List.getD_eq_getElem?_getD, List.getElem?_drop]
theorem wayF_drop {row : List Nat} {j : Nat} (hj : j ≤ row.length) : ∀ f p, wayF row f (j + p) = (wayF (row.drop j) f p).map (j + ·)
  | 0, p => rfl
  | f + 1, p => by
    rw [wayF_succ, wayF_succ, getD_drop, List.length_drop]
    by_cases h : j + p + row.getD (j + p) 0 < row.length
    · rw [if_pos h, if_pos (by omega), List.map_cons, Nat.add_assoc, wayF_drop hj f]
    · rw [if_neg h, if_neg (by omega)]
      rfl
theorem way_drop {row : List Nat} {j p : Nat} (hc : ∀ c ∈ row, 1 ≤ c) (h : j + p < row.length) : way row (j + p) = (way (row.drop j) p).map (j + ·) := by
  unfold way
  rw [wayF_drop (by omega), wayF_same (row := row.drop j) (fun c hm => hc c (List.mem_of_mem_drop hm)) row.length (row.drop j).length p (by rw [List.length_drop]; omega) (by rw [List.length_drop]; omega) (by omega)]
theorem first_drop {row : List Nat} {j x y : Nat} (hc : ∀ c ∈ row, 1 ≤ c) (hx : j + x < row.length) (hy : j + y < row.length) : firstC row (j + x) (j + y) = (firstC (row.drop j) x y).map (j + ·) := by
  unfold firstC bothL
  rw [way_drop hc hx, way_drop hc hy, List.filter_map, List.head?_map]
  congr 2
  refine List.filter_congr fun q _ => ?_
  show decide (j + q ∈ _) = decide (q ∈ _)
  refine decide_eq_decide.mpr ⟨fun h => ?_, fun h => List.mem_map.mpr ⟨q, h, rfl⟩⟩
  obtain ⟨q2, h2, h3⟩ := List.mem_map.mp h
  have : q2 = q := by omega
  rw [← this]
  exact h2
theorem first_sym {row : List Nat} (hc : ∀ c ∈ row, 1 ≤ c) {p q : Nat} (hp : p < row.length) (hq : q < row.length) : firstC row p q = firstC row q p := by
  unfold firstC
  rw [both_sym hc hp hq]
theorem first_same {row : List Nat} (hc : ∀ c ∈ row, 1 ≤ c) {p : Nat} (hp : p < row.length) : firstC row p p = some p := by
  unfold firstC bothL
  rw [List.filter_eq_self.mpr fun q hq => decide_eq_true hq, way_eq hc hp]
  split <;> rfl
theorem first_go {row : List Nat} {k : Nat} {r : List Nat} (e : row = k :: r) (hc : ∀ c ∈ row, 1 ≤ c) {a : Nat} (h0 : 0 < a) : firstC row 0 a = if k < row.length then firstC row k a else none := by
  have hl : 0 < row.length := by rw [e]; exact Nat.succ_pos _
  have hk : row.getD 0 0 = k := by rw [e]; rfl
  unfold firstC bothL
  rw [way_eq (p := 0) hc hl, hk, Nat.zero_add]
  split
  · congr 1
    refine List.filter_congr fun q hq => decide_eq_decide.mpr ⟨fun h => ?_, fun h => List.mem_cons_of_mem _ h⟩
    have := wayF_ge row _ a q hq
    rcases List.mem_cons.mp h with z | z
    · omega
    · exact z
  · rw [List.head?_eq_none_iff, List.filter_eq_nil_iff]
    intro q hq
    have := wayF_ge row _ a q hq
    rw [decide_eq_true_iff, List.mem_singleton]
    omega
/-- where the ways from the first place and from so far on first meet -/
def firstF (row : List Nat) (a : Nat) : Option Nat := if a < row.length then firstC row 0 a else none
theorem firstF_go {row : List Nat} {k : Nat} {r : List Nat} (e : row = k :: r) (hc : ∀ c ∈ row, 1 ≤ c) {a : Nat} (h0 : 0 < a) :
    firstF row a = if min k a + gap a k < row.length then (firstF (row.drop (min k a)) (gap a k)).map (min k a + ·) else none := by
  unfold firstF
  have hg : min k a + gap a k = max k a := by
    unfold gap
    omega
  rw [List.length_drop, hg]
  by_cases ha : a < row.length
  · rw [if_pos ha, first_go e hc h0]
    by_cases hk : k < row.length
    · rw [if_pos hk, if_pos (by omega), if_pos (by omega)]
      by_cases h : k ≤ a
      · rw [show min k a = k by omega, show gap a k = a - k by unfold gap; omega]
        have := first_drop (row := row) (j := k) (x := 0) (y := a - k) hc (by omega) (by omega)
        rw [show k + 0 = k by omega, show k + (a - k) = a by omega] at this
        exact this
      · rw [show min k a = a by omega, show gap a k = k - a by unfold gap; omega, first_sym hc hk ha]
        have := first_drop (row := row) (j := a) (x := 0) (y := k - a) hc (by omega) (by omega)
        rw [show a + 0 = a by omega, show a + (k - a) = k by omega] at this
        exact this
    · rw [if_neg hk, if_neg (by omega)]
  · rw [if_neg ha, if_neg (by omega)]
theorem firstF_zero {row : List Nat} (hc : ∀ c ∈ row, 1 ≤ c) (h : 0 < row.length) : firstF row 0 = some 0 := by
  unfold firstF
  rw [if_pos h, first_same hc h]
/-- the rows from a place on, weighed by where the ways first meet -/
def rowW (c m : Nat) (G : Option Nat → Nat) : Tab := fun p a => allN c (m - p) fun row => G ((firstF row a).map (p + ·))
theorem rowW_back {c m : Nat} {G : Option Nat → Nat} (g0 : G none = 0) : Back c m (rowW c m G) := by
  intro p a hp ha _
  show allN c (m - p) _ = _
  obtain ⟨n, hn⟩ : ∃ n, m - p = n + 1 := ⟨m - p - 1, by omega⟩
  rw [hn]
  show sumN c _ = sumN c _
  refine sumN_congr fun i hi => ?_
  unfold goW
  by_cases h : p + min (i + 1) a + gap a (i + 1) < m
  · rw [if_pos ⟨ha, h⟩]
    have e : allN c n (fun r => G ((firstF ((i + 1) :: r) a).map (p + ·))) = allN c n fun r => (fun s => G ((firstF s (gap a (i + 1))).map (p + min (i + 1) a + ·))) (r.drop (min (i + 1) a - 1)) := by
      refine allN_congr fun r hr hx => ?_
      show _ = G ((firstF (r.drop (min (i + 1) a - 1)) (gap a (i + 1))).map (p + min (i + 1) a + ·))
      rw [firstF_go (row := (i + 1) :: r) rfl (fun x hm => ?_) ha, if_pos (by rw [List.length_cons, hr]; omega), Option.map_map]
      · obtain ⟨j, hj⟩ : ∃ j, min (i + 1) a = j + 1 := ⟨min (i + 1) a - 1, by omega⟩
        rw [hj]
        show G (Option.map _ (firstF (r.drop j) _)) = _
        congr 2
        funext z
        show p + (j + 1 + z) = p + (j + 1) + z
        omega
      · rcases List.mem_cons.mp hm with z | z
        · omega
        · exact (hx x z).1
    rw [e, allN_drop (fun s => G ((firstF s (gap a (i + 1))).map (p + min (i + 1) a + ·))) (min (i + 1) a - 1) n (by unfold gap at h; omega)]
    unfold rowW
    rw [show n - (min (i + 1) a - 1) = m - (p + min (i + 1) a) by omega]
  · rw [if_neg fun z => h z.2]
    have e : allN c n (fun r => G ((firstF ((i + 1) :: r) a).map (p + ·))) = allN c n fun _ => 0 := by
      refine allN_congr fun r hr hx => ?_
      rw [firstF_go (row := (i + 1) :: r) rfl (fun x hm => ?_) ha, if_neg (by rw [List.length_cons, hr]; omega)]
      · exact g0
      · rcases List.mem_cons.mp hm with z | z
        · omega
        · exact (hx x z).1
    rw [e, allN_const, Nat.mul_zero]
theorem rowW_end {c m q : Nat} {G : Option Nat → Nat} (hq : q < m) : rowW c m G q 0 = c ^ (m - q) * G (some q) := by
  unfold rowW
  rw [← allN_const]
  refine allN_congr fun r hr hx => ?_
  rw [firstF_zero (fun x hm => (hx x hm).1) (by omega)]
  rfl
/-- the table counts the rows -/
theorem table_rows {c m far : Nat} {G : Option Nat → Nat} (g0 : G none = 0) (hf : far < m) : (sumN m fun q => tabS c m far m q 0 * c ^ (m - q) * G (some q)) = allN c m fun row => G (firstF row far) := by
  have h := table_back (far := far) (rowW_back (c := c) (m := m) g0) hf
  have e : rowW c m G 0 far = allN c m fun row => G (firstF row far) := by
    unfold rowW
    refine allN_congr fun r _ _ => ?_
    congr 1
    cases firstF r far with
    | none => rfl
    | some z =>
      show some (0 + z) = some z
      rw [Nat.zero_add]
  rw [← e, ← h]
  refine sumN_congr fun q hq => ?_
  rw [rowW_end hq, Nat.mul_assoc]
theorem meetL_rows {c m far : Nat} (hf : far < m) : meetL c m far = (List.range m).map fun q => allN c m fun row => if firstF row far = some q then 1 else 0 := by
  unfold meetL
  refine List.map_congr_left fun q hq => ?_
  have hq := List.mem_range.mp hq
  rw [← table_rows (G := fun o => if o = some q then 1 else 0) rfl hf]
  have : (sumN m fun q2 => tabS c m far m q2 0 * c ^ (m - q2) * (if some q2 = some q then 1 else 0)) = sumN m (fun _ => 0) + tabS c m far m q 0 * c ^ (m - q) := by
    refine sumN_one hq ?_ fun i hi hn => ?_
    · rw [if_pos rfl, Nat.mul_one, Nat.zero_add]
    · rw [if_neg (fun z => hn (Option.some.inj z)), Nat.mul_zero]
  rw [this, sumN_zero, Nat.zero_add]
end Rt

/-! The law's own tally over all rows: plain Lean. -/
namespace Rt
def tallyL (m far : Nat) (rs : List (List Nat)) : List Nat := (List.range m).map fun q => rs.countP fun r => decide (firstF r far = some q)
theorem tally_len (m far : Nat) (rs : List (List Nat)) : (tallyL m far rs).length = m := by
  unfold tallyL
  rw [List.length_map, List.length_range]
theorem tally_at {m far q : Nat} {rs : List (List Nat)} (hq : q < m) : (tallyL m far rs)[q]? = some (rs.countP fun r => decide (firstF r far = some q)) := by
  unfold tallyL
  rw [List.getElem?_map, List.getElem?_range hq]
  rfl
theorem tally_put {m far q : Nat} {rs : List (List Nat)} {r : List Nat} (hr : firstF r far = some q) : tallyL m far (rs ++ [r]) = (tallyL m far rs).set q ((rs.countP fun r => decide (firstF r far = some q)) + 1) := by
  refine List.ext_getElem? fun i => ?_
  rw [List.getElem?_set]
  by_cases hi : i < m
  · rw [tally_at hi, List.countP_append, tally_len]
    by_cases e : q = i
    · subst e
      rw [if_pos rfl, if_pos hi, List.countP_singleton, hr, if_pos (decide_eq_true rfl)]
    · rw [if_neg e, tally_at hi, List.countP_singleton, hr, if_neg (by rw [decide_eq_true_iff]; exact fun z => e (Option.some.inj z))]
      rfl
  · rw [List.getElem?_eq_none (by rw [tally_len]; omega)]
    split
    · rename_i e
      rw [if_neg (by rw [tally_len]; omega)]
    · rw [List.getElem?_eq_none (by rw [tally_len]; omega)]
theorem tally_skip {m far : Nat} {rs : List (List Nat)} {r : List Nat} (hr : firstF r far = none) : tallyL m far (rs ++ [r]) = tallyL m far rs := by
  unfold tallyL
  refine List.map_congr_left fun q _ => ?_
  rw [List.countP_append, List.countP_singleton, hr, if_neg (by rw [decide_eq_true_iff]; exact fun z => nomatch z)]
  rfl
theorem tally_nil (m far : Nat) : tallyL m far [] = List.replicate m 0 := by
  unfold tallyL
  refine List.ext_getElem? fun i => ?_
  rw [List.getElem?_map, List.getElem?_replicate]
  by_cases hi : i < m
  · rw [List.getElem?_range hi, if_pos hi]
    rfl
  · rw [List.getElem?_eq_none (by rw [List.length_range]; omega), if_neg hi]
    rfl
theorem count_sum {α : Type} (p : α → Prop) [DecidablePred p] : ∀ l : List α, (l.map fun a => if p a then 1 else 0).sum = l.countP fun a => decide (p a)
  | [] => rfl
  | a :: l => by
    rw [List.map_cons, List.sum_cons, count_sum p l, List.countP_cons]
    by_cases h : p a
    · rw [if_pos h, if_pos (decide_eq_true h), Nat.add_comm]
    · rw [if_neg h, if_neg (by rw [decide_eq_true_iff]; exact h), Nat.zero_add, Nat.add_zero]
theorem tally_meet {c m far : Nat} (hf : far < m) : tallyL m far (rowsL c m) = meetL c m far := by
  rw [meetL_rows hf]
  unfold tallyL
  refine List.map_congr_left fun q _ => ?_
  rw [← rowsL_sum, count_sum]
theorem meetL_le {c m far : Nat} (hf : far < m) : ∀ n ∈ meetL c m far, n ≤ c ^ m := by
  intro n hn
  rw [← tally_meet hf] at hn
  obtain ⟨q, _, rfl⟩ := List.mem_map.mp hn
  rw [← rowsL_len c m]
  exact List.countP_le_length
theorem meetL_len (c m far : Nat) : (meetL c m far).length = m := by
  unfold meetL
  rw [List.length_map, List.length_range]
theorem allN_le {c : Nat} {g h : List Nat → Nat} : ∀ {n}, (∀ r, r.length = n → g r ≤ h r) → allN c n g ≤ allN c n h := by
  intro n
  induction n generalizing g h with
  | zero => exact fun e => e [] rfl
  | succ n ih =>
    intro e
    have : ∀ k, (sumN k fun k => allN c n fun r => g ((k + 1) :: r)) ≤ sumN k fun k => allN c n fun r => h ((k + 1) :: r) := fun k => by
      induction k with
      | zero => exact Nat.le_refl _
      | succ k ih2 => exact Nat.add_le_add ih2 (ih fun r hr => e _ (by rw [List.length_cons, hr]))
    exact this c
/-- of all rows no more than all -/
theorem meetL_sum {c m far : Nat} (hf : far < m) : (meetL c m far).sum = allN c m fun row => if (firstF row far).isSome then 1 else 0 := by
  have h := table_rows (c := c) (m := m) (far := far) (G := fun o => if o.isSome then 1 else 0) rfl hf
  rw [← h]
  unfold meetL
  rw [sumN_range]
  exact sumN_congr fun q _ => by
    show _ = _ * 1
    rw [Nat.mul_one]
theorem meetL_sum_le {c m far : Nat} (hf : far < m) : (meetL c m far).sum ≤ c ^ m := by
  rw [meetL_sum hf, show c ^ m = allN c m (fun _ => 1) by rw [allN_const, Nat.mul_one]]
  exact allN_le fun r _ => by split <;> omega
end Rt

/-! Lists of rows, as a law builds them. -/
namespace Rt
open PySem PySem.Spec PyProof.Rows L2 Evl
def RowsAt (H : Hp) (xs : List V) (rs : List (List Nat)) : Prop := xs.length = rs.length ∧ ∀ (i : Nat) (r : List Nat), rs[i]? = some r → ∃ a : Addr, xs[i]? = some (V.ref a) ∧ H a = some (.lst (vNs r))
theorem RowsAt.ex {H H' : Hp} {xs : List V} {rs : List (List Nat)} (h : RowsAt H xs rs) (e : Ex H H') : RowsAt H' xs rs := ⟨h.1, fun i r hr => by
  obtain ⟨a, h1, h2⟩ := h.2 i r hr
  exact ⟨a, h1, e a _ h2⟩⟩
theorem RowsAt.app {H : Hp} {xs ys : List V} {rs es : List (List Nat)} (h : RowsAt H xs rs) (g : RowsAt H ys es) : RowsAt H (xs ++ ys) (rs ++ es) := by
  refine ⟨by rw [List.length_append, List.length_append, h.1, g.1], fun i r hr => ?_⟩
  by_cases hi : i < rs.length
  · rw [List.getElem?_append_left hi] at hr
    obtain ⟨a, h1, h2⟩ := h.2 i r hr
    exact ⟨a, by rw [List.getElem?_append_left (by rw [h.1]; exact hi)]; exact h1, h2⟩
  · rw [List.getElem?_append_right (by omega)] at hr
    obtain ⟨a, h1, h2⟩ := g.2 _ r hr
    exact ⟨a, by rw [List.getElem?_append_right (by rw [h.1]; omega), h.1]; exact h1, h2⟩
theorem RowsAt.nil {H : Hp} : RowsAt H [] [] := ⟨rfl, fun i r h => by simp at h⟩
theorem RowsAt.one {H : Hp} {a : Addr} {r : List Nat} (h : H a = some (.lst (vNs r))) : RowsAt H [.ref a] [r] := ⟨rfl, fun i r2 h2 => by
  cases i with
  | zero =>
    have e := Option.some.inj h2
    subst e
    exact ⟨a, rfl, h⟩
  | succ i => simp at h2⟩
/-- the new list at L tells these rows -/
def Rw (H1 : Hp) (L : Addr) (rs : List (List Nat)) (H' : Hp) : Prop := H1 L = none ∧ Ex H1 H' ∧ ∃ acc, H' L = some (.lst acc) ∧ RowsAt (New (upd H1 L (.lst [])) H') acc rs
def EvR (te : TE) (σ : L2.St) (H : Hp) (rs : List (List Nat)) : Prop := ∀ H1, Ex H H1 → ∀ Q : VK, (∀ p xs H2, Ex H1 H2 → H1 p = none → H2 p = some (.lst xs) → RowsAt (New H1 H2) xs rs → Q (.ref p) H2) → te σ H1 Q
section
variable {K : PySem.W.Frag} {σ : L2.St} {H H' : Hp} {te ta : TE} {D : Ends} {tz : TS}
theorem rw_grow {H1 H4 : Hp} {L : Addr} {rs es : List (List Nat)} {ys : List V} (p : Rw H1 L rs H') (e4 : Ex H' H4) (hy : RowsAt (New H' H4) ys es) : ∃ acc, H4 L = some (.lst acc) ∧ acc.length = rs.length ∧ Rw H1 L (rs ++ es) (upd H4 L (.lst (acc ++ ys))) := by
  obtain ⟨p1, p2, acc, p3, p4⟩ := p
  refine ⟨acc, e4 L _ p3, p4.1, p1, Ex.mut (p2.trans e4) p1, acc ++ ys, upd_same, ?_⟩
  have ne : ∀ c : Addr, upd H1 L (.lst []) c = none → c ≠ L := fun c hc z => by
    rw [z, upd_same] at hc
    cases hc
  have ne2 : ∀ c : Addr, H' c = none → c ≠ L := fun c hc z => by
    rw [z, p3] at hc
    cases hc
  refine RowsAt.app (p4.ex (new_sub (fun _ h => h) fun c o hc ho => ?_)) (hy.ex (new_sub (fun c hc => ?_) fun c o hc ho => ?_))
  · rw [upd_ne (ne c hc)]
    exact e4 c o ho
  · rw [upd_ne (ne2 c hc)]
    exact fresh_back p2 hc
  · rw [upd_ne (ne2 c hc)]
    exact ho
theorem rw_start {H1 : Hp} {L : Addr} (hL : H1 L = none) : Rw H1 L [] (upd H1 L (.lst [])) := ⟨hL, Ex.new hL, [], upd_same, .nil⟩
theorem Rw.go {H1 H2 : Hp} {L : Addr} {rs : List (List Nat)} (p : Rw H1 L rs H') (e : Ex H' H2) : Rw H1 L rs H2 := by
  obtain ⟨p1, p2, acc, p3, p4⟩ := p
  exact ⟨p1, p2.trans e, acc, e L _ p3, p4.ex (new_mono (Ex.refl _) e)⟩
/-- [row for k in range(lo, hi)] -/
theorem er_mapR2 {tb : TA} {j : Nat} {vs : List Nat} {lo hi : Int} {n : Nat} (g : Nat → List Nat) (h : EvA tb σ H [.int lo, .int hi]) (hlo : 0 ≤ lo) (hh : hi ≤ 40000) (hn : (hi - lo).toNat = n) (hlh : lo ≤ hi)
    (he : ∀ i : Nat, i < n → ∀ H1, Ex H H1 → EvL te ((wipe σ vs).set j (some (.int (lo + (i : Int))))) H1 (vNs (g i))) (hw : ∀ x, wipe ((wipe σ vs).set j (some x)) vs = wipe σ vs := by intro _; rfl) :
    EvR (tLc (iRng2 tb) (gName j) tYes te vs) σ H ((List.range n).map g) := fun H0 e Q q =>
  h H0 e _ fun H1 e1 => ⟨lo, hi, rfl, by omega, fun L hL => lc_range (lo := lo) (n := (hi - lo).toNat) (fun i H' => Rw H1 L ((List.range i).map g) H') (rw_start hL) (fun i H' hi2 p => by
      refine ⟨hw _, he i (by omega) H' ((e.trans e1).trans p.2.1) H' (Ex.refl H') _ fun r H4 nr e4 hr => ?_⟩
      obtain ⟨acc, h1, h2, h3⟩ := rw_grow p e4 (RowsAt.one (a := r) (r := g i) (by rw [new_at nr]; exact hr))
      refine ⟨acc, h1, sz_lt (by rw [h2, List.length_map, List.length_range]; omega), ?_⟩
      rw [List.range_succ, List.map_append]
      exact h3)
    (fun H' p => by
      rw [hn] at p
      obtain ⟨p1, p2, acc, p3, p4⟩ := p
      refine q L acc H' (e1.trans p2) (fresh_back e1 p1) p3 (p4.ex (new_sub (fun c hc => ?_) fun _ _ _ h => h))
      refine fresh_back e1 ?_
      by_cases z : c = L
      · rw [z, upd_same] at hc
        cases hc
      · rw [upd_ne z] at hc
        exact hc)⟩
/-- xs.extend([..rows..]) -/
theorem s_extR {H1 : Hp} {L : Addr} {rs es : List (List Nat)} (p : Rw H1 L rs H) (ha : Ev ta σ H (.ref L)) (h : EvR te σ H es) (hz : rs.length + es.length ≤ 100000) (k : ∀ H2, Rw H1 L (rs ++ es) H2 → D.nx σ H2) :
    tDrop (tBM K "list" rExtend ta (tCons te tNil)) D σ H := ha H (Ex.refl H) _ fun H2 e2 => by
  have p2 := p.go e2
  obtain ⟨q1, q2, acc, q3, q4⟩ := p2
  exact ⟨Or.inl ⟨rfl, acc, sq_of q3⟩, h H2 e2 _ fun b xs H3 e3 nb hb hr => by
    obtain ⟨acc3, h1, h2, h3⟩ := rw_grow ⟨q1, q2, acc, q3, q4⟩ e3 hr
    exact ⟨L, b, acc3, xs, rfl, rfl, h1, hb, sz_of (by rw [h2, hr.1]; exact hz), k _ h3⟩⟩
/-- [row] -/
theorem er_one {r : List Nat} (h : EvL te σ H (vNs r)) : EvR (tLst (tCons te tNil)) σ H [r] := fun H1 e Q q => h H1 e _ fun a H2 na e2 ha =>
  ⟨sz_of (show 1 ≤ 100000 by decide), fun p hp => q p [.ref a] _ (e2.trans (Ex.new hp)) (fresh_back e2 hp) upd_same (RowsAt.one (by rw [new_at na]; exact Ex.new hp a _ ha))⟩
theorem q_asgR {i : Nat} {rs : List (List Nat)} (h : EvR te σ H rs) (k : ∀ p xs H1, Ex H H1 → H p = none → H1 p = some (.lst xs) → RowsAt (New H H1) xs rs → tz D (σ.set i (some (.ref p))) H1) : tSeq (tAsg te (gName i)) tz D σ H := h H (Ex.refl H) _ k
theorem ev_lenR {rs : List (List Nat)} (h : EvR te σ H rs) : Ev (tCB (Evl.rLenS K) (tCons te tNil)) σ H (vN rs.length) := fun H1 e Q q =>
  h H1 e _ fun p xs H2 e2 _ hp hr => ⟨p, xs, rfl, Or.inl (sq_of hp), by
    rw [hr.1]
    exact q H2 e2⟩
/-- for row in rows, new ones: these stand apart from what stood before -/
theorem s_forRw {tu : TS} {j : Nat} {rs : List (List Nat)} (h : EvR te σ H rs) (Pv : Nat → L2.St → Hp → Prop) (h0 : ∀ H1, Ex H H1 → Pv 0 σ H1)
    (hs : ∀ B i r a σ' H', (∀ c o, H c = some o → B c = none) → rs[i]? = some r → B a = some (HO.lst (vNs r)) → Ex B H' → Pv i σ' H' → tu { D with nx := fun σ3 H3 => Ex B H3 ∧ Pv (i + 1) σ3 H3, ct := fun σ3 H3 => Ex B H3 ∧ Pv (i + 1) σ3 H3, bk := D.nx } (σ'.set j (some (V.ref a))) H')
    (hd : ∀ σ' H', Pv rs.length σ' H' → D.nx σ' H') : tFor (iList K te) (gName j) tu D σ H :=
  h H (Ex.refl H) _ fun p xs H1 e np hp hr => ⟨p, rfl, ⟨xs, sq_of hp⟩, for_list (fun i σ' H' => Ex (New H H1) H' ∧ Pv i σ' H') ⟨new_ex H H1, h0 H1 e⟩ (fun i σ' H' _ w => sq_of (w.1 p _ (by rw [new_at np]; exact hp))) (fun i x σ' H' hi w => by
    have hi2 : i < rs.length := by
      rw [← hr.1]
      exact (List.getElem?_eq_some_iff.mp hi).1
    obtain ⟨a, h1, h2⟩ := hr.2 i _ (List.getElem?_eq_getElem hi2)
    have hx : x = .ref a := Option.some.inj (hi.symm.trans h1)
    subst hx
    exact hs (New H H1) i _ a σ' H' (fun c o hc => new_old hc) (List.getElem?_eq_getElem hi2) h2 w.1 w.2) fun σ' H' w => hd σ' H' (by rw [← hr.1]; exact w.2)⟩
theorem q_forRw {tu : TS} {j : Nat} {rs : List (List Nat)} (h : EvR te σ H rs) (Pv : Nat → L2.St → Hp → Prop) (h0 : ∀ H1, Ex H H1 → Pv 0 σ H1)
    (hs : ∀ B i r a σ' H', (∀ c o, H c = some o → B c = none) → rs[i]? = some r → B a = some (HO.lst (vNs r)) → Ex B H' → Pv i σ' H' → tu { D with nx := fun σ3 H3 => Ex B H3 ∧ Pv (i + 1) σ3 H3, ct := fun σ3 H3 => Ex B H3 ∧ Pv (i + 1) σ3 H3, bk := tz D } (σ'.set j (some (V.ref a))) H')
    (hd : ∀ σ' H', Pv rs.length σ' H' → tz D σ' H') : tSeq (tFor (iList K te) (gName j) tu) tz D σ H := s_forRw (D := { D with nx := tz D }) h Pv h0 hs hd
/-- a def that tells new rows -/
def RetR (rs : List (List Nat)) (H : Hp) (Q : VK) : Prop := ∀ p xs H2, Ex H H2 → H p = none → H2 p = some (.lst xs) → RowsAt (New H H2) xs rs → Q (.ref p) H2
def SpR (sp : Sp) (vs : List V) (H : Hp) (rs : List (List Nat)) : Prop := ∀ H1, Ex H H1 → ∀ Q : VK, RetR rs H1 Q → ∀ E : XK, sp vs H1 Q E
theorem er_call {sp : Sp} {dvs vs : List V} {E : XK} {tb : TA} {rs : List (List Nat)} (h : EvA tb σ H vs) (hs : SpR sp (vs ++ dvs) H rs) : EvR (tCall sp dvs E tb) σ H rs := fun H1 e Q q =>
  h H1 e _ fun H2 e2 => hs H2 (e.trans e2) Q (fun p xs H3 e3 np hp hall => q p xs H3 (e2.trans e3) (fresh_back e2 np) hp (hall.ex (new_mono e2 (Ex.refl H3)))) E
theorem q_forU {tu : TS} {tl : TE} {j : Nat} {xs : List V} (h : EvU tl σ H xs) (Pv : Hp → Nat → L2.St → Hp → Prop) (h0 : ∀ H1, Ex H H1 → Pv H1 0 σ H1) (hx : ∀ H1 i σ' H', Pv H1 i σ' H' → Ex H1 H')
    (hs : ∀ H1, Ex H H1 → ∀ i x σ' H', xs[i]? = some x → Pv H1 i σ' H' → tu { D with nx := Pv H1 (i + 1), ct := Pv H1 (i + 1), bk := tz D } (σ'.set j (some x)) H')
    (hd : ∀ H1, Ex H H1 → ∀ σ' H', Pv H1 xs.length σ' H' → tz D σ' H') : tSeq (tFor (iTup K tl) (gName j) tu) tz D σ H := s_forU (D := { D with nx := tz D }) h Pv h0 hx hs hd
end
theorem good_T2 {a b : Nat} (ha : a < 10 ^ 6) (hb : b < 10 ^ 6) : Good (.tuple [.int (a : Int), .int (b : Int)]) := by
  obtain ⟨h1, h2, h3, h4, h5⟩ := good_all [a, b] fun n hn => by
    simp only [List.mem_cons, List.not_mem_nil, or_false] at hn
    rcases hn with e | e
    · omega
    · omega
  refine ⟨?_, ?_, ?_, ?_, ?_⟩
  · exact h1
  · show (PyData.tuple _).depth ≤ 60
    rw [PyData.depth]
    have : PyData.depthAll [.int (a : Int), .int (b : Int)] = 0 := h2
    omega
  · exact h3
  · exact h4
  · rw [PyData.weight]
    have : PyData.weightAll [.int (a : Int), .int (b : Int)] ≤ 21 * 2 := h5
    omega
end Rt

/-! Dicts whose keys are pairs; slices; any() of numbers. -/
namespace Rt
open PySem PySem.Spec PyProof.Rows L2 Evl
def rAnyI (K : PySem.W.Frag) : List V → Hp → VK → Prop := fun vs H Q => ∃ (a : Addr) (ns : List Int), vs = [V.ref a] ∧ SqL K H a (ns.map V.int) ∧ Q (.bl ((List.range ns.length).any fun i => (ns.getD i 0 != 0))) H
section
variable {X : Cx}
theorem truth_ints {prog : Program} {w : World} {A : Around} {ns : List Int} {its : List Value} (r : Vals (ns.map V.int) its) : TruthOf prog w A (fun i v => its.toArray[i]? = some v) (fun i => (ns.getD i 0 != 0)) := fun i v s Q E hv hq => by
  have hv' : its[i]? = some v := by simpa using hv
  obtain ⟨n, t, rfl, hn⟩ := at_int r hv'
  have hg : ns.getD i 0 = n := by rw [List.getD_eq_getElem?_getD, hn]; rfl
  have hq' : Q (ns.getD i 0 != 0) s := hq
  rw [hg] at hq'
  exact PyProof.Rows.truthy_int hq'
where
  at_int {ns : List Int} {its : List Value} {i : Nat} {v : Value} (r : Vals (ns.map V.int) its) (h : its[i]? = some v) : ∃ n t, v = .int n t ∧ ns[i]? = some n := by
    have h2 := intsAre_of r
    clear r
    induction h2 generalizing i with
    | nil => simp at h
    | cons n t r ih =>
      cases i with
      | zero =>
        have e := Option.some.inj h
        subst e
        exact ⟨n, t, rfl, rfl⟩
      | succ i =>
        exact ih (i := i) h
theorem cr_anyI (hc : X.calm = true) : CallR X (.builtin "any") (rAnyI X.K) := by
  intro pins s σ H vs us Q I r h
  obtain ⟨a, ns, rfl, hs, q⟩ := h
  obtain ⟨its, rv, hl, _⟩ := I.list hs
  rw [Vals.ref1 r]
  have hb : its.length = ns.length := by
    have := rv.length
    rw [List.length_map] at this
    exact this.symm
  refine call_any_walk (iter_any hl.isList fun s₂ e2 st hne => ?_)
  subst e2
  refine ⟨_, _, _, _, _, _, _, rfl, Walks.list (A := X.A.in1) (I.ok.hd hc) _ a hne its.toArray, st, truth_ints rv, fun h' tk hk => ?_⟩
  refine ⟨.bl _, H, I.kept fun b o eo => hk b o (fun hmem => ?_) (Heap.get?_push_of_some _ eo), ?_, q⟩
  · rcases List.mem_cons.mp hmem with e1 | hmem
    · exact absurd (e1 ▸ Heap.lt_size eo) (Nat.lt_irrefl _)
    · cases hmem
  · show Value.bool _ = Value.bool _
    rw [List.size_toArray, hb]
end
section
variable {K : PySem.W.Frag} {σ : L2.St} {H H' : Hp} {ta tb tc td te tl tx ty : TE} {x y z v : V} {D : Ends} {tz : TS}
/-- any(xs), all of them 0 -/
theorem ev_anyZ {l : List Nat} (h : EvL ta σ H (vNs l)) (hz : ∀ n ∈ l, n = 0) : Ev (tCB (rAnyI K) (tCons ta tNil)) σ H (.bl false) := fun H1 e Q q =>
  h H1 e _ fun p H2 np e2 hp => ⟨p, l.map fun n : Nat => (n : Int), rfl, sq_of (by rw [hp, List.map_map]; rfl), by
    have e0 : ((List.range (l.map fun n : Nat => (n : Int)).length).any fun i => ((l.map fun n : Nat => (n : Int)).getD i 0 != 0)) = false := by
      rw [List.any_eq_false]
      intro i hi
      rw [List.getD_eq_getElem?_getD, List.getElem?_map]
      cases hl : l[i]? with
      | none => exact fun z => nomatch z
      | some n =>
        rw [hz n (List.mem_of_getElem? hl)]
        exact fun z => nomatch z
    rw [e0]
    exact q H2 e2⟩
theorem ev_get2T {a b : Addr} {kvs : List (List Key × V)} {k : List Key} (hd : Ev td σ H (.ref a)) (ha : H a = some (.dT kvs)) (hk : Ev ty σ H (.ref b)) (hb : H b = some (.tup (k.map kV))) (hz : Ev tx σ H z) : Ev (tDGet2 td ty tx) σ H ((valV kvs k).getD z) := fun H1 e Q q =>
  hd H1 e _ fun H2 e2 => ⟨a, rfl, .inr ⟨kvs, .inl ((e.trans e2) a _ ha)⟩, hk H2 (e.trans e2) _ fun H3 e3 => hz H3 ((e.trans e2).trans e3) _ fun H4 e4 =>
    ⟨valV kvs k, DGet.t ((((e.trans e2).trans e3).trans e4) a _ ha) ((((e.trans e2).trans e3).trans e4) b _ hb), q H4 ((e2.trans e3).trans e4)⟩⟩
theorem ev_dgetT {a : Addr} {kvs : List (List Key × V)} {k : List Key} (hd : Ev td σ H (.ref a)) (ha : H a = some (.dT kvs)) (hk : EvU ty σ H (k.map kV)) (hv : valV kvs k = some v) : Ev (tDGet td ty) σ H v := fun H1 e Q q =>
  hd H1 e _ fun H2 e2 => hk H2 (e.trans e2) _ fun b H3 nb e3 hb => ⟨a, v, rfl, by rw [← hv]; exact DGet.t (((e.trans e2).trans e3) a _ ha) hb, q H3 (e2.trans e3)⟩
theorem s_dputT {a : Addr} {kvs : List (List Key × V)} {k : List Key} (ha : H a = some (.dT kvs)) (hv : Ev te σ H v) (hd : Ev td σ H (.ref a)) (hk : EvU ty σ H (k.map kV)) (hl : kvs.length < 100000) (q : ∀ H1, Ex H H1 → D.nx σ (upd H1 a (.dT (putK kvs k v)))) : sDPut td ty te D σ H :=
  hv H (Ex.refl H) _ fun H1 e1 => hd H1 e1 _ fun H2 e2 => hk H2 (e1.trans e2) _ fun b H3 nb e3 hb => ⟨a, _, rfl, DPut.t (((e1.trans e2).trans e3) a _ ha) hb (sz_lt hl), q H3 ((e1.trans e2).trans e3)⟩
theorem q_dputT {a : Addr} {kvs : List (List Key × V)} {k : List Key} (ha : H a = some (.dT kvs)) (hv : Ev te σ H v) (hd : Ev td σ H (.ref a)) (hk : EvU ty σ H (k.map kV)) (hl : kvs.length < 100000) (q : ∀ H1, Ex H H1 → tz D σ (upd H1 a (.dT (putK kvs k v)))) : tSeq (sDPut td ty te) tz D σ H := s_dputT (D := { D with nx := tz D }) ha hv hd hk hl q
theorem q_dnewT {i : Nat} (q : ∀ p H1, H p = none → Ex H H1 → H1 p = some (.dT []) → tz D (σ.set i (some (.ref p))) H1) : tSeq (tAsg tDNewT (gName i)) tz D σ H := fun p hp => q p _ hp (Ex.new hp) upd_same
/-- xs[::-1], xs new -/
theorem el_rev {xs : List V} (h : EvL ta σ H xs) : EvL (tRevL K ta) σ H xs.reverse := fun H1 e Q q =>
  h H1 e _ fun p H2 np e2 hp => ⟨p, xs, rfl, sq_of hp, fun c hc => q c _ (fresh_back e2 hc) (e2.trans (Ex.new hc)) upd_same⟩
/-- xs[lo:hi], xs new -/
theorem el_slN {xs : List V} {tl th : TO} {lo hi : Option Int} (h : EvL te σ H xs) (h1 : Evl.EvO tl σ H lo) (h2 : Evl.EvO th σ H hi) : EvL (tSl (rSlL K) te tl th) σ H (cutV xs lo hi) := fun H1 e _ q =>
  h H1 e _ fun p H2 np e2 hp => h1 H2 (e.trans e2) _ fun H3 e3 => h2 H3 ((e.trans e2).trans e3) _ fun H4 e4 =>
    ⟨p, xs, rfl, sq_of (e4 p _ (e3 p _ hp)), fun c hc => q c _ (fresh_back ((e2.trans e3).trans e4) hc) (((e2.trans e3).trans e4).trans (Ex.new hc)) upd_same⟩
theorem cut_to (xs : List V) (k : Nat) : cutV xs none (some (k : Int)) = xs.take k := by
  unfold cutV
  rw [HT.sIx_none, HT.sIx_nat, List.drop_zero, Nat.sub_zero]
  by_cases h : k ≤ xs.length
  · rw [show min k xs.length = k by omega]
  · rw [show min k xs.length = xs.length by omega, List.take_length, List.take_of_length_le (by omega)]
theorem cut_from (xs : List V) (k : Nat) : cutV xs (some (k : Int)) none = xs.drop k := by
  unfold cutV
  rw [HT.sIx_none, HT.sIx_nat]
  by_cases h : k ≤ xs.length
  · rw [show min k xs.length = k by omega, List.take_of_length_le (by rw [List.length_drop]; exact Nat.le_refl _)]
  · rw [show min k xs.length = xs.length by omega, List.drop_eq_nil_of_le (Nat.le_refl _), List.drop_eq_nil_of_le (by omega)]
    exact List.take_nil
/-- a, b = [..], (..), two locals -/
theorem q_parLU {i j : Nat} {xs ys : List V} (h1 : EvL ta σ H xs) (h2 : EvU tb σ H ys) (k : ∀ p r H1, H p = none → Ex H H1 → H1 p = some (.lst xs) → H1 r = some (.tup ys) → tz D ((σ.set i (some (.ref p))).set j (some (.ref r))) H1) :
    tSeq (tPar i j (tCons ta (tCons tb tNil))) tz D σ H :=
  h1 H (Ex.refl H) _ fun p H1 np e1 hp => h2 H1 e1 _ fun r H2 nr e2 hr => ⟨.ref p, .ref r, rfl, k p r H2 np (e1.trans e2) (e2 p _ hp) hr⟩
end
theorem layN : ∀ l : List Nat, PyData.canLayAll0 (l.map fun n : Nat => PyData.int (n : Int)) = true ∧ PyData.depthAll (l.map fun n : Nat => PyData.int (n : Int)) = 0
  | [] => ⟨rfl, rfl⟩
  | n :: r => by
    obtain ⟨h1, h2⟩ := layN r
    rw [List.map_cons]
    refine ⟨?_, ?_⟩
    · rw [PyData.canLayAll0, h1]
      rfl
    · rw [PyData.depthAll, h2]
      rfl
theorem shN (l : List Nat) : SeqAt.shaped (pdN l) = true := by
  obtain ⟨h1, h2⟩ := layN l
  show ((pdN l).canLay0 && decide ((pdN l).depth ≤ 64)) = true
  have e1 : (pdN l).canLay0 = true := h1
  have e2 : (pdN l).depth ≤ 64 := by
    show (PyData.list _).depth ≤ 64
    rw [PyData.depth, h2]
    decide
  rw [e1, decide_eq_true e2]
  rfl
theorem reflN (l : List Nat) : PyData.eqv (pdN l) (pdN l) = true := SeqAt.eqv_refl _ (layN l).1
theorem shT2 (a b : Int) : SeqAt.shaped (.tuple [.int a, .int b]) = true := rfl
theorem reflT2 (a b : Int) : PyData.eqv (.tuple [.int a, .int b]) (.tuple [.int a, .int b]) = true := SeqAt.eqv_refl _ rfl
end Rt
namespace Rt
open PySem PySem.Spec PyProof.Rows L2 Evl
section
variable {K : PySem.W.Frag} {σ : L2.St} {H : Hp} {te : TE} {x : V} {D : Ends} {t u : TS}
theorem q_cut (Mid : L2.St → Hp → Prop) (h1 : t { D with nx := Mid } σ H) (h2 : ∀ σ' H', Mid σ' H' → u D σ' H') : tCut t u D σ H := ⟨Mid, h1, h2⟩
theorem en_u2 {a b : Nat} (h : EvU te σ H [vN a, vN b]) : EvN K te σ H (.tuple [.int (a : Int), .int (b : Int)]) := fun H1 e Q q =>
  h H1 e Q fun p H2 np e2 hp => q (.ref p) H2 e2 (.tup (st_of (by rw [new_at np]; exact hp)) (.cons (.int _) (.cons (.int _) .nil)))
/-- three numbers and a list taken apart -/
theorem g_four {i j k n : Nat} {a b c : Int} {l : List Nat} {Q : L2.St → Hp → Prop} (h : Dp K H x (.tuple [.int a, .int b, .int c, pdN l]))
    (kk : ∀ r, SqL K H r (vNs l) → Q ((((σ.set i (some (.int a))).set j (some (.int b))).set k (some (.int c))).set n (some (.ref r))) H) : gTup K 4 (gCons (gName i) (gCons (gName j) (gCons (gName k) (gCons (gName n) gNil)))) x σ H Q := by
  cases h with
  | tup hq hall =>
    cases hall with
    | cons h1 hr =>
      cases hr with
      | cons h2 hn =>
        cases hn with
        | cons h3 hm =>
          cases hm with
          | cons h4 ho =>
            cases ho
            cases h1
            cases h2
            cases h3
            obtain ⟨r, rfl, hs⟩ := dp_N_inv h4
            exact ⟨_, _, rfl, hq, rfl, _, _, rfl, _, _, rfl, _, _, rfl, _, _, rfl, rfl, kk r hs⟩
end
end Rt

/-! Great counts: with a card more; distance 0; one card; numbers told outright. Plain Lean. -/
namespace Rt
theorem first_ge {row : List Nat} {a z : Nat} (h : firstF row a = some z) : a ≤ z := by
  unfold firstF at h
  split at h
  · exact wayF_ge row _ a z (List.mem_filter.mp (List.mem_of_head? h)).1
  · cases h
theorem firstF_more (k : Nat) (hk : 1 ≤ k) : ∀ (n : Nat) (r : List Nat) (a q : Nat), r.length = n → (∀ x ∈ r, 1 ≤ x) → a < n → q < n → (firstF (r ++ [k]) a = some q ↔ firstF r a = some q) := by
  intro n
  induction n using Nat.strongRecOn with
  | _ n ih =>
    intro r a q hr hc ha hq
    have hc2 : ∀ x ∈ r ++ [k], 1 ≤ x := fun x hx => by
      rcases List.mem_append.mp hx with z | z
      · exact hc x z
      · rw [List.mem_singleton.mp z]
        exact hk
    by_cases h0 : 0 < a
    · obtain ⟨c, s, rfl⟩ : ∃ c s, r = c :: s := by
        cases r with
        | nil => exact absurd hr (by show ¬ 0 = n; omega)
        | cons c s => exact ⟨c, s, rfl⟩
      have c1 : 1 ≤ c := hc c List.mem_cons_self
      rw [firstF_go (row := (c :: s) ++ [k]) (r := s ++ [k]) rfl hc2 h0, firstF_go rfl hc h0]
      have hg : min c a + gap a c = max c a := by
        unfold gap
        omega
      rw [List.length_append, hr, hg]
      show (if max c a < n + 1 then _ else _) = _ ↔ _
      by_cases hm : max c a < n
      · rw [if_pos (by omega), if_pos hm, List.drop_append_of_le_length (by rw [hr]; omega)]
        have := ih (n - min c a) (by omega) ((c :: s).drop (min c a)) (gap a c)
        constructor
        · intro h
          obtain ⟨z, hz, e⟩ := Option.map_eq_some_iff.mp h
          refine Option.map_eq_some_iff.mpr ⟨z, (this z (by rw [List.length_drop, hr]) (fun x hx => hc x (List.mem_of_mem_drop hx)) (by omega) (by omega)).mp hz, e⟩
        · intro h
          obtain ⟨z, hz, e⟩ := Option.map_eq_some_iff.mp h
          refine Option.map_eq_some_iff.mpr ⟨z, (this z (by rw [List.length_drop, hr]) (fun x hx => hc x (List.mem_of_mem_drop hx)) (by omega) (by omega)).mpr hz, e⟩
      · rw [if_neg hm]
        constructor
        · intro h
          split at h
          · obtain ⟨z, hz, e⟩ := Option.map_eq_some_iff.mp h
            have := first_ge hz
            omega
          · cases h
        · intro h
          cases h
    · have e : a = 0 := by omega
      subst e
      rw [firstF_zero hc2 (by rw [List.length_append]; omega), firstF_zero hc (by omega)]
theorem allN_mul {c : Nat} (v : Nat) : ∀ (n : Nat) (g : List Nat → Nat), allN c n (fun r => v * g r) = v * allN c n g
  | 0, g => rfl
  | n + 1, g => by
    show (sumN c fun k => allN c n fun r => v * g ((k + 1) :: r)) = v * sumN c fun k => allN c n fun r => g ((k + 1) :: r)
    rw [← sumN_mul]
    exact sumN_congr fun k _ => allN_mul v n _
theorem sumN_const (v : Nat) : ∀ c, sumN c (fun _ => v) = c * v
  | 0 => (Nat.zero_mul v).symm
  | c + 1 => by
    show sumN c _ + v = _
    rw [sumN_const v c, Nat.add_mul, Nat.one_mul]
/-- rows whose ways first meet there -/
def meetN (c m far q : Nat) : Nat := allN c m fun row => if firstF row far = some q then 1 else 0
theorem meetL_N {c m far : Nat} (hf : far < m) : meetL c m far = (List.range m).map (meetN c m far) := meetL_rows hf
theorem meetN_more {c m far q : Nat} (hf : far < m) (hq : q < m) : meetN c (m + 1) far q = c * meetN c m far q := by
  unfold meetN
  rw [allN_end, ← allN_mul]
  refine allN_congr fun r hr hx => ?_
  rw [← sumN_const]
  refine sumN_congr fun k _ => ?_
  have h := firstF_more (k + 1) (by omega) m r far q hr (fun x hm => (hx x hm).1) hf hq
  by_cases z : firstF r far = some q
  · rw [if_pos z, if_pos (h.mpr z)]
  · rw [if_neg z, if_neg fun y => z (h.mp y)]
theorem meetN_low {c m far q : Nat} (hq : q < far) : meetN c m far q = 0 := by
  unfold meetN
  have : allN c m (fun row => if firstF row far = some q then 1 else 0) = allN c m fun _ => 0 := allN_congr fun r _ _ => by
    rw [if_neg fun z => by have := first_ge z; omega]
  rw [this, allN_const, Nat.mul_zero]
theorem meetN_zero {c m q : Nat} (hm : 0 < m) : meetN c m 0 q = if q = 0 then c ^ m else 0 := by
  unfold meetN
  have : allN c m (fun row => if firstF row 0 = some q then 1 else 0) = allN c m fun _ => if q = 0 then 1 else 0 := allN_congr fun r hr hx => by
    rw [firstF_zero (fun x h => (hx x h).1) (by omega)]
    by_cases e : q = 0
    · subst e
      rfl
    · rw [if_neg e, if_neg fun z => e (Option.some.inj z).symm]
  rw [this, allN_const]
  split
  · rw [Nat.mul_one]
  · rw [Nat.mul_zero]
theorem meetL_more {c m far : Nat} (hf : far < m) : (meetL c (m + 1) far).take m = (meetL c m far).map (· * c) := by
  rw [meetL_N (show far < m + 1 by omega), meetL_N hf, List.range_succ, List.map_append, List.take_left' (by rw [List.length_map, List.length_range]), List.map_map]
  refine List.map_congr_left fun q hq => ?_
  show _ = meetN c m far q * c
  rw [meetN_more hf (List.mem_range.mp hq), Nat.mul_comm]
theorem sum_more {c m far : Nat} (hf : far < m) : c * (meetL c m far).sum ≤ (meetL c (m + 1) far).sum := by
  rw [meetL_N (show far < m + 1 by omega), meetL_N hf, sumN_range, sumN_range, ← sumN_mul]
  show _ ≤ sumN m _ + _
  rw [sumN_congr (f := meetN c (m + 1) far) (g := fun q => c * meetN c m far q) fun q hq => meetN_more hf hq]
  exact Nat.le_add_right _ _
theorem sum_mores {c m far : Nat} (hf : far < m) : ∀ j, c ^ j * (meetL c m far).sum ≤ (meetL c (m + j) far).sum
  | 0 => by
    rw [Nat.pow_zero, Nat.one_mul]
    exact Nat.le_refl _
  | j + 1 => by
    have h1 := sum_mores (c := c) hf j
    have h2 := sum_more (c := c) (m := m + j) (far := far) (by omega)
    have h3 : c * (c ^ j * (meetL c m far).sum) ≤ c * (meetL c (m + j) far).sum := Nat.mul_le_mul_left c h1
    rw [Nat.pow_succ, Nat.mul_comm (c ^ j) c, Nat.mul_assoc]
    exact Nat.le_trans h3 h2
theorem meetL_low {c m far : Nat} (hf : far < m) : ∀ n ∈ (meetL c m far).take far, n = 0 := by
  intro n hn
  obtain ⟨i, hi, rfl⟩ := List.getElem_of_mem hn
  rw [List.getElem_take]
  rw [List.length_take] at hi
  have e : (meetL c m far)[i]? = some (meetN c m far i) := by
    rw [meetL_N hf, List.getElem?_map, List.getElem?_range (by omega)]
    rfl
  rw [List.getElem?_eq_getElem (by rw [meetL_len]; omega)] at e
  rw [Option.some.inj e]
  exact meetN_low (by omega)
theorem meetL_zero {c m : Nat} : meetL c (m + 1) 0 = c ^ (m + 1) :: List.replicate m 0 := by
  rw [meetL_N (by omega), List.range_succ_eq_map, List.map_cons, meetN_zero (by omega), if_pos rfl, List.map_map]
  congr 1
  refine List.ext_getElem? fun i => ?_
  rw [List.getElem?_map, List.getElem?_replicate]
  by_cases hi : i < m
  · rw [List.getElem?_range hi, if_pos hi]
    show some (meetN c (m + 1) 0 (i + 1)) = some 0
    rw [meetN_zero (by omega), if_neg (by omega)]
  · rw [List.getElem?_eq_none (by rw [List.length_range]; omega), if_neg hi]
    rfl
theorem sum_zero {c m : Nat} (hm : 0 < m) : (meetL c m 0).sum = c ^ m := by
  obtain ⟨n, rfl⟩ : ∃ n, m = n + 1 := ⟨m - 1, by omega⟩
  rw [meetL_zero, List.sum_cons, List.sum_replicate_nat, Nat.mul_zero, Nat.add_zero]
theorem first_ones : ∀ (n : Nat) (r : List Nat) (a : Nat), r.length = n → (∀ x ∈ r, x = 1) → a < n → (firstF r a).isSome = true
  | 0, _, _, _, _, h => by omega
  | n + 1, [], _, hr, _, _ => by cases hr
  | n + 1, c :: s, a, hr, hx, ha => by
    have hc : ∀ x ∈ c :: s, 1 ≤ x := fun x h => by rw [hx x h]; exact Nat.le_refl _
    by_cases h0 : 0 < a
    · have e : c = 1 := hx c List.mem_cons_self
      subst e
      rw [firstF_go rfl hc h0, hr, if_pos (by unfold gap; omega), Option.isSome_map, show min 1 a = 1 by omega]
      exact first_ones n s _ (by rw [List.length_cons] at hr; omega) (fun x h => hx x (List.mem_cons_of_mem _ h)) (by unfold gap; omega)
    · have e : a = 0 := by omega
      subst e
      rw [firstF_zero hc (by omega)]
      rfl
theorem sum_ones {m far : Nat} (hf : far < m) : (meetL 1 m far).sum = 1 := by
  rw [meetL_sum hf]
  have : allN 1 m (fun row => if (firstF row far).isSome then 1 else 0) = allN 1 m fun _ => 1 := allN_congr fun r hr hx => by
    rw [if_pos (first_ones m r far hr (fun x h => by have := hx x h; omega) hf)]
  rw [this, allN_const, Nat.one_pow]
/-! the share, in lowest terms -/
def topOf (S B : Nat) : Nat := S / Nat.gcd S B
def botOf (S B : Nat) : Nat := B / Nat.gcd S B
theorem low_terms {S B : Nat} (hB : 0 < B) : ∃ g, 0 < g ∧ S = topOf S B * g ∧ B = botOf S B * g := by
  refine ⟨Nat.gcd S B, Nat.gcd_pos_of_pos_right _ hB, ?_, ?_⟩
  · exact (Nat.div_mul_cancel (Nat.gcd_dvd_left S B)).symm
  · exact (Nat.div_mul_cancel (Nat.gcd_dvd_right S B)).symm
theorem low_cross {S B : Nat} (hB : 0 < B) : topOf S B * B = botOf S B * S := by
  obtain ⟨g, hg, h1, h2⟩ := low_terms (S := S) hB
  generalize topOf S B = s at *
  generalize botOf S B = b at *
  rw [h1, h2, Nat.mul_left_comm]
theorem low_le {S B : Nat} (h : S ≤ B) : topOf S B ≤ botOf S B := Nat.div_le_div_right h
theorem low_gcd {S B : Nat} (hB : 0 < B) : Nat.gcd (topOf S B) (botOf S B) = 1 := by
  have hg : 0 < Nat.gcd S B := Nat.gcd_pos_of_pos_right _ hB
  have h1 : topOf S B * Nat.gcd S B = S := Nat.div_mul_cancel (Nat.gcd_dvd_left S B)
  have h2 : botOf S B * Nat.gcd S B = B := Nat.div_mul_cancel (Nat.gcd_dvd_right S B)
  have h3 : Nat.gcd (topOf S B * Nat.gcd S B) (botOf S B * Nat.gcd S B) = Nat.gcd S B := by
    conv => lhs; rw [h1, h2]
  rw [Nat.gcd_mul_right] at h3
  exact Nat.eq_of_mul_eq_mul_right hg (by rw [h3, Nat.one_mul])
theorem low_grow {S B S2 B2 c : Nat} (hB : 0 < B) (hB2 : 0 < B2) (hc : B2 = c * B) (h : c * S ≤ S2) : topOf S B * botOf S2 B2 ≤ topOf S2 B2 * botOf S B := by
  obtain ⟨g, hg, h1, h2⟩ := low_terms (S := S) hB
  obtain ⟨g2, hg2, h3, h4⟩ := low_terms (S := S2) hB2
  generalize topOf S B = s at *
  generalize botOf S B = b at *
  generalize topOf S2 B2 = s2 at *
  generalize botOf S2 B2 = b2 at *
  have hk : S * B2 ≤ S2 * B := by
    rw [hc, ← Nat.mul_assoc, Nat.mul_comm S c]
    exact Nat.mul_le_mul_right B h
  rw [h1, h4, h3, h2, Nat.mul_mul_mul_comm, Nat.mul_mul_mul_comm s2 g2 b g, Nat.mul_comm g2 g] at hk
  exact Nat.le_of_mul_le_mul_right hk (Nat.mul_pos hg hg2)
theorem low_same {B : Nat} (hB : 0 < B) : topOf B B = 1 ∧ botOf B B = 1 := by
  unfold topOf botOf
  rw [Nat.gcd_self, Nat.div_self hB]
  exact ⟨rfl, rfl⟩
theorem low_half {S B : Nat} (hB : 0 < B) (h : B < S * 2) : botOf S B < topOf S B * 2 := by
  obtain ⟨g, hg, h1, h2⟩ := low_terms (S := S) hB
  generalize topOf S B = s at *
  generalize botOf S B = b at *
  rw [h1, h2, Nat.mul_right_comm] at h
  exact Nat.lt_of_mul_lt_mul_right h
/-! numbers outright -/
def evW (c m : Nat) (g : Nat → Nat) : Nat → Nat → Nat → Nat
  | 0, _, _ => 0
  | f + 1, p, a => if a = 0 then c ^ (m - p) * g p else sumN c fun i => if p + min (i + 1) a + gap a (i + 1) < m then c ^ (min (i + 1) a - 1) * evW c m g f (p + min (i + 1) a) (gap a (i + 1)) else 0
theorem evW_is {c m : Nat} {G : Option Nat → Nat} (g0 : G none = 0) : ∀ f p a, p < m → a < m → m - p ≤ f → rowW c m G p a = evW c m (fun q => G (some q)) f p a
  | 0, p, a, hp, ha, hf => by omega
  | f + 1, p, a, hp, ha, hf => by
    show _ = if a = 0 then _ else _
    by_cases h0 : a = 0
    · subst h0
      rw [if_pos rfl, rowW_end hp]
    · rw [if_neg h0, rowW_back g0 p a hp (by omega) ha]
      refine sumN_congr fun i _ => ?_
      unfold goW
      by_cases h : p + min (i + 1) a + gap a (i + 1) < m
      · rw [if_pos ⟨by omega, h⟩, if_pos h, evW_is g0 f _ _ (by omega) (by omega) (by omega)]
      · rw [if_neg fun z => h z.2, if_neg h]
theorem rowW_first {c m far : Nat} {G : Option Nat → Nat} : rowW c m G 0 far = allN c m fun row => G (firstF row far) := by
  unfold rowW
  refine allN_congr fun r _ _ => ?_
  congr 1
  cases firstF r far with
  | none => rfl
  | some z =>
    show some (0 + z) = some z
    rw [Nat.zero_add]
theorem meetL_ev {c m far : Nat} (hf : far < m) : meetL c m far = (List.range m).map fun q => evW c m (fun p => if p = q then 1 else 0) m 0 far := by
  rw [meetL_N hf]
  refine List.map_congr_left fun q _ => ?_
  unfold meetN
  rw [← rowW_first (G := fun o => if o = some q then 1 else 0), evW_is rfl m 0 far (by omega) hf (by omega)]
  congr 1
  funext p
  by_cases e : p = q
  · subst e
    rw [if_pos rfl, if_pos rfl]
  · rw [if_neg e, if_neg fun z => e (Option.some.inj z)]
def tab21 : List (List Nat) := [[1000000000000000000000, 515761768261103352780, 506591310176239278320, 497387812641576643600, 488329685282400846720, 479565484433181329920, 471217222631004835040, 463383134767144518960, 456139948152571687400, 449544695777288550010, 443636104698619700010, 359342457543320439660, 337411874803886810280, 316501870617080097840, 296447780719698215520, 277070614677204622560, 258175728325487245680, 239551136657024276040, 220965453858138400620, 202165441774145462910, 182873142484145462910],
  [100000000000000000000, 49723864041741665720, 48761862613938293600, 47815442168792191520, 46899478381058902720, 46026260457237348640, 45205770767145865360, 44445916616470153400, 43752718082117140910, 43130455132601790910, 41758405231210949060, 33082814509444255480, 31064487728825463440, 29142089447245292320, 27298671297927692960, 25516001556862476880, 23774408459729479640, 22052590732558036420, 20327393624922314810, 18573548234922314810],
  [10000000000000000000, 4775522926957908400, 4676454965972736320, 4580663804634107520, 4489360169659286240, 4403533263873987760, 4323974019304559400, 4251294148447012810, 4185941314600162810, 4037119428291904460, 3916619500858568680, 3032370738984133040, 2848580058840481120, 2673554990720699360, 2505589305169316080, 2342858259975407240, 2183401175687094220, 2025100974992937710, 1865660484992937710],
  [1000000000000000000, 457075168649543520, 447048581344608320, 437500996428247840, 428528282753126160, 420207544433505400, 412599020062455710, 405747613909105710, 389926761117445860, 376888958259869880, 366579158089466640, 277079932621861920, 260492053701881760, 244685645924483280, 229491514543218840, 214729215971554020, 200205188635721610, 185710598635721610],
  [100000000000000000, 43617982921800320, 42619074947625440, 41681023059840560, 40811164444791400, 40015264175859610, 39297667039009610, 37640178574313260, 36255624569079080, 35137188917224240, 34279993874714720, 25266695791080160, 23780949629498480, 22363264958474440, 20997037815595820, 19664571694156510, 18346881694156510],
  [10000000000000000, 4152126090588640, 4054006397906960, 3963053570777400, 3879803754314510, 3804662881364510, 3632877775846660, 3487823469916280, 3368705901565840, 3274923079519520, 3206063253734560, 2301613602681680, 2169424087134040, 2043021619599620, 1920788335832410, 1800998335832410],
  [1000000000000000, 394478820566160, 384961946791400, 376249749890410, 368378732560410, 350716423986060, 335670140901480, 323150791051440, 313088279956320, 305431204884960, 300146691152880, 209620371557640, 197929238145420, 186717121439310, 175827121439310],
  [100000000000000, 37423590741800, 36510931921310, 35685711327310, 33880343671460, 32330951354680, 31027784641040, 29962970905120, 29130473171360, 28526062832080, 28147306505240, 19102658013220, 18074283767210, 17084283767210],
  [10000000000000, 3546919115410, 3460286017210, 3276513462860, 3117797595880, 2983089694640, 2871526445920, 2782424833760, 2715278439280, 2669755136840, 2645696183020, 1743116706110, 1653116706110],
  [1000000000000, 336007344210, 317352031260, 301151755080, 287295072240, 275688858720, 266257712160, 258943494480, 253705012440, 250517834820, 249374246010, 159374246010],
  [100000000000, 30798901760, 29148993280, 27728243840, 26526723520, 25536246560, 24750317680, 24164092040, 23774348620, 23579476910, 23579476910],
  [10000000000, 2649908480, 2520749440, 2411520320, 2321476960, 2250028880, 2196735640, 2161304420, 2143588810, 2143588810],
  [1000000000, 229159040, 219229120, 211043360, 204548080, 199703240, 196482220, 194871710, 194871710],
  [100000000, 19929920, 19185760, 18595280, 18154840, 17862020, 17715610, 17715610],
  [10000000, 1744160, 1690480, 1650440, 1623820, 1610510, 1610510],
  [1000000, 153680, 150040, 147620, 146410, 146410],
  [100000, 13640, 13420, 13310, 13310],
  [10000, 1220, 1210, 1210],
  [1000, 110, 110],
  [100, 10],
  [10]]
def tabW : Tab := fun p a => (tab21.getD p []).getD a 0
theorem tab_back : Back 10 21 tabW := by
  have h : ∀ p, p < 21 → ∀ a, a < 21 → 0 < a → tabW p a = sumN 10 fun i => goW 10 21 p a tabW (i + 1) := by decide +kernel
  exact fun p a hp h0 ha => h p hp a ha h0
theorem tab_end : ∀ q, q < 21 → tabW q 0 = 10 ^ (21 - q) := by decide +kernel
theorem sum_21 : (meetL 10 21 1).sum = tabW 0 1 := by
  rw [← table_back tab_back (show 1 < 21 by decide)]
  unfold meetL
  rw [sumN_range]
  exact sumN_congr fun q hq => by rw [tab_end q hq]
theorem half_52 : 10 ^ 52 < (meetL 10 52 1).sum * 2 := by
  have h := sum_mores (c := 10) (m := 21) (far := 1) (by decide) 31
  rw [sum_21] at h
  have h2 : 10 ^ 52 < 10 ^ 31 * tabW 0 1 * 2 := by decide +kernel
  have h3 : (meetL 10 (21 + 31) 1).sum = (meetL 10 52 1).sum := rfl
  rw [h3] at h
  generalize (meetL 10 52 1).sum = S at *
  omega
end Rt

/-! len(range(..)); rows by +; comprehensions over data taken apart; a caught error's class. -/
namespace Rt
open PySem PySem.Spec PyProof.Rows L2 Evl
def tLenRg3 (ta : TA) : TE := fun σ H Q => ta σ H fun vs H1 => ∃ (i j c : Int) (n : Nat), vs = [.int i, .int j, .int c] ∧ RgC i j c n ∧ n ≤ 100000 ∧ Q (.int (n : Int)) H1
section
variable {X : Cx}
theorem pe_lenRg3 {a b c : Expr} {ta : TA} {p p2 pos pos2 : Pos} (hgl : Gl X "len") (hml : X.mg "len" = none) (hg : Gl X "range") (hm : X.mg "range" = none) (ha : PA X [a, b, c] ta)
    (hs : starEach [a, b, c] X.env = (false, eval a X.env) :: starEach [b, c] X.env := by rfl) (hpl : (backTo pos2 (starEach [b, c] X.env)).any (·.1) = false := by rfl)
    (hs2 : starEach [Expr.Call (.Name "range" p2) [a, b, c] [] pos2] X.env = (false, eval (Expr.Call (.Name "range" p2) [a, b, c] [] pos2) X.env) :: starEach [] X.env := by rfl) :
    PE X (.Call (.Name "len" p) [.Call (.Name "range" p2) [a, b, c] [] pos2] [] pos) (tLenRg3 ta) := by
  refine ⟨fun pins s σ H Q I h => ?_⟩
  refine wpAny_Call_Name_kw (ld_blt I hgl hml (u := .builtin "len") (by decide +kernel) ?_ (by decide) (by decide))
  refine PyProof.Rows.callWith_builtin1 (args_cons (e := Expr.Call (.Name "range" p2) [a, b, c] [] pos2) ?_ hs2) hs2
  refine Call_ (ld_blt I hg hm boot_range (PyProof.Rows.callWith_type1 (thn (ha.run pos2 pins s σ H _ I h) fun us s1 ⟨vs, H1, I1, r1, q1⟩ => ?_) hs hpl))
  obtain ⟨i, j, k, n, e, ⟨c0, c1, c2, c3⟩, hn, q⟩ := q1
  subst e
  cases r1 with
  | cons r rr =>
    cases rr with
    | cons r' rr =>
      cases rr with
      | cons r'' rr =>
        cases rr
        obtain ⟨t, rfl⟩ := r
        obtain ⟨t', rfl⟩ := r'
        obtain ⟨t'', rfl⟩ := r''
        refine call_range_3 c0 ?_ (.inl (PyProof.noPylong_small c1))
        refine args_nil ?_
        have I2 : Inv X pins σ H1 { s1 with heap := s1.heap.push { cls := .type "range", data := .fields #[.int i t, .int j t', .int k t''] } } := I1.kept (t' := s1.toks) fun b o e => Heap.get?_push_of_some _ e
        refine call_len_range (IsRange.new ..) c3 (by omega) ?_
        exact ⟨.int (n : Int), H1, I2.tok _, ⟨_, rfl⟩, q⟩
end
section
variable {K : PySem.W.Frag} {σ : L2.St} {H H' : Hp} {ta tb te tl : TE} {x y z v : V} {D : Ends} {tz : TS}
theorem ev_lenRg3 {tr : TA} {i j c : Int} {n : Nat} (h : EvA tr σ H [.int i, .int j, .int c]) (hr : RgC i j c n) (hn : n ≤ 100000) : Ev (tLenRg3 tr) σ H (vN n) := fun H1 e Q q => h H1 e _ fun H2 e2 => ⟨i, j, c, n, rfl, hr, hn, q H2 e2⟩
def rNotNon : R2 := fun x y H Q => y = .non ∧ Q (.bl (!decide (x = .non))) H
theorem rv_notN : RV rNotNon x .non H (.bl (!decide (x = .non))) := fun H1 _ _ q => ⟨rfl, q H1 (Ex.refl H1)⟩
/-- rows + [row ..] -/
theorem er_cat {l : Addr} {xs : List V} {rs es : List (List Nat)} {H0 : Hp} (h1 : Ev ta σ H (.ref l)) (hl : H l = some (.lst xs)) (hr : RowsAt (New H0 H) xs rs) (e0 : Ex H0 H) (h2 : EvR tb σ H es) (hz : rs.length + es.length ≤ 100000) :
    ∀ H1, Ex H H1 → ∀ Q : VK, (∀ p xs H2, Ex H1 H2 → H1 p = none → H2 p = some (.lst xs) → RowsAt (New H0 H2) xs (rs ++ es) → Q (.ref p) H2) → tOp rCat ta tb σ H1 Q := fun H1 e Q q =>
  h1 H1 e _ fun H2 e2 => h2 H2 (e.trans e2) _ fun b ys H3 e3 nb hb hy => ⟨l, b, xs, ys, rfl, rfl, ((e.trans e2).trans e3) l _ hl, hb, sz_of (by rw [hr.1, hy.1]; exact hz), fun p hp => by
    have e03 : Ex H3 (upd H3 p (.lst (xs ++ ys))) := Ex.new hp
    refine q p (xs ++ ys) _ ((e2.trans e3).trans e03) (fresh_back (e2.trans e3) hp) upd_same (RowsAt.app (hr.ex (new_mono (Ex.refl H0) (((e.trans e2).trans e3).trans e03))) (hy.ex ?_))
    exact new_mono (e0.trans (e.trans e2)) e03⟩
/-- a, b = [..], [..], two locals -/
theorem q_parLL {i j : Nat} {xs ys : List V} (h1 : EvL ta σ H xs) (h2 : EvL tb σ H ys) (k : ∀ p r H1, H p = none → H r = none → p ≠ r → Ex H H1 → H1 p = some (.lst xs) → H1 r = some (.lst ys) → tz D ((σ.set i (some (.ref p))).set j (some (.ref r))) H1) :
    tSeq (tPar i j (tCons ta (tCons tb tNil))) tz D σ H :=
  h1 H (Ex.refl H) _ fun p H1 np e1 hp => h2 H1 e1 _ fun r H2 nr e2 hr => ⟨.ref p, .ref r, rfl, k p r H2 np (fresh_back e1 nr) (fun z => by rw [← z, hp] at nr; cases nr) (e1.trans e2) (e2 p _ hp) hr⟩
/-- [e for target in data] -/
theorem el_lcD {g : TG} {vs : List Nat} {ds : List PyData} (v : Nat → V) (h : EvD K tl σ H (.list ds)) (hz : ds.length ≤ 40000)
    (he : ∀ (i : Nat) x d H1, ds[i]? = some d → Ex H H1 → Dp K H1 x d → ∃ σ2, (∀ H', Ex H1 H' → ∀ Q : L2.St → Hp → Prop, Q σ2 H' → g x (wipe σ vs) H' Q) ∧ wipe σ2 vs = wipe σ vs ∧ Ev te σ2 H1 (v i)) :
    EvL (tLc (iList K tl) g tYes te vs) σ H ((List.range ds.length).map v) := fun H0 e Q q =>
  h H0 e _ fun a H1 e1 hd => by
    cases hd with
    | @lst a xs _ hq hall =>
      refine ⟨a, rfl, ⟨xs, hq⟩, fun L hL => lc_list (xs := xs) (Cw H1 (fun _ => true) v L) ⟨hL, Ex.new hL, upd_same⟩ (fun i H' _ p => ex_l p.2.1 hq) (fun i x H' hi p => ?_) fun H' p => ?_⟩
      · have hi2 : i < ds.length := by
          rw [← dpAll_len hall]
          exact (List.getElem?_eq_some_iff.mp hi).1
        obtain ⟨x2, h1, h2⟩ := dpAll_at hall (List.getElem?_eq_getElem hi2)
        have hx : x = x2 := Option.some.inj (hi.symm.trans h1)
        subst hx
        obtain ⟨σ2, g1, g2, g3⟩ := he i x _ H1 (List.getElem?_eq_getElem hi2) (e.trans e1) h2
        exact g1 H' p.2.1 _ ⟨g2, cw_turn p (by omega) et_yes fun _ => g3⟩
      · have h3 := p.2.2
        refine q L H' (fresh_back e1 p.1) (e1.trans p.2.1) ?_
        rw [h3, dpAll_len hall]
        exact congrArg (fun z => some (HO.lst z)) (given_all ds.length v)
where
  given_all (n : Nat) (v : Nat → V) : given n (fun _ => true) v = (List.range n).map v := by
    unfold given
    rw [List.filter_eq_self.mpr fun _ _ => rfl]
/-- xs[i], name = a, b -/
theorem s_asgSN {l : Addr} {xs : List V} {j k : Nat} {to ti : TE} (hl : H l = some (.lst xs)) (h1 : Ev ta σ H x) (h2 : Ev tb σ H y) (ho : Ev to σ H (.ref l)) (hi : Ev ti σ H (.int (j : Int))) (hj : j < xs.length)
    (q : ∀ H1, Ex H H1 → D.nx (σ.set k (some y)) (upd H1 l (.lst (xs.set j x)))) : tAsg (tTup (tCons ta (tCons tb tNil))) (gTup K 2 (gCons (gSub to ti L2.rSetL) (gCons (gName k) gNil))) D σ H :=
  h1 H (Ex.refl H) _ fun H1 e1 => h2 H1 e1 _ fun H2 e2 => ⟨by show 2 ≤ sizeLine; decide, fun c nc => by
    have e3 : Ex H (upd H2 c (.tup [x, y])) := (e1.trans e2).trans (Ex.new nc)
    refine ⟨c, [x, y], rfl, st_of upd_same, rfl, x, [y], rfl, ?_⟩
    refine ho _ e3 _ fun H4 e4 => hi H4 (e3.trans e4) _ fun H5 e5 => ?_
    exact ⟨l, xs, (j : Int), j, rfl, rfl, ((e3.trans e4).trans e5) l _ hl, ixN_nat hj, y, [], rfl, rfl, q H5 ((e3.trans e4).trans e5)⟩⟩
end
/-! what class a caught error is of -/
def rIsX (K : PySem.W.Frag) (a : Addr) (cls : Value) (d : Option Addr) : List V → Hp → VK → Prop := fun xs H Q => ∃ A, cls = .ref A ∧ d = none ∧ ExcC K A ∧ rIsE K A a xs H Q
theorem call_isX {X : Cx} {a : Addr} {cls : Value} {d : Option Addr} {oe : Obj} {pn : List (Addr × Obj)} (hz : Zc cls d oe) (hf : ∃ vs, oe.data = .fields vs) : CallR (X.suite a ((a, oe) :: pn)) (.builtin "isinstance") (rIsX X.K a cls d) := by
  intro pins s σ H xs us Q I r h
  obtain ⟨A, rfl, rfl, C, h⟩ := h
  exact call_isE C hz hf pins s σ H xs us Q I r h
end Rt

/-! What k09 holds on paper: plain Lean. -/
namespace Rt
theorem getLast_of {α : Type} {l m : List α} (e : l = m) (hl : l ≠ []) (hm : m ≠ []) : l.getLast hl = m.getLast hm := by
  subst e
  rfl
theorem lastOf_go {row : List Nat} (hc : ∀ c ∈ row, 1 ≤ c) {p : Nat} (hp : p < row.length) : lastOf row p = if p + row.getD p 0 < row.length then lastOf row (p + row.getD p 0) else p := by
  unfold lastOf
  by_cases h : p + row.getD p 0 < row.length
  · rw [if_pos h, getLast_of (way_go hc hp h) (way_ne row p) (List.cons_ne_nil _ _), List.getLast_cons (way_ne row _)]
  · rw [if_neg h, getLast_of (way_end hc hp h) (way_ne row p) (List.cons_ne_nil _ _)]
    rfl
theorem last_alike {c : Nat} (hc : 1 ≤ c) : ∀ k p, k = 60 - p → p < 60 → lastOf (List.replicate 60 c) p = 59 - (59 - p) % c := by
  intro k
  induction k using Nat.strongRecOn with
  | _ k ih =>
    intro p hk hp
    have hg : (List.replicate 60 c).getD p 0 = c := by
      rw [List.getD_eq_getElem?_getD, List.getElem?_replicate, if_pos hp]
      rfl
    rw [lastOf_go (fun x hx => by rw [List.eq_of_mem_replicate hx]; exact hc) (by rw [List.length_replicate]; exact hp), hg, List.length_replicate]
    by_cases h : p + c < 60
    · rw [if_pos h, ih (60 - (p + c)) (by omega) (p + c) rfl h, Nat.mod_eq_sub_mod (show 59 - p ≥ c by omega), show 59 - p - c = 59 - (p + c) by omega]
    · rw [if_neg h, Nat.mod_eq_of_lt (show 59 - p < c by omega)]
      omega
theorem lasts_alike {c : Nat} (hc : 1 ≤ c) : lastsL (List.replicate 60 c) 60 = (List.range 60).map fun p => 59 - (59 - p) % c := by
  unfold lastsL
  exact List.map_congr_left fun p hp => last_alike hc _ p rfl (List.mem_range.mp hp)
def alikeL (c : Nat) : List Nat := (List.range 60).map fun p => 59 - (59 - p) % c
def endsL (c : Nat) : List Nat := (List.range 60).filter fun p => decide (59 < p + c)
theorem alike_rise : ∀ c, c < 21 → 1 ≤ c → riseL (alikeL c) = endsL c := by decide +kernel
theorem alike_count : ∀ c, c < 21 → 1 ≤ c → ∀ p ∈ endsL c, (alikeL c).count p = p / c + 1 := by decide +kernel
theorem hand_ways : ∀ c, c < 21 → 1 ≤ c → way [c] 0 = [0] ∧ lastOf [c] 0 = 0 ∧ way [1, c] 0 = [0, 1] ∧ way [2, c] 0 = [0] ∧ way [2, 1, 1, 5, c] 0 = [0, 2, 3] ∧ way [2, 1, 1, 5, c] 4 = [4] := by decide +kernel
theorem hand_lasts : ∀ c, c < 21 → 1 ≤ c → (List.range 5).map (lastOf [2, 1, 1, 5, c]) = [3, 3, 3, 3, 4] ∧ lastsL [2, 1, 1, 5, c] 5 = [3, 3, 3, 3, 4] ∧ lastsL [2, 1, 1, 5, c] 1 = [3] ∧ lastsL [c] 1 = [0] := by decide +kernel
theorem hand_runs : ∀ c, c < 21 → 1 ≤ c → runBy [2, 1, 1, 5, c] 4 = some 3 ∧ runBy [2, 1, 1, 5, c] 5 = none ∧ runBy [2, 1, 1, 5, c] 1 = some 0 ∧ runBy [2, 1, 1, 5, c] 2 = some 2 ∧ runBy [c] 1 = some 0 := by decide +kernel
def handL : List (Nat × Nat × Nat) := [(0, 1, 2), (1, 0, 2), (0, 2, 2), (2, 0, 2), (3, 3, 3), (4, 4, 4), (0, 3, 3)]
theorem hand_meet : ∀ c, c < 21 → 1 ≤ c → ∀ r ∈ handL, firstC [2, 1, 1, 5, c] r.1 r.2.1 = some r.2.2 := by decide +kernel
theorem hand_lt : ∀ r ∈ handL, r.1 < 5 ∧ r.2.1 < 5 := by decide
theorem hand_apart : ∀ c, c < 21 → 1 ≤ c → firstC [2, 1, 1, 5, c] 0 4 = none ∧ firstC [2, 1, 1, 5, c] 4 0 = none ∧ lastOf [2, 1, 1, 5, c] 0 = 3 ∧ lastOf [2, 1, 1, 5, c] 4 = 4 := by decide +kernel
theorem last_111 : lastOf [1, 1, 1] 0 = 2 := by decide +kernel
theorem run_60 : runBy (List.replicate 60 1) 60 = some 59 := by decide +kernel
theorem rok {l : List Nat} (h1 : 1 ≤ l.length) (h2 : l.length ≤ 60) (h : ∀ x ∈ l, 1 ≤ x ∧ x ≤ 20) : RowOk l := ⟨h1, h2, fun c hc => (h c hc).1, fun c hc => (h c hc).2⟩
theorem rok1 {c : Nat} (h1 : 1 ≤ c) (h2 : c ≤ 20) : RowOk [c] := rok (show 1 ≤ 1 by decide) (show 1 ≤ 60 by decide) fun x hx => by
  simp only [List.mem_cons, List.not_mem_nil, or_false] at hx
  omega
theorem rok2 {b c : Nat} (h1 : 1 ≤ c) (h2 : c ≤ 20) (hb : 1 ≤ b ∧ b ≤ 20) : RowOk [b, c] := rok (show 1 ≤ 2 by decide) (show 2 ≤ 60 by decide) fun x hx => by
  simp only [List.mem_cons, List.not_mem_nil, or_false] at hx
  omega
theorem rok5 {c : Nat} (h1 : 1 ≤ c) (h2 : c ≤ 20) : RowOk [2, 1, 1, 5, c] := rok (show 1 ≤ 5 by decide) (show 5 ≤ 60 by decide) fun x hx => by
  simp only [List.mem_cons, List.not_mem_nil, or_false] at hx
  omega
theorem rok60 {c : Nat} (h1 : 1 ≤ c) (h2 : c ≤ 20) : RowOk (List.replicate 60 c) := rok (by rw [List.length_replicate]; decide) (by rw [List.length_replicate]; exact Nat.le_refl _) fun x hx => by
  rw [List.eq_of_mem_replicate hx]
  exact ⟨h1, h2⟩
end Rt

/-! Cells that are lent: while a def is called, what its caller's cells hold is known of them (H tells it, frozen). -/
namespace Rt
open PySem PySem.Spec PyProof.Rows L2 Evl LamX NdefX
abbrev Lent := Addr → Option Obj
def lendH (cs : Lent) (H : Hp) : Hp := fun b => match cs b with
  | some o => some (.frz o (.own b))
  | none => H b
def backH (cs : Lent) (H : Hp) : Hp := fun b => match cs b with
  | some _ => none
  | none => H b
/-- what is lent is told so | is not told -/
def LentIn (cs : Lent) (H : Hp) : Prop := ∀ c o, cs c = some o → H c = some (.frz o (.own c))
def Unheld (cs : Lent) (H : Hp) : Prop := ∀ c o, cs c = some o → H c = none
section
variable {cs : Lent} {H H' : Hp} {b : Addr} {o : Obj}
theorem lend_in (h : cs b = some o) : lendH cs H b = some (.frz o (.own b)) := by
  unfold lendH
  rw [h]
theorem lend_out (h : cs b = none) : lendH cs H b = H b := by
  unfold lendH
  rw [h]
theorem back_in (h : cs b = some o) : backH cs H b = none := by
  unfold backH
  rw [h]
theorem back_out (h : cs b = none) : backH cs H b = H b := by
  unfold backH
  rw [h]
theorem lentIn (cs : Lent) (H : Hp) : LentIn cs (lendH cs H) := fun _ _ h => lend_in h
theorem back_lend (h : Unheld cs H) : backH cs (lendH cs H) = H := by
  funext b
  cases q : cs b with
  | none => rw [back_out q, lend_out q]
  | some o => rw [back_in q, h b o q]
theorem lend_back (h : LentIn cs H) : lendH cs (backH cs H) = H := by
  funext b
  cases q : cs b with
  | none => rw [lend_out q, back_out q]
  | some o => rw [lend_in q, h b o q]
theorem LentIn.off (li : LentIn cs H) (n : H b = none) : cs b = none := by
  cases q : cs b with
  | none => rfl
  | some o =>
    rw [li b o q] at n
    cases n
theorem LentIn.other (li : LentIn cs H) {u : HO} (e : H b = some u) (d : ∀ o, u ≠ .frz o (.own b)) : cs b = none := by
  cases q : cs b with
  | none => rfl
  | some o =>
    rw [li b o q] at e
    exact absurd (Option.some.inj e).symm (d o)
theorem Unheld.off (un : Unheld cs H) {u : HO} (e : H b = some u) : cs b = none := by
  cases q : cs b with
  | none => rfl
  | some o =>
    rw [un b o q] at e
    cases e
theorem ex_lend (un : Unheld cs H) : Ex H (lendH cs H) := fun b u e => by
  rw [lend_out (un.off e)]
  exact e
theorem back_ex : Ex (backH cs H) H := fun b u e => by
  cases q : cs b with
  | none =>
    rw [back_out q] at e
    exact e
  | some o =>
    rw [back_in q] at e
    cases e
/-- behind a call with what was lent: it is taken back -/
theorem ex_took (un : Unheld cs H) (e : Ex (lendH cs H) H') : Ex H (backH cs H') := fun b u h => by
  have q := un.off h
  rw [back_out q]
  exact e b u (by rw [lend_out q]; exact h)
/-- behind the lambda: what was taken is lent again -/
theorem ex_gave (li : LentIn cs H) (e : Ex (backH cs H) H') : Ex H (lendH cs H') := fun b u h => by
  cases q : cs b with
  | none =>
    rw [lend_out q]
    exact e b u (by rw [back_out q]; exact h)
  | some o =>
    rw [lend_in q, ← li b o q]
    exact h
end
section
variable {P : Program} {w : World} {K : PySem.W.Frag} {mg : Str → Option Value} {base : Heap} {A : Around} {outer : List Env} {s s' : Shared} {cs : Lent} {H : Hp} {h : Heap}
theorem hok_lend (ok : HOk P w H h) (un : Unheld cs H) (at_ : ∀ c o, cs c = some o → h.get? c = some o) : HOk P w (lendH cs H) h := fun a u e => by
  cases q : cs a with
  | some o =>
    rw [lend_in q] at e
    cases e
    exact ⟨at_ a o q, o, at_ a o q⟩
  | none =>
    rw [lend_out q] at e
    refine (ok a u e).stay (fun _ _ _ z => z) (fun b z => ?_) fun b xs z => ?_
    · rw [lend_out (un.off z)]
      exact z
    · rw [lend_out (un.off z)]
      exact z
theorem hok_back (ok : HOk P w H h) (li : LentIn cs H) : HOk P w (backH cs H) h := fun a u e => by
  refine (ok a u (back_ex a u e)).stay (fun _ _ _ z => z) (fun b z => ?_) fun b xs z => ?_
  · rw [back_out (li.other z fun o y => nomatch y)]
    exact z
  · rw [back_out (li.other z fun o y => nomatch y)]
    exact z
theorem env0_lend (e : Env0 P w K mg base A outer s H) (un : Unheld cs H) (at_ : ∀ c o, cs c = some o → s.heap.get? c = some o) (nb : ∀ c o, cs c = some o → base.get? c = none ∧ c ∉ frs outer) : Env0 P w K mg base A outer s (lendH cs H) := by
  refine ⟨e.frames, e.mod, fun b o z => ⟨(e.bs b o z).1, ?_⟩, e.bsz, e.funs, fun b z => ?_, hok_lend e.hok un at_, e.bare⟩
  · cases q : cs b with
    | none =>
      rw [lend_out q]
      exact (e.bs b o z).2
    | some u =>
      rw [(nb b u q).1] at z
      cases z
  · cases q : cs b with
    | none =>
      rw [lend_out q]
      exact e.frf b z
    | some u => exact absurd z (nb b u q).2
theorem env0_back (e : Env0 P w K mg base A outer s H) (li : LentIn cs H) : Env0 P w K mg base A outer s (backH cs H) := by
  refine ⟨e.frames, e.mod, fun b o z => ⟨(e.bs b o z).1, ?_⟩, e.bsz, e.funs, fun b z => ?_, hok_back e.hok li, e.bare⟩
  · rw [back_out (li.off (e.bs b o z).2)]
    exact (e.bs b o z).2
  · rw [back_out (li.off (e.frf b z))]
    exact e.frf b z
/-- a call's end, seen by the one who lent -/
theorem ce_lend {Q : VK} {u : Value} (un : Unheld cs H) (at_ : ∀ c o, cs c = some o → s.heap.get? c = some o) (nf : ∀ c o, cs c = some o → c ∉ frs outer)
    (z : CE outer P w (lendH cs H) s (fun v H2 => Q v (backH cs H2)) u s') : CE outer P w H s Q u s' := by
  obtain ⟨v, H2, os, bare, uu, hok, r, q⟩ := z
  have li : LentIn cs H2 := fun c o y => uu.frzs c o _ (lend_in y)
  refine ⟨v, backH cs H2, os, bare, ⟨fun b o e n nb nx => ?_, fun b o e n hb nx => ?_, fun b o e n nx => ?_, fun b o e nx => uu.there b o e nx, fun b xs e => ?_, fun b o x e => ?_, fun b ps e => ?_⟩, hok_back hok li, r, q⟩
  · cases y : cs b with
    | none => exact uu.keep b o e (by rw [lend_out y]; exact n) nb nx
    | some o2 =>
      have e2 := at_ b o2 y
      rw [e] at e2
      cases e2
      exact (hok b _ (li b o y)).1
  · cases y : cs b with
    | none => exact uu.slot b o e (by rw [lend_out y]; exact n) hb nx
    | some o2 => exact absurd hb (nf b o2 y)
  · cases y : cs b with
    | none =>
      rw [back_out y]
      exact uu.free b o e (by rw [lend_out y]; exact n) nx
    | some o2 => exact back_in y
  · have y := un.off e
    rw [back_out y]
    exact uu.tups b xs (by rw [lend_out y]; exact e)
  · have y := un.off e
    rw [back_out y]
    exact uu.frzs b o x (by rw [lend_out y]; exact e)
  · have y := un.off e
    rw [back_out y]
    exact uu.tbls b ps (by rw [lend_out y]; exact e)
/-- a lambda's end, seen by its caller -/
theorem cr_back {Q : VK} {E : XK} {r : Result} (li : LentIn cs H) (hok0 : HOk P w H s.heap) (nf : ∀ c o, cs c = some o → c ∉ frs outer)
    (z : CR (L2.CX P w) outer P w (backH cs H) s (fun v H2 => Q v (lendH cs H2)) (fun c d H2 => E c d (lendH cs H2)) r s') : CR (L2.CX P w) outer P w H s Q E r s' := by
  have at_ : ∀ c o, cs c = some o → s.heap.get? c = some o := fun c o y => (hok0 c _ (li c o y)).1
  rcases r with e | fl
  · obtain ⟨a, B, H2, cls, d, rfl, fl, hok, ub, na, os, ag, hE⟩ := z
    have un : Unheld cs H2 := fun c o y => ub.free c o (at_ c o y) (back_in y)
    have atB : ∀ c o, cs c = some o → B.get? c = some o := fun c o y => ub.keep c o (at_ c o y) (back_in y) (nf c o y)
    refine ⟨a, B, lendH cs H2, cls, d, rfl, fl, hok_lend hok un atB, ⟨fun b o e n nb => ?_, ub.slot, fun b o e n => ?_, ub.there, fun b xs e => ?_, fun b o x e => ?_, fun b ps e => ?_⟩, ?_, os, ag, hE⟩
    · exact ub.keep b o e (by rw [back_out (li.off n)]; exact n) nb
    · rw [lend_out (li.off n)]
      exact ub.free b o e (by rw [back_out (li.off n)]; exact n)
    · have y := li.other e fun o y => nomatch y
      rw [lend_out y]
      exact ub.tups b xs (by rw [back_out y]; exact e)
    · cases y : cs b with
      | none =>
        rw [lend_out y]
        exact ub.frzs b o x (by rw [back_out y]; exact e)
      | some o2 =>
        rw [lend_in y, ← li b o2 y]
        exact e
    · have y := li.other e fun o y => nomatch y
      rw [lend_out y]
      exact ub.tbls b ps (by rw [back_out y]; exact e)
    · cases y : cs a with
      | none =>
        rw [lend_out y]
        exact na
      | some o =>
        have z1 := atB a o y
        rw [fl.2.1] at z1
        cases z1
  · cases fl with
    | next => exact z
    | brk => exact z
    | cont => exact z
    | ret u =>
      obtain ⟨v, H2, os, bare, uu, hok, r, q⟩ := z
      have un : Unheld cs H2 := fun c o y => uu.free c o (at_ c o y) (back_in y) (by simp)
      have at2 : ∀ c o, cs c = some o → s'.heap.get? c = some o := fun c o y => uu.keep c o (at_ c o y) (back_in y) (nf c o y) (by simp)
      refine ⟨v, lendH cs H2, os, bare, ⟨fun b o e n nb nx => ?_, fun b o e n hb nx => ?_, fun b o e n nx => ?_, fun b o e nx => uu.there b o e nx, fun b xs e => ?_, fun b o x e => ?_, fun b ps e => ?_⟩, hok_lend hok un at2, r, q⟩
      · exact uu.keep b o e (by rw [back_out (li.off n)]; exact n) nb nx
      · exact uu.slot b o e (by rw [back_out (li.off n)]; exact n) hb nx
      · rw [lend_out (li.off n)]
        exact uu.free b o e (by rw [back_out (li.off n)]; exact n) nx
      · have y := li.other e fun o y => nomatch y
        rw [lend_out y]
        exact uu.tups b xs (by rw [back_out y]; exact e)
      · cases y : cs b with
        | none =>
          rw [lend_out y]
          exact uu.frzs b o x (by rw [back_out y]; exact e)
        | some o2 =>
          rw [lend_in y, ← li b o2 y]
          exact e
      · have y := li.other e fun o y => nomatch y
        rw [lend_out y]
        exact uu.tbls b ps (by rw [back_out y]; exact e)
end
end Rt

/-! Lambdas kept as values: their making, their calls from anywhere, by what is known of their cells. -/
namespace Rt
open PySem PySem.Spec PyProof.Rows L2 Evl LamX NdefX
/-- the object at f is the lambda of these words (F's body is not looked at) -/
def LamO (f : Addr) (F : NF) (e : Expr) : HO := .ext fun h => ∃ (od : Option Addr) (sl : Array (Option Value)) (pm ctv : Value),
  h.get? f = some (⟨.type "function", od, .func (PySem.W.kla_fn F.name F.qual F.params e F.scope F.cl pm (.ref F.c) ctv), sl⟩ : Obj)
theorem lamO_tbl {f : Addr} {F : NF} {e : Expr} (ps : Array Value) : LamO f F e ≠ .tbl ps := fun z => by
  unfold LamO at z
  cases z
theorem lamO_own {f c : Addr} {F : NF} {e : Expr} (o : Obj) : LamO f F e ≠ .frz o (.own c) := fun z => by
  unfold LamO at z
  cases z
theorem codeO_own {a c : Addr} {q : Str} (o : Obj) : CodeO a q ≠ .frz o (.own c) := fun z => by
  unfold CodeO at z
  cases z
theorem lamO_at {P : Program} {w : World} {H : Hp} {h : Heap} {f : Addr} {F : NF} {e : Expr} (ok : HOk P w H h) (z : H f = some (LamO f F e)) : ∃ (od : Option Addr) (sl : Array (Option Value)) (pm ctv : Value),
    h.get? f = some (⟨.type "function", od, .func (PySem.W.kla_fn F.name F.qual F.params e F.scope F.cl pm (.ref F.c) ctv), sl⟩ : Obj) := (ok f _ z).1
/-- what the cells of a frame hold, as far as its slots tell; fr: the names that are looked at -/
structure HeldC (cells : List (Str × Addr)) (fr N : List Str) (σ : L2.St) (H : Hp) : Prop where
  inj : ∀ x y c, cells.lookup x = some c → cells.lookup y = some c → x = y
  has : ∀ y ∈ fr, ∃ c, cells.lookup y = some c
  all : ∀ y c, cells.lookup y = some c → ∃ (o : Obj) (v : Option Value), H c = some (.frz o (.own c)) ∧ o.data = .cell v ∧ (y ∈ fr → ∀ (j : Nat) (x : V), N[j]? = some y → σ[j]? = some (some x) → ∃ u, L2.RelV x u ∧ v = some u)
theorem HeldC.ex {cells : List (Str × Addr)} {fr N : List Str} {σ : L2.St} {H H' : Hp} (h : HeldC cells fr N σ H) (e : Ex H H') : HeldC cells fr N σ H' :=
  ⟨h.inj, h.has, fun y c z => by
    obtain ⟨o, v, h1, h2, h3⟩ := h.all y c z
    exact ⟨o, v, e c _ h1, h2, h3⟩⟩
/-- the cells of a frame, as they stand -/
noncomputable def lentOf (cells : List (Str × Addr)) (h : Heap) : Lent := fun c => by
  classical
  exact if ∃ y, cells.lookup y = some c then h.get? c else none
theorem lentOf_some {cells : List (Str × Addr)} {h : Heap} {c : Addr} {o : Obj} (z : lentOf cells h c = some o) : (∃ y, cells.lookup y = some c) ∧ h.get? c = some o := by
  unfold lentOf at z
  split at z
  · rename_i q
    exact ⟨q, z⟩
  · cases z
theorem lentOf_at {cells : List (Str × Addr)} {h : Heap} {y : Str} {c : Addr} (z : cells.lookup y = some c) : lentOf cells h c = h.get? c := by
  unfold lentOf
  exact if_pos ⟨y, z⟩
section
variable {X : Cx} {pins : List (Addr × Obj)} {σ : L2.St} {H : Hp} {s : Shared} {fr : List Str}
theorem held_un (I : Inv X pins σ H s) : Unheld (lentOf X.env.cells s.heap) H := fun c o z => by
  obtain ⟨⟨y, e⟩, _⟩ := lentOf_some z
  exact I.freeC y c e
theorem held_of (I : Inv X pins σ H s) (hk : ∀ y ∈ fr, X.env.scope.names.lookup y = some .cell ∨ X.env.scope.names.lookup y = some .free) : HeldC X.env.cells fr X.N σ (lendH (lentOf X.env.cells s.heap) H) := by
  refine ⟨I.ok.inj, fun y hy => I.ok.has y (hk y hy), fun y c e => ?_⟩
  obtain ⟨v, o, ho, hd⟩ := I.cell y c e
  refine ⟨o, v, lend_in ((lentOf_at e).trans ho), hd, fun hy j x hj hx => ?_⟩
  obtain ⟨m, _, hl⟩ := I.loc
  have k := hk y hy
  obtain ⟨u, r, l⟩ := hl j y x hj hx (k.elim (fun z => .inr (.inl z)) fun z => .inr (.inr z))
  rcases l with ⟨z, _⟩ | ⟨_, a, ha, o2, ho2, hd2⟩
  · have z' : X.env.scope.names.lookup y = some .local := z
    rcases k with k | k <;> rw [k] at z' <;> cases z'
  · rw [e] at ha
    cases ha
    rw [ho] at ho2
    cases ho2
    rw [hd] at hd2
    cases hd2
    exact ⟨u, r, rfl⟩
theorem held_nb (I : Inv X pins σ H s) (hfn : ∀ y, X.fn y = true) : ∀ c o, lentOf X.env.cells s.heap c = some o → X.base.get? c = none ∧ c ∉ frs X.stack := fun c o z => by
  obtain ⟨⟨y, e⟩, ho⟩ := lentOf_some z
  have ab := I.ok.cab y c (hfn y) e
  refine ⟨?_, fun hm => ?_⟩
  · cases q : X.base.get? c with
    | none => rfl
    | some u => exact absurd (Nat.lt_of_lt_of_le (Heap.lt_size q) (Nat.le_trans I.ok.bsz ab)) (Nat.lt_irrefl _)
  · rcases List.mem_cons.mp (I.stkSub _ hm) with q | q
    · obtain ⟨v, o1, h1, d1⟩ := I.cell y c e
      obtain ⟨m, ⟨o2, es, n, h2, d2, _⟩, _⟩ := I.loc
      rw [← q, h1] at h2
      cases h2
      rw [d1] at d2
      cases d2
    · obtain ⟨_, o2, h2, _⟩ := I.ok.funs.mem q
      exact absurd (Nat.lt_of_lt_of_le (Heap.lt_size h2) ab) (Nat.lt_irrefl _)
end
/-- g(..), the cells of the one who calls lent to it -/
def tCallC (cells : List (Str × Addr)) (fr N : List Str) (sp : Sp) (t : TA) : TE := fun σ H Q => t σ H fun vs H1 => ∀ cs : Lent, Unheld cs H1 → HeldC cells fr N σ (lendH cs H1) → sp vs (lendH cs H1) (fun v H2 => Q v (backH cs H2)) (fun _ _ _ => False)
section
variable {X : Cx} {k : Nat} {f : Addr} {fd : FuncData} {ps fr : List Str} {sp : Sp} {x : Str} {p pos : Pos} {e : Expr} {es : List Expr} {t : TA}
theorem pe_callC (F : FnG X.prog X.w X.K X.mg X.base CX0 k f fd ps sp) (hgd : X.A.guards = some []) (hr : Room k X.A) (hg : Gl X x) (hm : X.mg x = some (.ref f)) (hk : PySem.W.keepIn X.K (.ref f) = true) (hb : Binds X.K fd ps []) (hfn : ∀ y, X.fn y = true)
    (hkd : ∀ y ∈ fr, X.env.scope.names.lookup y = some .cell ∨ X.env.scope.names.lookup y = some .free) (ha : PA X (e :: es) t) (hdb : (x == ("__debug__" : Str)) = false := by decide)
    (he : starEach (e :: es) X.env = (false, eval e X.env) :: starEach es X.env := by rfl) (hpl : (backTo pos (starEach es X.env)).any (·.1) = false := by rfl) : PE X (.Call (.Name x p) (e :: es) [] pos) (tCallC X.env.cells fr X.N sp t) := by
  refine ⟨fun pins s σ H Q I h => ?_⟩
  refine wpAny_Call_Name_kw (ld_glob I hg hm ?_ hdb)
  refine PySem.W.callWith_K (h₀ := X.base) I.ok.mod.kin hk (thn (ha.run pos pins s σ H _ I h) fun us s1 ⟨vs, H1, I1, r, q⟩ => ⟨I1.kIn, ?_⟩) he hpl
  have un := held_un I1
  have nb := held_nb I1 hfn
  have at_ : ∀ c o, lentOf X.env.cells s1.heap c = some o → s1.heap.get? c = some o := fun c o z => (lentOf_some z).2
  have hq := q _ un (held_of I1 hkd)
  have hl : us.length = ps.length := by
    rw [← r.length]
    exact F.ln _ _ _ _ hq
  have bd := hb s1 us I1.kIn (by rw [List.append_nil]; exact hl)
  rw [List.append_nil] at bd
  refine wpAny_call (codeAny_mono (F.go X.A X.stack s1 _ ⟨us, []⟩ us vs _ _ hgd hr (env0_lend I1.env0 un at_ nb) bd r hq) fun z s2 hz => ?_)
  rcases z with er | fl
  · exact (show False from hz).elim
  · cases fl with
    | ret u => exact I1.after (ce_lend un at_ (fun c o y => (nb c o y).2) hz)
    | next => exact False.elim hz
    | brk => exact False.elim hz
    | cont => exact False.elim hz
end
theorem FnG.of {P : Program} {w : World} {K : PySem.W.Frag} {mg : Str → Option Value} {base : Heap} {CX : CXT} {k : Nat} {f : Addr} {fd : FuncData} {ps : List Str} {sp : Sp} (F : FnOk P w K mg base CX k f fd ps sp) : FnG P w K mg base CX k f fd ps sp :=
  ⟨F.len, fun A outer s H args us vs Q E _ => F.run A outer s H args us vs Q E⟩
/-! ### a lambda's call -/
/-- all that is lent in H -/
def heldOf (H : Hp) : Lent := fun c => match H c with
  | some (.frz o (.own b)) => if b = c then some o else none
  | _ => none
theorem heldOf_in (H : Hp) : LentIn (heldOf H) H := fun c o z => by
  unfold heldOf at z
  split at z
  · rename_i o2 b q
    split at z
    · rename_i e
      cases z
      rw [q, e]
    · cases z
  · cases z
theorem heldOf_at {H : Hp} {c : Addr} {o : Obj} (z : H c = some (.frz o (.own c))) : heldOf H c = some o := by
  unfold heldOf
  rw [z]
  exact if_pos rfl
section
variable {P : Program} {w : World} {K : PySem.W.Frag} {mg : Str → Option Value} {base : Heap} {A : Around} {outer : List Env} {s : Shared} {H : Hp} {f : Addr} {F : NF} {e : Expr} {N ps fr frA NA : List Str} {cells : List (Str × Addr)} {σ0 : L2.St} {js : List Nat} {us : List Value} {vs : List V} {k : Nat} {Q : VK} {E : XK}
theorem cells_held (S : NScope N ps fr F.scope) (hcl : F.cl = cloFrom cells F.scope.names []) (hfr : ∀ y ∈ fr, y ∈ frA) (hjs : js.map (fun j => NA[j]?) = fr.map some) (ok : HOk P w H s.heap) (hh : HeldC cells frA NA σ0 H) :
    CellsAt F.cl fr (js.map (slotAt σ0)) s.heap (backH (heldOf H) H) := by
  have hf : ∀ y ∈ F.scope.names, y.2 = .free → ∃ c, cells.lookup y.1 = some c := fun y hy z => hh.has _ (hfr _ (S.free y hy z))
  have sub : ∀ y c, F.cl.lookup y = some c → cells.lookup y = some c := fun y c z => by
    rw [hcl] at z
    exact clo_cm hf z
  refine ⟨?_, fun y c z => ?_, fun x y c h1 h2 => hh.inj x y c (sub x c h1) (sub y c h2), fun i y z => ?_⟩
  · have q := congrArg List.length hjs
    rw [List.length_map, List.length_map] at q
    rw [List.length_map]
    exact q
  · obtain ⟨o, v, h1, h2, _⟩ := hh.all y c (sub y c z)
    exact ⟨back_in (heldOf_at h1), v, o, (ok c _ h1).1, h2⟩
  · have my := List.mem_of_getElem? z
    obtain ⟨c, hc⟩ := hh.has y (hfr y my)
    refine ⟨c, ?_, fun v hv => ?_⟩
    · rw [hcl]
      exact clo_has hf (PySem.mem_of_lookup (S.frk y my)) hc
    · obtain ⟨o, v2, h1, h2, h3⟩ := hh.all y c hc
      have e2 : (js.map fun j => NA[j]?)[i]? = some (some y) := by
        rw [hjs, List.getElem?_map, z]
        rfl
      rw [List.getElem?_map] at e2 hv
      cases ej : js[i]? with
      | none =>
        rw [ej] at e2
        cases e2
      | some j =>
        rw [ej] at e2 hv
        have hj : NA[j]? = some y := Option.some.inj (show some (NA[j]?) = some (some y) from e2)
        have hs : σ0[j]? = some (some v) := slotAt_some (Option.some.inj (show some (slotAt σ0 j) = some (some v) from hv))
        obtain ⟨u, r, rfl⟩ := h3 (hfr y my) j v hj hs
        exact ⟨u, r, o, (ok c _ h1).1, h2⟩
theorem lam_run (S : NScope N ps fr F.scope) (hb : ∀ (pm ctv : Value) (us : List Value), us.length = ps.length → bindArgs (PySem.W.kla_fn F.name F.qual F.params e F.scope F.cl pm (.ref F.c) ctv) ⟨us, []⟩ = pure (ps.zip us)) (hcl : F.cl = cloFrom cells F.scope.names [])
    (hfr : ∀ y ∈ fr, y ∈ frA) (hjs : js.map (fun j => NA[j]?) = fr.map some) (hr : Room (k + 1) A) (e0 : Env0 P w K mg base A outer s H) (hf : H f = some (LamO f F e)) (hc : H F.c = some (CodeO F.c F.qual)) (hh : HeldC cells frA NA σ0 H) (r : Vals vs us) (hl : vs.length = ps.length)
    (hbody : ∀ cs : Lent, LentIn cs H → Room k (A.deeper (envF F f s.heap.objs.size)) → ∃ t, PE (ncx (L2.CX P w) P w K mg base N F f A outer s (backH cs H) (fun c d H2 => E c d (lendH cs H2))) e t ∧ t (startF N vs (js.map (slotAt σ0))) (backH cs H) (fun v H2 => Q v (lendH cs H2))) :
    codeAny (model P w) A (.call (.ref f) ⟨us, []⟩) (CR (L2.CX P w) outer P w H s Q E) s := by
  have li := heldOf_in H
  have nf : ∀ c o, heldOf H c = some o → c ∉ frs outer := fun c o z hm => by
    have q := e0.frf c hm
    rw [li c o z] at q
    cases q
  have C := cells_held (js := js) S hcl hfr hjs e0.hok hh
  have e1 := env0_back e0 li
  have lim : s.heap.NoLimit := e0.mod.nolimit.keeps fun b o z => (e0.bs b o z).1
  obtain ⟨od, sl, pm, ctv, ho⟩ := lamO_at e0.hok hf
  refine codeAny_mono ?_ fun z s2 hz => cr_back li e0.hok nf hz
  refine PySem.W.kla_callFunE hr.depth ho rfl S.co S.gen rfl (codeO_at e0.hok hc) ?_
  rw [hb pm ctv us (by rw [← r.length]; exact hl)]
  refine wpAny_pure (wpAny_newFunctionEnv S.nocell (fun ⟨n, _⟩ hy => S.par n (List.of_mem_zip hy).1) (fun h1 hns hsb => ⟨lim.fresh _ hsb, ?_⟩) S.kind)
  have kp : ∀ b o, s.heap.get? b = some o → h1.get? b = some o := fun b o z => hsb.extBut b o (Nat.ne_of_lt (Heap.lt_size z)) (Heap.get?_push_of_some _ z)
  obtain ⟨t, ht, hq⟩ := hbody _ li (hr.deeper _)
  have I := inv_startN (CX := L2.CX P w) (E := fun c d H2 => E c d (lendH (heldOf H) H2)) (tk := s.toks + (ps.zip us).length) (f := f) S hr.hd e1 hl r C hns kp
  show codeAny _ _ (.expr e (envF F f s.heap.objs.size)) _ _
  refine PySem.W.kla_codeExpr (wpAny_mono (ht.run [] _ _ _ _ I hq) (fun v s2 hz => ?_) fun _ _ hz => hz)
  obtain ⟨v2, H2, J, rv, q⟩ := hz
  exact ⟨v2, H2, J.os, J.bare, J.base, J.hok, rv, q⟩
end
/-- lambdas, by a word of each: what a call of the one at f promises -/
def LamRun (P : Program) (w : World) (K : PySem.W.Frag) (mg : Str → Option Value) (base : Heap) (k : Nat) (M : Addr → Sp) : Prop :=
  ∀ (A : Around) (outer : List Env) (s : Shared) (H : Hp) (f : Addr) (us : List Value) (vs : List V) (Q : VK) (E : XK), Room k A → Env0 P w K mg base A outer s H → Vals vs us → M f vs H Q E → codeAny (model P w) A (.call (.ref f) ⟨us, []⟩) (CR (L2.CX P w) outer P w H s Q E) s
def IsLam (H : Hp) (f : Addr) : Prop := ∃ (F : NF) (e : Expr), H f = some (LamO f F e)
theorem IsLam.ex {H H' : Hp} {f : Addr} (h : IsLam H f) (e : Ex H H') : IsLam H' f := by
  obtain ⟨F, x, z⟩ := h
  exact ⟨F, x, e f _ z⟩
/-- x(..), x a local name that holds a lambda -/
def tCallF (i : Nat) (M : Addr → Sp) (E : L2.St → XK) (t : TA) : TE := fun σ H Q => ∃ f, σ[i]? = some (some (.ref f)) ∧ IsLam H f ∧ t σ H fun vs H1 => IsLam H1 f ∧ M f vs H1 Q (E σ)
section
variable {X : Cx} {k i : Nat} {M : Addr → Sp} {E : L2.St → XK} {x : Str} {p pos : Pos} {e : Expr} {es : List Expr} {t : TA}
theorem lam_fn {pins : List (Addr × Obj)} {σ : L2.St} {H : Hp} {s : Shared} {f : Addr} (I : Inv X pins σ H s) (h : IsLam H f) : PySem.W.FnAt f s.heap := by
  obtain ⟨F, e, z⟩ := h
  obtain ⟨od, sl, pm, ctv, ho⟩ := lamO_at I.hok z
  exact ⟨_, od, _, sl, ho⟩
theorem pe_callF (R : LamRun X.prog X.w X.K X.mg X.base k M) (hr : Room k X.A) (hN : X.N[i]? = some x) (hv : Vis X.env.scope x) (hx : ∀ σ, PassesAt (L2.CX X.prog X.w) X σ (E σ)) (ha : PA X (e :: es) t)
    (hd : (x == ("__debug__" : Str)) = false := by decide) (hcd : (x == ("__classdict__" : Str)) = false := by decide)
    (he : starEach (e :: es) X.env = (false, eval e X.env) :: starEach es X.env := by rfl) (hpl : (backTo pos (starEach es X.env)).any (·.1) = false := by rfl) : PE X (.Call (.Name x p) (e :: es) [] pos) (tCallF i M E t) := by
  refine ⟨fun pins s σ H Q I h => ?_⟩
  obtain ⟨f, hs, hf, ht⟩ := h
  refine wpAny_Call_Name_kw (thn ((pe_var (pos := p) hN hv hd hcd).run pins s σ H (fun v H1 => v = .ref f ∧ H1 = H) I ⟨.ref f, hs, rfl, rfl⟩) fun u s1 ⟨v, H1, I1, r1, q1⟩ => ?_)
  obtain ⟨rfl, rfl⟩ := q1
  cases r1
  refine PySem.W.callWith_F (first := []) (lam_fn I1 hf) (thn (ha.run pos pins s1 σ _ _ I1 ht) fun us s2 ⟨vs, H2, I2, r, h1, q⟩ => ⟨lam_fn I2 h1, ?_⟩) he hpl
  show wpAny _ _ (call (.ref f) us) _ _ _
  refine wpAny_call (codeAny_mono (R X.A X.stack s2 H2 f us vs Q (E σ) hr I2.env0 r q) fun z s3 hz => ?_)
  rcases z with er | fl
  · exact hx σ pins H2 s2 er s3 I2 hz
  · cases fl with
    | ret u => exact I2.after hz
    | next => exact False.elim hz
    | brk => exact False.elim hz
    | cont => exact False.elim hz
end
/-! ### a lambda is made -/
/-- the lambda's words, by the cells of its maker -/
def lamF (q : Str) (params : Arguments) (scope : Scope) (cells : List (Str × Addr)) (c : Addr) : NF := ⟨"<lambda>", q, params, [], scope, cloFrom cells scope.names [], c⟩
/-- all but tables stays, and nothing is forgotten -/
def ExtM (H H' : Hp) : Prop := ExtN H H' ∧ ∀ b, H' b = none → H b = none
def tLamN (T : List (Addr × Str)) (mk : Addr → NF) (e : Expr) : TE := fun _ H Q => Tabs T H ∧ ∀ (f c : Addr) (H1 : Hp), ExtM H H1 → Tabs T H1 → H1 f = some (LamO f (mk c) e) → H1 c = some (CodeO c (mk c).qual) → Q (.ref f) H1
section
variable {X : Cx} {pins : List (Addr × Obj)} {σ : L2.St} {H : Hp} {s : Shared}
theorem inv_lam {q : Str} {params : Arguments} {scope : Scope} {e : Expr} {cl : List (Str × Addr)} {c : Addr} {o : Obj} {t' : Nat} {pm ctv : Value} (I : Inv X pins σ H s) (ho : o = PySem.W.kla_obj "<lambda>" q params e scope (cloFrom cl scope.names []) pm c ctv) :
    Inv X pins σ (upd H s.heap.objs.size (LamO s.heap.objs.size (lamF q params scope cl c) e)) { s with heap := s.heap.push o, toks := t' } := by
  subst ho
  have at_ : (s.heap.push (PySem.W.kla_obj "<lambda>" q params e scope (cloFrom cl scope.names []) pm c ctv)).get? s.heap.objs.size = some (PySem.W.kla_obj "<lambda>" q params e scope (cloFrom cl scope.names []) pm c ctv) := Heap.get?_push_size _ rfl
  refine I.laid (a := s.heap.objs.size) (fun b u z => Heap.get?_push_of_some _ z) (Nat.le_refl _) ?_
  exact ⟨⟨_, _, pm, ctv, at_⟩, ⟨_, at_⟩, fun h1 h2 ⟨od, sl, p, t, z⟩ st => ⟨od, sl, p, t, st _ z⟩⟩
theorem pe_lam {T : List (Addr × Str)} {c P : Addr} {params : Arguments} {body : Expr} {scope : Scope} {pos : Pos} (TB : TabB X.base X.mg c P) (hcode : X.env.code = .ref c) (hm : (P, X.env.qual ++ "<lambda>") ∈ T) (hu : ∀ p ∈ T, p.1 = P → p.2 = X.env.qual ++ "<lambda>")
    (hdef : defaultsOf params X.env = ([], [])) (hfree : ∀ y ∈ scope.names, y.2 = .free → X.env.scope.names.lookup y.1 = some .cell ∨ X.env.scope.names.lookup y.1 = some .free) :
    PE X (.Lambda params body scope pos) (tLamN T (lamF (X.env.qual ++ "<lambda>") params scope X.env.cells) body) := by
  refine ⟨fun pins s σ H Q I h => ?_⟩
  obtain ⟨hT, h⟩ := h
  obtain ⟨ps, hP, ht, ha⟩ := hT _ hm
  have hfr : ∀ y ∈ scope.names, y.2 = .free → ∃ c, X.env.cells.lookup y.1 = some c := fun y hy z => (hfree y hy z).elim (fun k => I.ok.has _ (.inl k)) fun k => I.ok.has _ (.inr k)
  refine PySem.W.kla_eval hdef ?_
  have atP : s.heap.get? P = some { cls := .none, data := .fields ps } := I.hok P _ hP
  cases hc : codeAmong pos ps.toList with
  | none =>
    refine PySem.W.kla_makeFunction (mg := X.mg) (c := c) (P := P) (ps := ps) (closure_ok hfr) I.ok.glob (I.mod.glob.keeps I.bk) hcode (TB.code.keeps I.bk) atP ht hc TB.gP (TB.bm.keeps I.bk) fun c2 ctv h2 tk hx hge hlt hrec htb => ?_
    obtain ⟨c3, oc, vs, t, e3, hoc, hd, hv⟩ := hrec
    cases e3
    have nC : H c2 = none := I.hok.fresh hge
    have eL : (ps ++ #[rawInt pos.line, rawInt pos.col, .ref c2]).toList = ps.toList ++ [rawInt pos.line, rawInt pos.col, .ref c2] := by simp
    have I1 := inv_table (t' := tk) (more := #[rawInt pos.line, rawInt pos.col, .ref c2]) (h' := h2) I hP (fun b o nb z => hx b o nb z) htb hge ⟨oc, vs, t, hoc, hd, hv⟩
    have hE : ExtN H (upd (upd H P (.tbl (ps ++ #[rawInt pos.line, rawInt pos.col, .ref c2]))) c2 (CodeO c2 (X.env.qual ++ "<lambda>"))) := fun b o z n => by
      rw [upd_ne (ne_of_none z nC), upd_ne (fun y => n ps (Option.some.inj (z.symm.trans (by rw [y]; exact hP))))]
      exact z
    have T1 : Tabs T (upd (upd H P (.tbl (ps ++ #[rawInt pos.line, rawInt pos.col, .ref c2]))) c2 (CodeO c2 (X.env.qual ++ "<lambda>"))) := fun p hp => by
      by_cases hb : p.1 = P
      · rw [hu p hp hb, hb]
        refine ⟨_, by rw [upd_ne (ne_of_none hP nC), upd_same], by rw [eL]; exact PySem.TriplesOk_snoc _ _ _ _ ht, fun p2 cv hcv => ?_⟩
        rw [eL] at hcv
        rcases among_app _ ht hcv with z | z
        · obtain ⟨c0, y1, y2⟩ := ha p2 cv z
          exact ⟨c0, y1, hE _ _ y2 codeO_ne⟩
        · exact ⟨c2, z, upd_same⟩
      · obtain ⟨ps2, a1, a2, a3⟩ := hT p hp
        refine ⟨ps2, by rw [upd_ne (ne_of_none a1 nC), upd_ne hb]; exact a1, a2, fun p2 cv hcv => ?_⟩
        obtain ⟨c0, y1, y2⟩ := a3 p2 cv hcv
        exact ⟨c0, y1, hE _ _ y2 codeO_ne⟩
    have nF := I1.hok.fresh (Nat.le_refl _)
    have I2 := inv_lam (q := X.env.qual ++ "<lambda>") (params := params) (scope := scope) (e := body) (cl := X.env.cells) (c := c2) (t' := tk) (pm := (X.mg "__name__").getD .none) (ctv := ctv) I1 rfl
    refine ⟨.ref h2.objs.size, _, I2, rfl, h h2.objs.size c2 _ ⟨fun b o z n => ?_, fun b z => upd_none (upd_none (upd_none z))⟩ (T1.ext fun b o z => ?_) upd_same ?_⟩
    · have z1 := hE b o z n
      exact (upd_ne (ne_of_none z1 nF)).trans z1
    · exact (upd_ne (ne_of_none z nF)).trans z
    · exact (upd_ne (Nat.ne_of_lt hlt)).trans upd_same
  | some cv =>
    obtain ⟨c2, y, hco⟩ := ha pos cv hc
    subst y
    refine PySem.W.kla_makeFunctionHit (mg := X.mg) (c := c) (P := P) (ps := ps) (closure_ok hfr) I.ok.glob (I.mod.glob.keeps I.bk) hcode (TB.code.keeps I.bk) atP ht hc (TB.bm.keeps I.bk) fun ctv h2 tk hx hsz => ?_
    have I1 : Inv X pins σ H { s with heap := h2, toks := tk } := I.kept hx
    have nF : H h2.objs.size = none := I1.hok.fresh (Nat.le_refl _)
    have I2 := inv_lam (q := X.env.qual ++ "<lambda>") (params := params) (scope := scope) (e := body) (cl := X.env.cells) (c := c2) (t' := tk) (pm := (X.mg "__name__").getD .none) (ctv := ctv) I1 rfl
    refine ⟨.ref h2.objs.size, _, I2, rfl, h h2.objs.size c2 _ ⟨fun b o z _ => ?_, fun b z => upd_none z⟩ (hT.ext fun b o z => ?_) upd_same ?_⟩
    · exact (upd_ne (ne_of_none z nF)).trans z
    · exact (upd_ne (ne_of_none z nF)).trans z
    · exact (upd_ne (ne_of_none hco nF)).trans hco
end
end Rt

/-! Values that are no whole numbers, no rows; what stays of them. Lists by a word of their items. -/
namespace Rt
open PySem PySem.Spec PyProof.Rows L2 Evl LamX NdefX
/-- all that is told stays, but tables and what is lent -/
def ExW (H H' : Hp) : Prop := ∀ b u, H b = some u → (∀ ps, u ≠ .tbl ps) → (∀ o c, u ≠ .frz o (.own c)) → H' b = some u
section
variable {K : PySem.W.Frag} {H H' H2 : Hp} {cs : Lent}
theorem ExW.refl (H : Hp) : ExW H H := fun _ _ h _ _ => h
theorem ExW.trans (a : ExW H H') (b : ExW H' H2) : ExW H H2 := fun c u h n m => b c u (a c u h n m) n m
theorem ExW.of (e : Ex H H') : ExW H H' := fun b u h _ _ => e b u h
theorem ExW.ofN (e : ExtN H H') : ExW H H' := fun b u h n _ => e b u h n
theorem exw_back (li : LentIn cs H) : ExW H (backH cs H) := fun b u h _ m => by
  rw [back_out (li.other h fun o => m o b)]
  exact h
theorem exw_rd {a : Addr} {xs : List V} (e : ExW H H') : Rd H a (.lst xs) → Rd H' a (.lst xs)
  | .inl h => .inl (e a _ h (fun _ z => nomatch z) fun _ _ z => nomatch z)
  | .inr ⟨o, h⟩ => .inr ⟨o, e a _ h (fun _ z => nomatch z) fun _ _ z => nomatch z⟩
theorem exw_rdT {a : Addr} {xs : List V} (e : ExW H H') : Rd H a (.tup xs) → Rd H' a (.tup xs)
  | .inl h => .inl (e a _ h (fun _ z => nomatch z) fun _ _ z => nomatch z)
  | .inr ⟨o, h⟩ => .inr ⟨o, e a _ h (fun _ z => nomatch z) fun _ _ z => nomatch z⟩
theorem exw_l {a : Addr} {xs : List V} (e : ExW H H') (h : SqL K H a xs) : SqL K H' a xs := h.elim (fun z => .inl (exw_rd e z)) .inr
theorem exw_t {a : Addr} {xs : List V} (e : ExW H H') (h : SqT K H a xs) : SqT K H' a xs := h.elim (fun z => .inl (exw_rdT e z)) .inr
/-- no whole number -/
inductive NotW (K : PySem.W.Frag) (H : Hp) : V → Prop where
  | non : NotW K H .non
  | str (x : Str) : NotW K H (.str x)
  | bl (b : Bool) : NotW K H (.bl b)
  | lst {a : Addr} {xs : List V} (h : SqL K H a xs) : NotW K H (.ref a)
  | tup {a : Addr} {xs : List V} (h : SqT K H a xs) : NotW K H (.ref a)
  | dic {a : Addr} {kvs : List (Key × V)} (h : H a = some (.dK kvs)) : NotW K H (.ref a)
theorem NotW.exw {x : V} (h : NotW K H x) (e : ExW H H') : NotW K H' x := by
  cases h with
  | non => exact .non
  | str x => exact .str x
  | bl b => exact .bl b
  | lst h => exact .lst (exw_l e h)
  | tup h => exact .tup (exw_t e h)
  | dic h => exact .dic (e _ _ h (fun _ z => nomatch z) fun _ _ z => nomatch z)
theorem NotW.ty {x : V} (h : NotW K H x) : ∃ (n : String) (b1 b2 : Bool), (∀ H1, Ex H H1 → TyX K H1 x (.type n)) ∧ kitB n "int" = some b1 ∧ kitB n "bool" = some b2 ∧ (b1 && !b2) = false := by
  cases h with
  | non => exact ⟨"NoneType", false, false, fun _ _ => .base .non, by decide +kernel, by decide +kernel, rfl⟩
  | str x => exact ⟨"str", false, false, fun _ _ => .base (.str x), by decide +kernel, by decide +kernel, rfl⟩
  | bl b => exact ⟨"bool", true, true, fun _ _ => .base (.bl b), by decide +kernel, by decide +kernel, rfl⟩
  | lst h => exact ⟨"list", false, false, fun _ e => tyx_l (ex_l e h), by decide +kernel, by decide +kernel, rfl⟩
  | tup h => exact ⟨"tuple", false, false, fun _ e => tyx_t (ex_t e h), by decide +kernel, by decide +kernel, rfl⟩
  | dic h => exact ⟨"dict", false, false, fun _ e => .base (.dK (e _ _ h)), by decide +kernel, by decide +kernel, rfl⟩
/-- no list -/
inductive NotL (K : PySem.W.Frag) (H : Hp) : V → Prop where
  | non : NotL K H .non
  | str (x : Str) : NotL K H (.str x)
  | int (i : Int) : NotL K H (.int i)
  | tup {a : Addr} {xs : List V} (h : SqT K H a xs) : NotL K H (.ref a)
  | dic {a : Addr} {kvs : List (Key × V)} (h : H a = some (.dK kvs)) : NotL K H (.ref a)
theorem NotL.exw {x : V} (h : NotL K H x) (e : ExW H H') : NotL K H' x := by
  cases h with
  | non => exact .non
  | str x => exact .str x
  | int i => exact .int i
  | tup h => exact .tup (exw_t e h)
  | dic h => exact .dic (e _ _ h (fun _ z => nomatch z) fun _ _ z => nomatch z)
theorem NotL.ty {x : V} (h : NotL K H x) : ∃ n : String, (∀ H1, Ex H H1 → TyX K H1 x (.type n)) ∧ kitB n "list" = some false := by
  cases h with
  | non => exact ⟨"NoneType", fun _ _ => .base .non, by decide +kernel⟩
  | str x => exact ⟨"str", fun _ _ => .base (.str x), by decide +kernel⟩
  | int i => exact ⟨"int", fun _ _ => .base (.int i), by decide +kernel⟩
  | tup h => exact ⟨"tuple", fun _ e => tyx_t (ex_t e h), by decide +kernel⟩
  | dic h => exact ⟨"dict", fun _ e => .base (.dK (e _ _ h)), by decide +kernel⟩
/-- a whole number out of the bounds, or none -/
def BadNum (K : PySem.W.Frag) (H : Hp) (lo hi : Int) (x : V) : Prop := NotW K H x ∨ ∃ i : Int, x = .int i ∧ (i < lo ∨ hi < i)
theorem BadNum.exw {lo hi : Int} {x : V} (h : BadNum K H lo hi x) (e : ExW H H') : BadNum K H' lo hi x := h.elim (fun z => .inl (z.exw e)) .inr
def Thing (K : PySem.W.Frag) (H : Hp) (x : V) : Prop := NotW K H x ∨ ∃ i : Int, x = .int i
theorem Thing.exw {x : V} (h : Thing K H x) (e : ExW H H') : Thing K H' x := h.elim (fun z => .inl (z.exw e)) .inr
theorem BadNum.thing {lo hi : Int} {x : V} (h : BadNum K H lo hi x) : Thing K H x := h.elim .inl fun ⟨i, e, _⟩ => .inr ⟨i, e⟩
def cardOk : V → Bool
  | .int i => decide (1 ≤ i) && decide (i ≤ 20)
  | _ => false
theorem BadNum.card {x : V} (h : BadNum K H 1 20 x) : cardOk x = false := by
  rcases h with h | ⟨i, rfl, h⟩
  · cases h <;> rfl
  · show (decide (1 ≤ i) && decide (i ≤ 20)) = false
    rcases h with h | h
    · rw [decide_eq_false (show ¬ 1 ≤ i by omega)]
      rfl
    · rw [decide_eq_false (show ¬ i ≤ 20 by omega), Bool.and_false]
/-- no row of cards -/
inductive BadRowV (K : PySem.W.Frag) (H : Hp) : V → Prop where
  | kind {x : V} (h : NotL K H x) : BadRowV K H x
  | size {a : Addr} {xs : List V} (h : SqL K H a xs) (hl : xs.length = 0 ∨ 60 < xs.length) : BadRowV K H (.ref a)
  | card {a : Addr} {xs : List V} (h : SqL K H a xs) (h1 : 1 ≤ xs.length) (h60 : xs.length ≤ 60) (ht : ∀ x ∈ xs, Thing K H x) {y : V} (hy : y ∈ xs) (hb : cardOk y = false) : BadRowV K H (.ref a)
theorem BadRowV.exw {x : V} (h : BadRowV K H x) (e : ExW H H') : BadRowV K H' x := by
  cases h with
  | kind h => exact .kind (h.exw e)
  | size h hl => exact .size (exw_l e h) hl
  | card h h1 h60 ht hy hb => exact .card (exw_l e h) h1 h60 (fun x hx => (ht x hx).exw e) hy hb
end
/-! ### values by a word of them; Jn H H1 H2: what stood in H, and what is new from H1 to H2 -/
def Jn (H H1 H2 : Hp) : Hp := fun b => if (H b).isSome = true then H2 b else if (H1 b).isSome = true then none else H2 b
/-- a word that stays -/
def Mo (W : Hp → V → Prop) : Prop := ∀ H H' x, W H x → Ex H H' → W H' x
section
variable {H H' H1 H2 H3 Hb : Hp} {b L : Addr} {u : HO}
theorem jn_of (h : Jn H H1 H2 b = some u) : H2 b = some u ∧ ((H b).isSome = true ∨ (H b = none ∧ H1 b = none)) := by
  unfold Jn at h
  split at h
  · rename_i q
    exact ⟨h, .inl q⟩
  · rename_i q
    split at h
    · cases h
    · rename_i q2
      exact ⟨h, .inr ⟨by simpa using q, by simpa using q2⟩⟩
theorem jn_in (h : (H b).isSome = true) : Jn H H1 H2 b = H2 b := if_pos h
theorem jn_new (h : H1 b = none) : Jn H H1 H2 b = H2 b := by
  unfold Jn
  rw [h]
  split <;> rfl
theorem jn_ex : Ex (Jn H H1 H2) H2 := fun b u h => (jn_of h).1
theorem jn_base (e : Ex H H2) : Ex H (Jn H H1 H2) := fun b u h => by
  rw [jn_in (by rw [h]; rfl)]
  exact e b u h
theorem jn_self : Jn H H H2 = H2 := by
  funext b
  unfold Jn
  cases H b <;> rfl
theorem jn_right (e : Ex H2 H3) : Ex (Jn H H1 H2) (Jn H H1 H3) := fun b u h => by
  obtain ⟨h1, h2⟩ := jn_of h
  rcases h2 with q | ⟨_, q⟩
  · rw [jn_in q]
    exact e b u h1
  · rw [jn_new q]
    exact e b u h1
theorem jn_left (e : Ex H1 H2) : Ex (Jn H H2 H3) (Jn H H1 H3) := fun b u h => by
  obtain ⟨h1, h2⟩ := jn_of h
  rcases h2 with q | ⟨_, q⟩
  · rw [jn_in q]
    exact h1
  · rw [jn_new (fresh_back e q)]
    exact h1
end
def EvW (te : TE) (σ : L2.St) (H : Hp) (W : Hp → V → Prop) : Prop := ∀ H1, Ex H H1 → ∀ Q : VK, (∀ v H2, Ex H1 H2 → W (Jn H H1 H2) v → Q v H2) → te σ H1 Q
/-- a new list all of whose items keep a word -/
def EvWL (te : TE) (σ : L2.St) (H : Hp) (W : Hp → V → Prop) (n : Nat) : Prop := ∀ H1, Ex H H1 → ∀ Q : VK, (∀ p xs H2, Ex H1 H2 → H1 p = none → H2 p = some (.lst xs) → xs.length = n → (∀ x ∈ xs, W (Jn H H1 H2) x) → Q (.ref p) H2) → te σ H1 Q
def EvWA (ta : TA) (σ : L2.St) (H : Hp) (W : Hp → V → Prop) (n : Nat) : Prop := ∀ H1, Ex H H1 → ∀ Q : List V → Hp → Prop, (∀ vs H2, Ex H1 H2 → vs.length = n → (∀ x ∈ vs, W (Jn H H1 H2) x) → Q vs H2) → ta σ H1 Q
section
variable {K : PySem.W.Frag} {σ : L2.St} {H H' : Hp} {ta tb te tl : TE} {x y z v : V} {W W' : Hp → V → Prop} {n m : Nat} {D : Ends} {tz : TS}
theorem ew_of (h : Ev te σ H v) (w : ∀ H1, Ex H H1 → W H1 v) : EvW te σ H W := fun H1 e Q q => h H1 e Q fun H2 e2 => q v H2 e2 (w _ (jn_base (e.trans e2)))
theorem ew_l {xs : List V} (h : EvL te σ H xs) (w : ∀ p H1, Ex H H1 → H1 p = some (.lst xs) → W H1 (.ref p)) : EvW te σ H W := fun H1 e Q q => h H1 e Q fun p H2 np e2 hp => q (.ref p) H2 e2 (w p _ (jn_base (e.trans e2)) (by rw [jn_new np]; exact hp))
theorem ew_u {xs : List V} (h : EvU te σ H xs) (w : ∀ p H1, Ex H H1 → H1 p = some (.tup xs) → W H1 (.ref p)) : EvW te σ H W := fun H1 e Q q => h H1 e Q fun p H2 np e2 hp => q (.ref p) H2 e2 (w p _ (jn_base (e.trans e2)) (by rw [jn_new np]; exact hp))
theorem ew_d (w : ∀ p H1, H1 p = some (.dK []) → W H1 (.ref p)) : EvW tDNewK σ H W := fun H1 e Q q p hp => q (.ref p) _ (Ex.new hp) (w p _ (by rw [jn_new hp]; exact upd_same))
/-- a new list whose items keep a word, as one value -/
theorem ew_wl (h : EvWL te σ H W n) (w : ∀ p xs H1, H1 p = some (.lst xs) → xs.length = n → (∀ x ∈ xs, W H1 x) → W' H1 (.ref p)) : EvW te σ H W' := fun H1 e Q q => h H1 e Q fun p xs H2 e2 np hp hn hx => q (.ref p) H2 e2 (w p xs _ (by rw [jn_new np]; exact hp) hn hx)
theorem ewa_nil : EvWA tNil σ H W 0 := fun H1 _ _ q => q [] H1 (Ex.refl H1) rfl fun x hx => nomatch hx
theorem ewa_cons {tr : TA} (mo : Mo W) (h : EvW te σ H W) (hr : EvWA tr σ H W n) : EvWA (tCons te tr) σ H W (n + 1) := fun H1 e Q q =>
  h H1 e _ fun v H2 e2 hv => hr H2 (e.trans e2) _ fun vs H3 e3 hn hvs => q (v :: vs) H3 (e2.trans e3) (by rw [List.length_cons, hn]) fun x hx => by
    rcases List.mem_cons.mp hx with rfl | hx
    · exact mo _ _ _ hv (jn_right e3)
    · exact mo _ _ _ (hvs x hx) (jn_left e2)
theorem ewl_lst {tr : TA} (mo : Mo W) (h : EvWA tr σ H W n) (hn : n ≤ 1000) : EvWL (tLst tr) σ H W n := fun H1 e Q q =>
  h H1 e _ fun vs H2 e2 hl hv => ⟨sz_of (by omega), fun p hp => q p vs _ (e2.trans (Ex.new hp)) (fresh_back e2 hp) upd_same hl fun x hx => mo _ _ _ (hv x hx) (jn_right (Ex.new hp))⟩
theorem ewl_cat (mo : Mo W) (h1 : EvWL ta σ H W n) (h2 : EvWL tb σ H W m) (hz : n + m ≤ 1000) : EvWL (tOp rCat ta tb) σ H W (n + m) := fun H1 e Q q =>
  h1 H1 e _ fun p xs H2 e2 np hp hx wx => h2 H2 (e.trans e2) _ fun r ys H3 e3 nr hr hy wy =>
    ⟨p, r, xs, ys, rfl, rfl, e3 p _ hp, hr, sz_of (by omega), fun l hl => q l _ _ ((e2.trans e3).trans (Ex.new hl)) (fresh_back (e2.trans e3) hl) upd_same (by rw [List.length_append, hx, hy]) fun x hx2 => by
      rcases List.mem_append.mp hx2 with h | h
      · exact mo _ _ _ (wx x h) (jn_right (e3.trans (Ex.new hl)))
      · exact mo _ _ _ (wy x h) ((jn_left e2).trans (jn_right (Ex.new hl)))⟩
/-- a list that a name holds, and a new one -/
theorem ewl_cat1 {a : Addr} {xs : List V} (mo : Mo W) (h1 : Ev ta σ H (.ref a)) (ha : H a = some (.lst xs)) (wx : ∀ x ∈ xs, W H x) (h2 : EvWL tb σ H W m) (hn : xs.length = n) (hz : n + m ≤ 1000) : EvWL (tOp rCat ta tb) σ H W (n + m) := fun H1 e Q q =>
  h1 H1 e _ fun H2 e2 => h2 H2 (e.trans e2) _ fun r ys H3 e3 nr hr hy wy =>
    ⟨a, r, xs, ys, rfl, rfl, ((e.trans e2).trans e3) a _ ha, hr, sz_of (by omega), fun l hl => q l _ _ ((e2.trans e3).trans (Ex.new hl)) (fresh_back (e2.trans e3) hl) upd_same (by rw [List.length_append, hn, hy]) fun x hx2 => by
      rcases List.mem_append.mp hx2 with h | h
      · exact mo _ _ _ (wx x h) (jn_base (((e.trans e2).trans e3).trans (Ex.new hl)))
      · exact mo _ _ _ (wy x h) ((jn_left e2).trans (jn_right (Ex.new hl)))⟩
theorem q_asgWL {i : Nat} (h : EvWL te σ H W n) (k : ∀ p xs H1, Ex H H1 → H p = none → H1 p = some (.lst xs) → xs.length = n → (∀ x ∈ xs, W H1 x) → tz D (σ.set i (some (.ref p))) H1) : tSeq (tAsg te (gName i)) tz D σ H :=
  h H (Ex.refl H) _ fun p xs H1 e np hp hn hx => k p xs H1 e np hp hn fun x h1 => by
    have := hx x h1
    rw [jn_self] at this
    exact this
theorem ewl_imp (h : EvWL te σ H W n) (w : ∀ H1 x, W H1 x → W' H1 x) : EvWL te σ H W' n := fun H1 e Q q => h H1 e Q fun p xs H2 e2 np hp hn hx => q p xs H2 e2 np hp hn fun x h => w _ x (hx x h)
/-- what a comprehension has gathered; Hb: what its items lean on -/
def Ww (Hb H1 : Hp) (W : Hp → V → Prop) (L : Addr) (i : Nat) (H' : Hp) : Prop := H1 L = none ∧ Ex H1 H' ∧ ∃ acc, H' L = some (.lst acc) ∧ acc.length = i ∧ ∀ x ∈ acc, W (Jn Hb (upd H1 L (.lst [])) H') x
theorem ww_start {Hb H1 : Hp} {L : Addr} (hL : H1 L = none) : Ww Hb H1 W L 0 (upd H1 L (.lst [])) := ⟨hL, Ex.new hL, [], upd_same, rfl, fun x hx => nomatch hx⟩
theorem ww_turn {Hb H1 : Hp} {L : Addr} {i : Nat} {σ2 : L2.St} (mo : Mo W) (eb : Ex Hb H1) (p : Ww Hb H1 W L i H') (hi : i < 1000) (he : EvW te σ2 Hb W) :
    te σ2 H' fun y H4 => ∃ acc, H4 L = some (.lst acc) ∧ acc.length < sizeLine ∧ Ww Hb H1 W L (i + 1) (upd H4 L (.lst (acc ++ [y]))) := by
  obtain ⟨p1, p2, acc, p3, p4, p5⟩ := p
  have nb : Hb L = none := fresh_back eb p1
  have ne : ∀ (c : Addr) (u : HO), Hb c = some u → c ≠ L := fun c u h z => by
    rw [z, nb] at h
    cases h
  have nL : ∀ c, upd H1 L (.lst []) c = none → c ≠ L := fun c h z => by
    rw [z, upd_same] at h
    cases h
  have n2 : ∀ c, H' c = none → c ≠ L := fun c h z => by
    rw [z, p3] at h
    cases h
  refine he H' (eb.trans p2) _ fun y H4 e4 hy => ⟨acc, e4 L _ p3, sz_lt (by omega), p1, Ex.mut (p2.trans e4) p1, acc ++ [y], upd_same, by rw [List.length_append, p4]; rfl, fun x hx => ?_⟩
  rcases List.mem_append.mp hx with h | h
  · refine mo _ _ _ (p5 x h) fun c u hc => ?_
    obtain ⟨h1, h2⟩ := jn_of hc
    rcases h2 with q | ⟨_, q⟩
    · obtain ⟨w, hw⟩ := Option.isSome_iff_exists.mp q
      rw [jn_in q, upd_ne (ne c w hw)]
      exact e4 c u h1
    · rw [jn_new q, upd_ne (nL c q)]
      exact e4 c u h1
  · rw [List.mem_singleton.mp h]
    refine mo _ _ _ hy fun c u hc => ?_
    obtain ⟨h1, h2⟩ := jn_of hc
    rcases h2 with q | ⟨_, q⟩
    · obtain ⟨w, hw⟩ := Option.isSome_iff_exists.mp q
      rw [jn_in q, upd_ne (ne c w hw)]
      exact h1
    · have q2 : upd H1 L (.lst []) c = none := by
        rw [upd_ne (n2 c q)]
        exact fresh_back p2 q
      rw [jn_new q2, upd_ne (n2 c q)]
      exact h1
theorem ww_end {H0 Hb H1 : Hp} {L : Addr} {i : Nat} {Q : VK} (mo : Mo W) (e1 : Ex H0 H1) (hb : ∀ c u, Hb c = some u → (H c).isSome = true ∨ H0 c = none) (p : Ww Hb H1 W L i H') (q : ∀ p xs H2, Ex H0 H2 → H0 p = none → H2 p = some (.lst xs) → xs.length = i → (∀ x ∈ xs, W (Jn H H0 H2) x) → Q (.ref p) H2) : Q (.ref L) H' := by
  obtain ⟨p1, p2, acc, p3, p4, p5⟩ := p
  refine q L acc H' (e1.trans p2) (fresh_back e1 p1) p3 p4 fun x hx => mo _ _ _ (p5 x hx) fun c u hc => ?_
  obtain ⟨h1, h2⟩ := jn_of hc
  rcases h2 with q | ⟨_, q⟩
  · obtain ⟨w, hw⟩ := Option.isSome_iff_exists.mp q
    rcases hb c w hw with z | z
    · rw [jn_in z]
      exact h1
    · rw [jn_new z]
      exact h1
  · have nL : c ≠ L := fun z => by
      rw [z, upd_same] at q
      cases q
    rw [upd_ne nL] at q
    rw [jn_new (fresh_back e1 q)]
    exact h1
/-- [e for x in xs], xs new, its items by a word -/
theorem ewl_mapL {j : Nat} {vs : List Nat} (mo : Mo W) (mo2 : Mo W') (h : EvWL tl σ H W n) (hn : n ≤ 1000) (he : ∀ x Hb, Ex H Hb → W Hb x → EvW te ((wipe σ vs).set j (some x)) Hb W') (hw : ∀ x, wipe ((wipe σ vs).set j (some x)) vs = wipe σ vs := by intro _; rfl) :
    EvWL (tLc (iList K tl) (gName j) tYes te vs) σ H W' n := fun H0 e Q q =>
  h H0 e _ fun a xs H1 e1 na ha hxs wx => ⟨a, rfl, ⟨xs, sq_of ha⟩, fun L hL => lc_list (xs := xs) (Ww (Jn H H0 H1) H1 W' L) (ww_start hL) (fun i H' _ p => sq_of (p.2.1 a _ ha)) (fun i x H' hi p =>
      ⟨hw x, ww_turn mo2 jn_ex p (by have := (List.getElem?_eq_some_iff.mp hi).1; omega) (he x _ (jn_base (e.trans e1)) (wx x (List.mem_of_getElem? hi)))⟩)
    (fun H' p => ww_end (H := H) mo2 e1 (fun c u hc => (jn_of hc).2.imp id fun z => z.2) (by rw [← hxs]; exact p) q)⟩
/-- [e for x in (a, b, ..)] -/
theorem ewl_mapU {xs : List V} {j : Nat} {vs : List Nat} (mo2 : Mo W') (h : EvU tl σ H xs) (hn : xs.length ≤ 1000) (he : ∀ x ∈ xs, EvW te ((wipe σ vs).set j (some x)) H W') (hw : ∀ x, wipe ((wipe σ vs).set j (some x)) vs = wipe σ vs := by intro _; rfl) :
    EvWL (tLc (iTup K tl) (gName j) tYes te vs) σ H W' xs.length := fun H0 e Q q =>
  h H0 e _ fun a H1 na e1 ha => ⟨a, rfl, ⟨xs, st_of ha⟩, fun L hL => lc_tup (xs := xs) (Ww H H1 W' L) (ww_start hL) (fun i H' _ p => st_of (p.2.1 a _ ha)) (fun i x H' hi p =>
      ⟨hw x, ww_turn mo2 (e.trans e1) p (by have := (List.getElem?_eq_some_iff.mp hi).1; omega) (he x (List.mem_of_getElem? hi))⟩)
    (fun H' p => ww_end (H := H) mo2 e1 (fun c u hc => .inl (by rw [hc]; rfl)) p q)⟩
/-- a def that tells a new list by a word of its items -/
def RetWL (W : Hp → V → Prop) (n : Nat) (H : Hp) (Q : VK) : Prop := ∀ p xs H2, Ex H H2 → H p = none → H2 p = some (.lst xs) → xs.length = n → (∀ x ∈ xs, W (New H H2) x) → Q (.ref p) H2
def SpWL (sp : Sp) (vs : List V) (H : Hp) (W : Hp → V → Prop) (n : Nat) : Prop := ∀ H1, Ex H H1 → ∀ Q : VK, RetWL W n H1 Q → ∀ E : XK, sp vs H1 Q E
theorem s_retWL (mo : Mo W) (h : EvWL te σ (fun _ => none) W n) (k : RetWL W n H D.rt) : tRet te D σ H :=
  h H (fun b u z => nomatch z) _ fun p xs H1 e1 np hp hn hx => k p xs H1 e1 np hp hn fun x hx2 => mo _ _ _ (hx x hx2) fun c u hc => by
    obtain ⟨h1, h2⟩ := jn_of hc
    rcases h2 with z | ⟨_, z⟩
    · cases z
    · rw [new_at z]
      exact h1
theorem ewl_call {sp : Sp} {dvs vs : List V} {E : XK} {tr : TA} (mo : Mo W) (h : EvA tr σ H vs) (hs : SpWL sp (vs ++ dvs) H W n) : EvWL (tCall sp dvs E tr) σ H W n := fun H1 e Q q =>
  h H1 e _ fun H2 e2 => hs H2 (e.trans e2) Q (fun p xs H3 e3 np hp hn hx => q p xs H3 (e2.trans e3) (fresh_back e2 np) hp hn fun x h => mo _ _ _ (hx x h) fun c u hc => by
    cases z : H2 c with
    | some o =>
      rw [new_old z] at hc
      cases hc
    | none =>
      rw [new_at z] at hc
      rw [jn_new (fresh_back e2 z)]
      exact hc) E
end
end Rt

/-! Defs called within an except suite, with what is known of the handled exception; isinstance of it there. -/
namespace Rt
open PySem PySem.Spec PyProof.Rows L2 Evl LamX NdefX L2H
/-- the promise of a def that is called while p's exception is handled -/
structure FnP (P : Program) (w : World) (K : PySem.W.Frag) (mg : Str → Option Value) (base : Heap) (k : Nat) (f : Addr) (fd : FuncData) (ps : List Str) (sp : Addr × Obj → Sp) : Prop where
  ln : ∀ p vs H Q E, sp p vs H Q E → vs.length = ps.length
  go : ∀ (A : Around) (outer : List Env) (s : Shared) (H : Hp) (args : Args) (us : List Value) (vs : List V) (Q : VK) (E : XK) (p : Addr × Obj), RoomH k A → PinOk outer H s p → Env0 P w K mg base A outer s H → BindsTo s fd args (ps.zip us) → Vals vs us → sp p vs H Q E →
    codeAny (model P w) A (.call (.ref f) args) (CR CX0 outer P w H s Q E) s
section
variable {P : Program} {w : World} {K : PySem.W.Frag} {mg : Str → Option Value} {base : Heap}
theorem Fun.okP {nm qual : Str} {st : Stmt} {f : Addr} {fd : FuncData} {N ps : List Str} {k : Nat} {sp : Addr × Obj → Sp} (F : Fun K nm qual st f fd) (S : FnScope N ps (defScope st))
    (ln : ∀ p vs H Q E, sp p vs H Q E → vs.length = ps.length)
    (hb : ∀ (cv : Value) (A : Around) (outer : List Env) (s : Shared) (H : Hp) (vs : List V) (Q : VK) (E : XK) (p : Addr × Obj),
      RoomH k (A.deeper (envOfC qual (defScope st) s.heap.objs.size f cv)) → sp p vs H Q E →
      ∃ t, PSs (cxH CX0 P w K mg base N qual (defScope st) f cv A outer s H E p).nox (defBody st) t ∧ t { nx := fun _ H' => Q .non H', rt := Q } (start N vs) H) :
    FnP P w K mg base (k + 1) f fd ps sp := by
  obtain ⟨oc, od, kV, doc, pm, an, cv, ct, osl, rfl, lk, hcd⟩ := F.ex
  refine ⟨ln, ?_⟩
  intro A outer s H args us vs Q E p room pin e0 hbd rel hsp
  have hlen := ln _ _ _ _ _ hsp
  have kept := fun (b : Addr) (o : Obj) (e : base.get? b = some o) => (e0.bs b o e).1
  have KX : K.In s.heap := e0.mod.kin.keeps kept
  have kinds : ∀ y ∈ ps.zip us, (defScope st).names.lookup y.1 = some .local ∨
      ((defScope st).names.lookup y.1 = some .cell ∧ ((cellsFrom (s.heap.objs.size + 1) (defScope st).names []).lookup y.1).isSome = true) := by
    rintro ⟨n, v⟩ hy
    rcases S.par n (List.of_mem_zip hy).1 with z | z
    · exact .inl z
    · exact .inr ⟨z, PySem.W.cellsFrom_some _ _ _ (.inl z)⟩
  refine codeAny_call_function room.depth (KX _ _ lk) rfl S.co S.gen rfl (PySem.W.codeRec_of KX hcd) (hbd _ _ _ _ ?_)
  refine wpAny_newFunctionEnv_cells S.kind kinds ?_
  rintro env rfl s1 inC
  refine ⟨(e0.mod.nolimit.keeps kept).keeps inC.toInCall.keep, codeAny_func ?_⟩
  obtain ⟨t, hd, hq⟩ := hb cv A outer s H vs Q E p (room.deeper _) hsp
  have I := inv_startH (CX := CX0) (P := P) (w := w) (E := E) S pin e0 hlen rel inC
  refine wpAny_mono (hd.nox.run [] s1 (start N vs) H _ I hq) ?_ (fun _ _ z => z)
  intro fl s2 out
  cases fl with
  | next =>
    obtain ⟨_, H2, J, q⟩ := out
    exact ⟨.non, H2, J.os, J.bare, J.base, J.hok, rfl, q⟩
  | ret u =>
    obtain ⟨v, _, H2, J, rv, q⟩ := out
    exact ⟨v, H2, J.os, J.bare, J.base, J.hok, rv, q⟩
  | brk => exact out.elim fun _ z => z.elim fun _ y => y.2.elim
  | cont => exact out.elim fun _ z => z.elim fun _ y => y.2.elim
end
/-- by what is known of the exception: its class, its dict, its address -/
def spOn (sp : Value → Option Addr → Addr → Sp) : Addr × Obj → Sp := fun p vs H Q E => ∃ cls d, Zc cls d p.2 ∧ (∃ fs, p.2.data = .fields fs) ∧ sp cls d p.1 vs H Q E
def tCallP (sp : Value → Option Addr → Addr → Sp) (cls : Value) (d : Option Addr) (a : Addr) (t : TA) : TE := fun σ H Q => t σ H fun vs H1 => sp cls d a vs H1 Q (fun _ _ _ => False)
section
variable {X : Cx} {k : Nat} {f a : Addr} {fd : FuncData} {ps : List Str} {sp : Value → Option Addr → Addr → Sp} {x : Str} {p pos : Pos} {e : Expr} {es : List Expr} {t : TA} {cls : Value} {d : Option Addr} {oe : Obj} {pn : List (Addr × Obj)}
theorem pe_callP (F : FnP X.prog X.w X.K X.mg X.base k f fd ps (spOn sp)) (hr : Room k X.A) (hz : Zc cls d oe) (hf : ∃ fs, oe.data = .fields fs) (hg : Gl X x) (hm : X.mg x = some (.ref f)) (hk : PySem.W.keepIn X.K (.ref f) = true) (hb : Binds X.K fd ps [])
    (ha : PA (X.suite a ((a, oe) :: pn)) (e :: es) t) (hdb : (x == ("__debug__" : Str)) = false := by decide)
    (he : starEach (e :: es) X.env = (false, eval e X.env) :: starEach es X.env := by rfl) (hpl : (backTo pos (starEach es X.env)).any (·.1) = false := by rfl) :
    PE (X.suite a ((a, oe) :: pn)) (.Call (.Name x p) (e :: es) [] pos) (tCallP sp cls d a t) := by
  refine ⟨fun pins s σ H Q I h => ?_⟩
  refine wpAny_Call_Name_kw (ld_glob (X := X.suite a ((a, oe) :: pn)) I hg hm ?_ hdb)
  refine PySem.W.callWith_K (h₀ := X.base) I.ok.mod.kin hk (thn (ha.run pos pins s σ H _ I h) fun us s1 ⟨vs, H1, I1, r, q⟩ => ⟨I1.kIn, ?_⟩) he hpl
  have P1 := I1.pin (a, oe) (List.mem_append_left _ List.mem_cons_self)
  have pin : PinOk (X.suite a ((a, oe) :: pn)).stack H1 s1 (a, oe) := ⟨P1.1, P1.2.1, fun hm => (List.mem_cons.mp (I1.stkSub a hm)).elim P1.2.2.1 P1.2.2.2.1, P1.2.2.2.2⟩
  have hq : spOn sp (a, oe) vs H1 Q (fun _ _ _ => False) := ⟨cls, d, hz, hf, q⟩
  have hl : us.length = ps.length := by
    rw [← r.length]
    exact F.ln _ _ _ _ _ hq
  have bd := hb s1 us I1.kIn (by rw [List.append_nil]; exact hl)
  rw [List.append_nil] at bd
  have rm : RoomH k (X.suite a ((a, oe) :: pn)).A := ⟨hr.dp, hr.un⟩
  refine wpAny_call (codeAny_mono (F.go _ _ s1 H1 ⟨us, []⟩ us vs Q _ (a, oe) rm pin I1.env0 bd r hq) fun z s2 hz => ?_)
  rcases z with er | fl
  · exact (show False from hz).elim
  · cases fl with
    | ret u => exact I1.after hz
    | next => exact False.elim hz
    | brk => exact False.elim hz
    | cont => exact False.elim hz
/-- isinstance of the handled exception, where it is known by its pin -/
theorem call_isP {D : Addr} {oe : Obj} (mem : (a, oe) ∈ X.pn) (C : ExcC X.K D) (hz : Zc (.ref D) none oe) (hf : ∃ fs, oe.data = .fields fs) : CallR X (.builtin "isinstance") (rIsE X.K D a) := by
  intro pins s σ H xs us Q I r h
  obtain ⟨c, cv, b, rfl, hcv, e, q⟩ := h
  obtain ⟨u1, u2, rfl, r1, r2⟩ := vals2 r
  cases r1
  have ec := hcv _ r2
  subst ec
  have got := (I.pin (a, oe) (List.mem_append_left _ mem)).1
  obtain ⟨fs, hv⟩ := hf
  have J : PySem.W.InstAt s.heap a oe D none := by
    obtain ⟨oc, od, oda, osl⟩ := oe
    obtain ⟨h1, h2⟩ := hz
    dsimp only at h1 h2 hv
    subst h1 h2 hv
    exact ⟨got, rfl, rfl, trivial⟩
  exact PySem.W.kia_one (PySem.W.handS_kitx_exc C.hg C.hk C.hs C.hd C.ha C.hn C.ht C.hm) I.kIn J e (fun z => nomatch z) fun tk => ⟨.bl b, H, I.kept (t' := tk) fun _ _ z => z, rfl, q⟩
end
theorem kit_bi {K : PySem.W.Frag} {C : Addr} {t : String} (hm : PySem.W.kitMeta t = true) (hs : PySem.W.subIn K (.ref C) (.type t) = some true) : PySem.W.kitOne K (.ref C) (.type t) = some true := by
  unfold PySem.W.kitOne
  split
  · rfl
  · show (if PySem.W.kitMeta t = true then PySem.W.subIn K (.ref C) (.type t) else none) = some true
    rw [if_pos hm]
    exact hs
section
variable {K : PySem.W.Frag} {σ : L2.St} {H : Hp} {te ta : TE}
theorem ev_isE {D a : Addr} {c : V} {cv : Value} {b : Bool} (h : Ev ta σ H (.ref a)) (h2 : Ev te σ H c) (hc : ∀ u, L2.RelV c u → u = cv) (hk : PySem.W.kitOne K (.ref D) cv = some b) : Ev (tCB (rIsE K D a) (tCons ta (tCons te tNil))) σ H (.bl b) := fun H1 e Q q =>
  h H1 e _ fun H2 e2 => h2 H2 (e.trans e2) _ fun H3 e3 => ⟨c, cv, b, rfl, hc, hk, q H3 (e2.trans e3)⟩
end
end Rt

/-! Lists of lambdas: where they stand in the text, how a def makes them. -/
namespace Rt
open PySem PySem.Spec PyProof.Rows L2 Evl LamX NdefX
/-! ### places in the text -/
def noE : Expr := .Constant .none 0 ⟨0, 0, 0, 0⟩
def stE : Stmt → Expr
  | .Assign (value := v) .. => v
  | .Expr (value := v) .. => v
  | .If (test := v) .. => v
  | .Return (value := some v) .. => v
  | _ => noE
def stB : Stmt → List Stmt
  | .For (body := b) .. => b
  | .If (body := b) .. => b
  | _ => []
def stN (l : List Stmt) (n : Nat) : Stmt := l.getD n (.Pass ⟨0, 0, 0, 0⟩)
def exN (n : Nat) : Expr → Expr
  | .List (elts := l) .. => l.getD n noE
  | .Call (args := l) .. => l.getD n noE
  | .BinOp (left := a) (right := b) .. => if n = 0 then a else b
  | .UnaryOp (operand := a) .. => a
  | _ => noE
def lamA : Expr → Arguments
  | .Lambda (args := a) .. => a
  | _ => ⟨[], [], none, [], [], none, []⟩
def lamB : Expr → Expr
  | .Lambda (body := b) .. => b
  | _ => noE
def lamS : Expr → Scope
  | .Lambda (scope := s) .. => s
  | _ => ⟨.function, [], false, false, []⟩
/-! ### lambdas in lists -/
abbrev LamK := (Addr → NF) × Expr
def LamW (k : LamK) (H : Hp) (v : V) : Prop := ∃ f c : Addr, v = .ref f ∧ H f = some (LamO f (k.1 c) k.2) ∧ H c = some (CodeO c (k.1 c).qual)
theorem LamW.exw {k : LamK} {H H' : Hp} {v : V} (h : LamW k H v) (e : ExW H H') : LamW k H' v := by
  obtain ⟨f, c, rfl, h1, h2⟩ := h
  exact ⟨f, c, rfl, e f _ h1 lamO_tbl fun o _ => lamO_own o, e c _ h2 codeO_ne fun o _ => codeO_own o⟩
def LamsAt (H : Hp) (vs : List V) (ks : List LamK) : Prop := vs.length = ks.length ∧ ∀ v ∈ vs, ∃ k ∈ ks, LamW k H v
theorem LamsAt.exw {H H' : Hp} {vs : List V} {ks : List LamK} (h : LamsAt H vs ks) (e : ExW H H') : LamsAt H' vs ks := ⟨h.1, fun v hv => by
  obtain ⟨k, hk, w⟩ := h.2 v hv
  exact ⟨k, hk, w.exw e⟩⟩
theorem LamsAt.app {H : Hp} {vs us : List V} {ks js : List LamK} (h : LamsAt H vs ks) (g : LamsAt H us js) : LamsAt H (vs ++ us) (ks ++ js) := ⟨by rw [List.length_append, List.length_append, h.1, g.1], fun v hv => by
  rcases List.mem_append.mp hv with z | z
  · obtain ⟨k, hk, w⟩ := h.2 v z
    exact ⟨k, List.mem_append_left _ hk, w⟩
  · obtain ⟨k, hk, w⟩ := g.2 v z
    exact ⟨k, List.mem_append_right _ hk, w⟩⟩
theorem ExtM.refl (H : Hp) : ExtM H H := ⟨ExtN.refl H, fun _ h => h⟩
theorem ExtM.trans {H H1 H2 : Hp} (a : ExtM H H1) (b : ExtM H1 H2) : ExtM H H2 := ⟨a.1.trans b.1, fun c h => a.2 c (b.2 c h)⟩
theorem ExtM.of {H H' : Hp} (e : Ex H H') : ExtM H H' := ⟨ExtN.of e, fun _ h => fresh_back e h⟩
def EvLm (T : List (Addr × Str)) (ta : TA) (σ : L2.St) (ks : List LamK) : Prop := ∀ H, Tabs T H → ∀ Q : List V → Hp → Prop, (∀ vs H2, ExtM H H2 → Tabs T H2 → LamsAt H2 vs ks → Q vs H2) → ta σ H Q
/-- a list of lambdas, new or not -/
def EvLL (T : List (Addr × Str)) (te : TE) (σ : L2.St) (H : Hp) (ks : List LamK) : Prop := ∀ H1, ExtM H H1 → Tabs T H1 → ∀ Q : VK, (∀ p vs H2, ExtM H1 H2 → Tabs T H2 → H2 p = some (.lst vs) → LamsAt H2 vs ks → Q (.ref p) H2) → te σ H1 Q
section
variable {K : PySem.W.Frag} {T : List (Addr × Str)} {σ : L2.St} {H H' : Hp} {te : TE} {ta : TA} {ks js : List LamK} {D : Ends} {tz : TS}
theorem lst_tbl {xs : List V} (ps : Array Value) : HO.lst xs ≠ .tbl ps := fun z => nomatch z
theorem lm_nil : EvLm T tNil σ [] := fun H hT Q q => q [] H (ExtM.refl H) hT ⟨rfl, fun v hv => nomatch hv⟩
theorem lm_cons {mk : Addr → NF} {e : Expr} (h : EvLm T ta σ ks) : EvLm T (tCons (tLamN T mk e) ta) σ ((mk, e) :: ks) := fun H hT Q q => ⟨hT, fun f c H1 e1 T1 hf hc => h H1 T1 _ fun vs H2 e2 T2 hl => by
  refine q (.ref f :: vs) H2 (e1.trans e2) T2 ⟨by rw [List.length_cons, List.length_cons, hl.1], fun v hv => ?_⟩
  rcases List.mem_cons.mp hv with rfl | z
  · exact ⟨_, List.mem_cons_self, f, c, rfl, e2.1 f _ hf lamO_tbl, e2.1 c _ hc codeO_ne⟩
  · obtain ⟨k, hk, w⟩ := hl.2 v z
    exact ⟨k, List.mem_cons_of_mem _ hk, w⟩⟩
theorem tabs_new {p : Addr} {o : HO} (hT : Tabs T H) (hp : H p = none) : Tabs T (upd H p o) := hT.ext fun b u h => by
  rw [upd_ne (ne_of_none h hp)]
  exact h
theorem ll_lst (h : EvLm T ta σ ks) (hn : ks.length ≤ 1000) : EvLL T (tLst ta) σ H ks := fun H1 _ T1 Q q =>
  h H1 T1 _ fun vs H2 e2 T2 hl => ⟨sz_of (by rw [hl.1]; omega), fun p hp => q p vs _ (e2.trans (ExtM.of (Ex.new hp))) (tabs_new T2 hp) upd_same (hl.exw (ExW.of (Ex.new hp)))⟩
theorem ll_var {i : Nat} {p : Addr} {vs : List V} (h : σ[i]? = some (some (.ref p))) (hp : H p = some (.lst vs)) (hl : LamsAt H vs ks) : EvLL T (tVar i) σ H ks := fun H1 e1 T1 Q q => ⟨_, h, q p vs H1 (ExtM.refl H1) T1 (e1.1 p _ hp lst_tbl) (hl.exw (ExW.ofN e1.1))⟩
theorem ll_cat {tf : TE} (h1 : EvLL T tf σ H ks) (h2 : EvLL T te σ H js) (hn : ks.length + js.length ≤ 1000) : EvLL T (tOp rCat tf te) σ H (ks ++ js) := fun H1 e1 T1 Q q =>
  h1 H1 e1 T1 _ fun p vs H2 e2 T2 hp hl => h2 H2 (e1.trans e2) T2 _ fun r us H3 e3 T3 hr hm =>
    ⟨p, r, vs, us, rfl, rfl, e3.1 p _ hp lst_tbl, hr, sz_of (by rw [hl.1, hm.1]; omega), fun l hn => q l _ _ ((e2.trans e3).trans (ExtM.of (Ex.new hn))) (tabs_new T3 hn) upd_same (((hl.exw (ExW.ofN e3.1)).app hm).exw (ExW.of (Ex.new hn)))⟩
theorem q_asgLm {i : Nat} (hT : Tabs T H) (h : EvLL T te σ H ks) (k : ∀ p vs H1, ExtM H H1 → Tabs T H1 → H1 p = some (.lst vs) → LamsAt H1 vs ks → tz D (σ.set i (some (.ref p))) H1) : tSeq (tAsg te (gName i)) tz D σ H := h H (ExtM.refl H) hT _ k
/-- the list written there: it is new -/
theorem q_asgLn {i : Nat} (hT : Tabs T H) (h : EvLm T ta σ ks) (hn : ks.length ≤ 1000) (k : ∀ p vs H1, H p = none → ExtM H H1 → Tabs T H1 → H1 p = some (.lst vs) → LamsAt H1 vs ks → tz D (σ.set i (some (.ref p))) H1) : tSeq (tAsg (tLst ta) (gName i)) tz D σ H :=
  h H hT _ fun vs H2 e2 T2 hl => ⟨sz_of (by rw [hl.1]; omega), fun p hp => k p vs _ (e2.2 p hp) (e2.trans (ExtM.of (Ex.new hp))) (tabs_new T2 hp) upd_same (hl.exw (ExW.of (Ex.new hp)))⟩
/-- xs.append(lambda ..) -/
theorem q_appLm {H0 : Hp} {i : Nat} {p : Addr} {vs : List V} {mk : Addr → NF} {e : Expr} (hT : Tabs T H) (h : σ[i]? = some (some (.ref p))) (e0 : ExtM H0 H) (n0 : H0 p = none) (hp : H p = some (.lst vs)) (hl : LamsAt H vs ks) (hn : ks.length < 1000)
    (k : ∀ us H1, ExtM H0 H1 → Tabs T H1 → H1 p = some (.lst us) → LamsAt H1 us (ks ++ [(mk, e)]) → tz D σ H1) :
    tSeq (tDrop (tBM K "list" rAppend (tVar i) (tCons (tLamN T mk e) tNil))) tz D σ H := by
  refine ⟨.ref p, h, .inl ⟨rfl, vs, sq_of hp⟩, hT, fun f c H1 e1 T1 hf hc => ?_⟩
  have hp1 := e1.1 p _ hp lst_tbl
  have ne : ∀ b o, H1 b = some o → (∀ xs, o ≠ .lst xs) → b ≠ p := fun b o z d y => by
    rw [y, hp1] at z
    exact d _ (Option.some.inj z).symm
  have lamL : ∀ {f : Addr} {F : NF} {x : Expr} (xs : List V), LamO f F x ≠ .lst xs := fun xs z => by
    unfold LamO at z
    cases z
  have codL : ∀ {f : Addr} {q : Str} (xs : List V), CodeO f q ≠ .lst xs := fun xs z => by
    unfold CodeO at z
    cases z
  have old : ∀ {k : LamK} {v : V}, LamW k H1 v → LamW k (upd H1 p (.lst (vs ++ [.ref f]))) v := fun {k v} ⟨f2, c2, ev, w1, w2⟩ => ⟨f2, c2, ev, by rw [upd_ne (ne f2 _ w1 lamL)]; exact w1, by rw [upd_ne (ne c2 _ w2 codL)]; exact w2⟩
  refine ⟨p, vs, .ref f, rfl, rfl, hp1, sz_lt (by rw [hl.1]; omega), k (vs ++ [.ref f]) _ ⟨fun b o z d => ?_, fun b z => ?_⟩ (fun q hq => ?_) upd_same ⟨?_, fun v hv => ?_⟩⟩
  · have nb : b ≠ p := ne_of_none z n0
    rw [upd_ne nb]
    exact e1.1 b o (e0.1 b o z d) d
  · exact e0.2 b (e1.2 b (upd_none z))
  · obtain ⟨ps, a1, a2, a3⟩ := T1 q hq
    refine ⟨ps, by rw [upd_ne (ne q.1 _ a1 fun xs z => nomatch z)]; exact a1, a2, fun pos cv hcv => ?_⟩
    obtain ⟨c0, y1, y2⟩ := a3 pos cv hcv
    exact ⟨c0, y1, by rw [upd_ne (ne c0 _ y2 codL)]; exact y2⟩
  · rw [List.length_append, List.length_append, hl.1]
    rfl
  · rcases List.mem_append.mp hv with z | z
    · obtain ⟨k2, hk, w⟩ := hl.2 v z
      exact ⟨k2, List.mem_append_left _ hk, old (w.exw (ExW.ofN e1.1))⟩
    · rw [List.mem_singleton.mp z]
      exact ⟨(mk, e), List.mem_append_right _ (List.mem_singleton.mpr rfl), old ⟨f, c, rfl, hf, hc⟩⟩
/-- for x in [..], what stood at the loop's start stays but for tables -/
theorem q_forM {tu : TS} {tl : TE} {j : Nat} {xs : List V} (h : EvL tl σ H xs) (Pv : Hp → Nat → L2.St → Hp → Prop) (h0 : ∀ H1, Ex H H1 → Pv H1 0 σ H1) (hx : ∀ H1 i σ' H', Pv H1 i σ' H' → ExtM H1 H')
    (hs : ∀ H1, Ex H H1 → ∀ i x σ' H', xs[i]? = some x → Pv H1 i σ' H' → tu { D with nx := Pv H1 (i + 1), ct := Pv H1 (i + 1), bk := tz D } (σ'.set j (some x)) H')
    (hd : ∀ H1, Ex H H1 → ∀ σ' H', Pv H1 xs.length σ' H' → tz D σ' H') : tSeq (tFor (iList K tl) (gName j) tu) tz D σ H :=
  h H (Ex.refl H) _ fun p H1 np e hp => ⟨p, rfl, ⟨xs, sq_of hp⟩, for_list (D := { D with nx := tz D }) (Pv H1) (h0 H1 e) (fun i σ' H' _ w => sq_of ((hx H1 i σ' H' w).1 p _ hp lst_tbl)) (fun i x σ' H' hi w => hs H1 e i x σ' H' hi w) fun σ' H' w => hd H1 e σ' H' w⟩
end
/-! ### calls that raise, calls of lambdas -/
section
variable {σ : L2.St} {H : Hp} {Q : VK} {sp : Sp} {M : Addr → Sp} {E : L2.St → XK} {ta tr : TA} {te : TE} {vs xs : List V} {i : Nat} {f : Addr}
theorem x_callS (h : EvA ta σ H vs) (hs : ∀ H1, Ex H H1 → sp vs H1 Q (E σ)) : tCallS sp E ta σ H Q := h H (Ex.refl H) _ hs
theorem x_callSL (h : EvL te σ H xs) (hr : EvA tr σ H vs) (hs : ∀ p H1, Ex H H1 → H1 p = some (.lst xs) → sp (.ref p :: vs) H1 Q (E σ)) : tCallS sp E (tCons te tr) σ H Q :=
  h H (Ex.refl H) _ fun p H1 _ e1 hp => hr H1 e1 _ fun H2 e2 => hs p H2 (e1.trans e2) (e2 p _ hp)
theorem x_callF (h0 : σ[i]? = some (some (.ref f))) (hl : IsLam H f) (h : EvA ta σ H vs) (hs : ∀ H1, Ex H H1 → M f vs H1 Q (E σ)) : tCallF i M E ta σ H Q := ⟨f, h0, hl, h H (Ex.refl H) _ fun H1 e => ⟨hl.ex e, hs H1 e⟩⟩
theorem pass_none {X : Cx} {σ : L2.St} : PassesAt (L2.CX X.prog X.w) X σ (fun _ _ _ => False) := fun _ _ _ _ _ _ c => by
  obtain ⟨_, _, _, _, _, _, _, _, _, _, _, _, z⟩ := c
  exact z.elim
def kindsB (sc : Scope) (fr : List Str) : Bool := fr.all fun y => decide (sc.names.lookup y = some .cell) || decide (sc.names.lookup y = some .free)
theorem kinds_of {sc : Scope} {fr : List Str} (h : kindsB sc fr = true) : ∀ y ∈ fr, sc.names.lookup y = some .cell ∨ sc.names.lookup y = some .free := fun y hy => by
  have z := List.all_eq_true.mp h y hy
  rcases (Bool.or_eq_true _ _).mp z with q | q
  · exact .inl (of_decide_eq_true q)
  · exact .inr (of_decide_eq_true q)
end
section
variable {X : Cx} {k : Nat} {f : Addr} {fd : FuncData} {ps : List Str} {sp : Sp} {x : Str} {p pos : Pos} {e : Expr} {es : List Expr} {t : TA}
/-- a def that is called where no repr is under way -/
theorem pe_callG (F : FnG X.prog X.w X.K X.mg X.base CX0 k f fd ps sp) (hgd : X.A.guards = some []) (hr : Room k X.A) (hg : Gl X x) (hm : X.mg x = some (.ref f)) (hk : PySem.W.keepIn X.K (.ref f) = true) (hb : Binds X.K fd ps [])
    (ha : PA X (e :: es) t) (hdb : (x == ("__debug__" : Str)) = false := by decide)
    (he : starEach (e :: es) X.env = (false, eval e X.env) :: starEach es X.env := by rfl) (hpl : (backTo pos (starEach es X.env)).any (·.1) = false := by rfl) : PE X (.Call (.Name x p) (e :: es) [] pos) (tCall sp [] (fun _ _ _ => False) t) := by
  refine ⟨fun pins s σ H Q I h => ?_⟩
  refine wpAny_Call_Name_kw (ld_glob I hg hm ?_ hdb)
  refine PySem.W.callWith_K (h₀ := X.base) I.ok.mod.kin hk (thn (ha.run pos pins s σ H _ I h) fun us s1 ⟨vs, H1, I1, r, q⟩ => ⟨I1.kIn, ?_⟩) he hpl
  have q : sp (vs ++ []) H1 Q (fun _ _ _ => False) := q
  rw [List.append_nil] at q
  have hl : us.length = ps.length := by
    rw [← r.length]
    exact F.ln _ _ _ _ q
  have bd := hb s1 us I1.kIn (by rw [List.append_nil]; exact hl)
  rw [List.append_nil] at bd
  refine wpAny_call (codeAny_mono (F.go X.A X.stack s1 H1 ⟨us, []⟩ us vs Q _ hgd hr I1.env0 bd r q) fun z s2 hz => ?_)
  rcases z with er | fl
  · exact (show False from hz).elim
  · cases fl with
    | ret u => exact I1.after hz
    | next => exact False.elim hz
    | brk => exact False.elim hz
    | cont => exact False.elim hz
end
/-! ### a def by its body, its code object known -/
section
variable {P : Program} {w : World} {K : PySem.W.Frag} {mg : Str → Option Value} {base : Heap}
theorem Fun.okT {nm qual : Str} {st : Stmt} {f c : Addr} {fd : FuncData} {N ps : List Str} {k : Nat} {sp : Sp} (F : Fun K nm qual st f fd) (hc : fd.code = .ref c) (S : FnScope N ps (defScope st))
    (ln : ∀ vs H Q E, sp vs H Q E → vs.length = ps.length)
    (hb : ∀ (A : Around) (outer : List Env) (s : Shared) (H : Hp) (vs : List V) (Q : VK) (E : XK), A.guards = some [] →
      Room k (A.deeper (envOfC qual (defScope st) s.heap.objs.size f (.ref c))) → sp vs H Q E →
      ∃ t, PSs (cxOf CX0 P w K mg base N qual (defScope st) f (.ref c) A outer s H E).nox (defBody st) t ∧ t { nx := fun _ H' => Q .non H', rt := Q } (start N vs) H) :
    FnG P w K mg base CX0 (k + 1) f fd ps sp := by
  obtain ⟨oc, od, kV, doc, pm, an, cv, ct, osl, rfl, lk, hcd⟩ := F.ex
  have hcv : cv = .ref c := hc
  subst hcv
  refine ⟨ln, ?_⟩
  intro A outer s H args us vs Q E hgd room e0 hbd rel hsp
  have hlen := ln _ _ _ _ hsp
  have kept := fun (b : Addr) (o : Obj) (e : base.get? b = some o) => (e0.bs b o e).1
  have KX : K.In s.heap := e0.mod.kin.keeps kept
  have kinds : ∀ y ∈ ps.zip us, (defScope st).names.lookup y.1 = some .local ∨
      ((defScope st).names.lookup y.1 = some .cell ∧ ((cellsFrom (s.heap.objs.size + 1) (defScope st).names []).lookup y.1).isSome = true) := by
    rintro ⟨n, v⟩ hy
    rcases S.par n (List.of_mem_zip hy).1 with z | z
    · exact .inl z
    · exact .inr ⟨z, PySem.W.cellsFrom_some _ _ _ (.inl z)⟩
  refine codeAny_call_function room.depth (KX _ _ lk) rfl S.co S.gen rfl (PySem.W.codeRec_of KX hcd) (hbd _ _ _ _ ?_)
  refine wpAny_newFunctionEnv_cells S.kind kinds ?_
  rintro env rfl s1 inC
  refine ⟨(e0.mod.nolimit.keeps kept).keeps inC.toInCall.keep, codeAny_func ?_⟩
  obtain ⟨t, hd, hq⟩ := hb A outer s H vs Q E hgd (room.deeper _) hsp
  have I := inv_start (CX := CX0) (P := P) (w := w) (E := E) S room.hd e0 hlen rel inC
  refine wpAny_mono (hd.nox.run [] s1 (start N vs) H _ I hq) ?_ (fun _ _ z => z)
  intro fl s2 out
  cases fl with
  | next =>
    obtain ⟨_, H2, J, q⟩ := out
    exact ⟨.non, H2, J.os, J.bare, J.base, J.hok, rfl, q⟩
  | ret u =>
    obtain ⟨v, _, H2, J, rv, q⟩ := out
    exact ⟨v, H2, J.os, J.bare, J.base, J.hok, rv, q⟩
  | brk => exact out.elim fun _ z => z.elim fun _ y => y.2.elim
  | cont => exact out.elim fun _ z => z.elim fun _ y => y.2.elim
theorem tabIn_of {x : Str} {f c P : Addr} {oc e : Value} {od dd : Option Addr} {fd : FuncData} {sl sl2 : Array (Option Value)} {vs : Array Value} (h1 : PySem.W.nsIn K mainGlobals x = some (some (.ref f))) (h2 : K.lookup f = some ⟨oc, od, .func fd, sl⟩) (h3 : fd.code = .ref c)
    (h4 : K.lookup c = some ⟨e, dd, .fields vs, sl2⟩) (h5 : vs[11]? = some (.ref P)) : PySem.W.tabIn K x = some (c, P) := by
  unfold PySem.W.tabIn
  simp only [h1, h2, h3, h4, h5]
end
end Rt

/-! The end of a law whose defs make lambdas: the tables of their code objects, and no repr under way. -/
namespace Rt
open PySem PySem.Spec PyProof.Rows L2 Evl LamX NdefX
theorem law_goT {P : Program} {w : World} {K : PySem.W.Frag} {mg mb : Str → Option Value} {k : Nat} {fa a : Addr} {tb : List (Addr × Addr)} {fd : FuncData} {x : Str} {sp : Sp} {s1 : Shared} {vs : List Value} {ns : List Int}
    (KX : K.In s1.heap) (gns : s1.heap.Ns mainGlobals mg) (bns : s1.heap.Ns builtinsNs mb) (hbb : ∀ y : Str, y ≠ "__name__" → mb y = bootBuiltins y) (lim : s1.heap.NoLimit) (gens : s1.gens = #[])
    (tEmp : ∀ p ∈ tb, s1.heap.get? p.2 = some { cls := .none, data := .fields #[] }) (tOut : ∀ p ∈ tb, K.lookup p.2 = none) (tHd : ∀ p ∈ tb, PySem.W.CodeHd s1.heap p.1 p.2)
    (bmn : ∃ (bm : Addr) (ob : Obj), mg "__builtins__" = some (.ref bm) ∧ bm ≠ builtinsNs ∧ s1.heap.get? bm = some ob ∧ ob.cls = .type "module" ∧ ob.dict = some builtinsNs ∧ ob.data = .plain)
    (ha : s1.heap.get? a = some { cls := .type "list", data := .seq vs.toArray }) (hi : IntsAre vs ns) (hsz : ns.length ≤ sizeLine) (room : Room k callerA)
    (F : ∀ bs : Heap, K.In bs → bs.Ns mainGlobals mg → (∀ p ∈ tb, TabB bs mg p.1 p.2) → FnG P w K mg bs CX0 k fa fd [x] sp) (hbind : ∀ (s : Shared) (u : Value), BindsTo s fd ⟨[u], []⟩ [(x, u)])
    (hsp : ∀ H : Hp, (∀ p ∈ tb, H p.2 = some (.tbl #[])) → SqL K H a (ns.map V.int) → sp [.ref a] H (fun v _ => v = .bl true) fun _ _ _ => False) :
    codeAny (model P w) callerA (.call (.ref fa) ⟨[.ref a], []⟩) (fun r s2 => r = .ok (.ret (.bool true)) ∧ OldK s1.heap s2.heap ∧ s2.os = s1.os ∧ AllBare s2.gens) s1 := by
  have rel := vals_ints hi
  have lenV := hi.length
  have nil : ∀ b : Addr, b ∉ frs [] := fun b z => by
    have z' : b ∈ ([] : List Addr) := z
    simp at z'
  have aNot : ∀ p ∈ tb, p.2 ≠ a := fun p hp z => by
    have e := tEmp p hp
    rw [z, ha] at e
    have e2 : Data.seq vs.toArray _ = Data.fields #[] := congrArg Obj.data (Option.some.inj e)
    cases e2
  have main : ∀ H : Hp, (∀ b u, H b = some u → (b = a ∧ K.lookup a = none ∧ ∃ o v, u = .frz o v) ∨ ∃ p ∈ tb, b = p.2 ∧ u = .tbl #[]) → (∀ p ∈ tb, H p.2 = some (.tbl #[])) → HOk P w H s1.heap → SqL K H a (ns.map V.int) →
      codeAny (model P w) callerA (.call (.ref fa) ⟨[.ref a], []⟩) (fun r s2 => r = .ok (.ret (.bool true)) ∧ OldK s1.heap s2.heap ∧ s2.os = s1.os ∧ AllBare s2.gens) s1 := by
    intro H only tH hok hS
    have apart : ∀ {b : Addr} {o : Obj}, s1.heap.get? b = some o → (∀ us n, o.data ≠ .seq us n) → o.data ≠ .fields #[] → H b = none := by
      intro b o e d1 d2
      cases q : H b with
      | none => rfl
      | some u =>
        rcases only b u q with ⟨rfl, _⟩ | ⟨p, hp, rfl, _⟩
        · rw [ha] at e
          cases e
          exact (d1 _ _ rfl).elim
        · rw [tEmp p hp] at e
          cases e
          exact (d2 rfl).elim
    have free : ∀ {b : Addr} {o : Obj} {es : Array DictEntry} {n : Nat}, s1.heap.get? b = some o → o.data = .dict es n → H b = none := by
      intro b o es n e d
      refine apart e (fun us m z => ?_) fun z => ?_
      · rw [d] at z
        cases z
      · rw [d] at z
        cases z
    have nsK : ∀ {b : Addr} {m : Str → Option Value}, s1.heap.Ns b m → (hidT s1.heap H).Ns b m := by
      rintro b m ⟨o, es, n, e, d, r⟩
      exact ⟨o, es, n, hidT_get e (free e d), d, r⟩
    have KB : K.In (hidT s1.heap H) := by
      intro b o e
      refine hidT_get (KX b o e) ?_
      cases q : H b with
      | none => rfl
      | some u =>
        rcases only b u q with ⟨rfl, z, _⟩ | ⟨p, hp, rfl, _⟩
        · rw [z] at e
          cases e
        · rw [tOut p hp] at e
          cases e
    have lim2 : (hidT s1.heap H).NoLimit := by
      obtain ⟨mc, h1, h2⟩ := lim
      exact ⟨mc, nsK h1, h2⟩
    have TB : ∀ p ∈ tb, TabB (hidT s1.heap H) mg p.1 p.2 := by
      intro p hp
      refine ⟨?_, ?_, fun z => ?_⟩
      · obtain ⟨o, us, f1, f2, f3, f4, f5, f6, f7, e1, r1, r2, r3, rr⟩ := tHd p hp
        refine ⟨o, us, f1, f2, f3, f4, f5, f6, f7, hidT_get e1 (apart e1 (fun ys n z => ?_) fun z => ?_), r1, r2, r3, rr⟩
        · rw [r2] at z
          cases z
        · rw [r2] at z
          cases z
          simp at r3
      · obtain ⟨bm, ob, b1, b2, b3, b4, b5, b6⟩ := bmn
        have q1 : bm ≠ mainGlobals := fun z => by
          obtain ⟨o, es, n, e, d, _⟩ := gns
          rw [z, e] at b3
          cases b3
          rw [d] at b6
          cases b6
        have q2 : bm ≠ p.2 := fun z => by
          rw [z, tEmp p hp] at b3
          cases b3
          cases b6
        refine ⟨bm, ob, b1, b2, q1, q2, hidT_get b3 (apart b3 (fun ys n z => ?_) fun z => ?_), b4, b5, b6⟩
        · rw [b6] at z
          cases z
        · rw [b6] at z
          cases z
      · obtain ⟨o, es, n, e, d, _⟩ := gns
        rw [z, tEmp p hp] at e
        cases e
        cases d
    have e0 : Env0 P w K mg (hidT s1.heap H) callerA [] s1 H :=
      { frames := rfl, mod := ⟨KB, nsK gns, ⟨mb, nsK bns, hbb⟩, lim2⟩, bs := fun b o e => of_hidT e, bsz := Nat.le_of_eq (hidT_size _ _), funs := trivial, frf := fun b hb => absurd hb (nil b), hok := hok, bare := .of_eq gens }
    have run := (F _ KB (nsK gns) TB).go callerA [] s1 H ⟨[.ref a], []⟩ [.ref a] [.ref a] _ _ rfl room e0 (hbind s1 (.ref a)) (.cons rfl .nil) (hsp H tH hS)
    refine codeAny_mono run ?_
    intro r s2 out
    rcases r with e | fl
    · exact out.elim
    cases fl with
    | next => exact out.elim
    | brk => exact out.elim
    | cont => exact out.elim
    | ret u =>
      obtain ⟨v, H2, os, bare, un, hok2, rv, rfl⟩ := out
      cases (show u = Value.bool true from rv)
      have kept : ∀ b o, (∀ p ∈ tb, b ≠ p.2) → s1.heap.get? b = some o → s2.heap.get? b = some o := by
        intro b o nb e
        cases q : H b with
        | none => exact un.keep b o e q (nil b) (by simp)
        | some u =>
          rcases only b u q with ⟨_, _, ob, v, rfl⟩ | ⟨p, hp, z, _⟩
          · have e1 := (hok b _ q).1
            have e2 := (hok2 b _ (un.frzs b ob v q)).1
            rw [e] at e1
            cases e1
            exact e2
          · exact absurd z (nb p hp)
      have grown : ∀ p ∈ tb, ∃ more : Array Value, s2.heap.get? p.2 = some { cls := .none, data := .fields more } := by
        intro p hp
        obtain ⟨more, z⟩ := un.tbls p.2 #[] (tH p hp)
        exact ⟨_, hok2 p.2 _ z⟩
      refine ⟨rfl, ⟨fun b o e => ?_, fun b o e => ?_⟩, os, bare⟩
      · by_cases hb : ∃ p ∈ tb, b = p.2
        · obtain ⟨p, hp, rfl⟩ := hb
          obtain ⟨more, hm⟩ := grown p hp
          rw [tEmp p hp] at e
          cases e
          exact .inr (.inl ⟨((tHd p hp).tab (tEmp p hp)).isCodeTable, rfl, #[], more, rfl, by rw [Array.empty_append]; exact hm⟩)
        · exact .inl (kept b o (fun p hp z => hb ⟨p, hp, z⟩) e)
      · by_cases hb : ∃ p ∈ tb, b = p.2
        · obtain ⟨p, hp, rfl⟩ := hb
          obtain ⟨more, hm⟩ := grown p hp
          exact ⟨_, hm⟩
        · exact ⟨o, kept b o (fun p hp z => hb ⟨p, hp, z⟩) e⟩
  let isT : Addr → Bool := fun b => tb.any fun p => p.2 == b
  have isT_of : ∀ p ∈ tb, isT p.2 = true := fun p hp => List.any_eq_true.mpr ⟨p, hp, beq_self_eq_true _⟩
  have of_isT : ∀ b, isT b = true → ∃ p ∈ tb, b = p.2 := fun b z => by
    obtain ⟨p, hp, e⟩ := List.any_eq_true.mp z
    exact ⟨p, hp, (eq_of_beq e).symm⟩
  cases hk : K.lookup a with
  | some o =>
    have e := KX a o hk
    rw [ha] at e
    cases e
    have at_ : ∀ b u, (if isT b = true then some (HO.tbl #[]) else none) = some u → ∃ p ∈ tb, b = p.2 ∧ u = .tbl #[] := fun b u z => by
      by_cases h : isT b = true
      · rw [if_pos h] at z
        cases z
        obtain ⟨p, hp, e⟩ := of_isT b h
        exact ⟨p, hp, e, rfl⟩
      · rw [if_neg h] at z
        cases z
    refine main (fun b => if isT b = true then some (.tbl #[]) else none) (fun b u z => .inr (at_ b u z)) (fun p hp => if_pos (isT_of p hp)) (fun b u z => ?_) (.inr ⟨_, vs.toArray, _, hk, rfl, rfl, rfl, by rw [List.size_toArray, lenV]; exact hsz, by simpa using rel⟩)
    obtain ⟨p, hp, rfl, rfl⟩ := at_ b u z
    exact tEmp p hp
  | none =>
    let o1 : Obj := { cls := .type "list", data := .seq vs.toArray }
    have at1 : (fun b => if b = a then some (HO.frz o1 (.lst (ns.map V.int))) else if isT b = true then some (.tbl #[]) else none) a = some (.frz o1 (.lst (ns.map V.int))) := if_pos rfl
    have at_ : ∀ b u, (fun b => if b = a then some (HO.frz o1 (.lst (ns.map V.int))) else if isT b = true then some (.tbl #[]) else none) b = some u → (b = a ∧ u = .frz o1 (.lst (ns.map V.int))) ∨ ∃ p ∈ tb, b = p.2 ∧ u = .tbl #[] := fun b u z => by
      by_cases hb : b = a
      · subst hb
        rw [at1] at z
        cases z
        exact .inl ⟨rfl, rfl⟩
      · have z1 := (if_neg hb).symm.trans z
        by_cases h : isT b = true
        · rw [if_pos h] at z1
          cases z1
          obtain ⟨p, hp, e⟩ := of_isT b h
          exact .inr ⟨p, hp, e, rfl⟩
        · rw [if_neg h] at z1
          cases z1
    refine main (fun b => if b = a then some (.frz o1 (.lst (ns.map V.int))) else if isT b = true then some (.tbl #[]) else none) (fun b u z => ?_) (fun p hp => (if_neg (aNot p hp)).trans (if_pos (isT_of p hp))) (fun b u z => ?_) (.inl (.inr ⟨o1, at1⟩))
    · rcases at_ b u z with ⟨h1, h2⟩ | h
      · exact .inl ⟨h1, hk, _, _, h2⟩
      · exact .inr h
    · rcases at_ b u z with ⟨rfl, rfl⟩ | ⟨p, hp, rfl, rfl⟩
      · exact ⟨ha, by rw [List.length_map]; exact hsz, vs, _, rel, ha⟩
      · exact tEmp p hp
/-- a def's code object and the table of it, at the head's heap -/
def TabAt (K : PySem.W.Frag) (q : Program) (h : Heap) : Prop := ∀ (x : Str) (c P : Addr), ((recsOf q).any fun e => e.name == x) = true → PySem.W.tabIn K x = some (c, P) → PySem.W.CodeHd h c P ∧ h.get? P = some { cls := .none, data := .fields #[] }
theorem walk_ofT {l : PySem.W.OpenLaw} {n k : Nat} {q : Program} {loose : List Str} {XP : (Str → Option Value) → Heap → Prop} {YP : World → Heap → Prop} {d : DefRec} {KK : Params → PySem.W.Frag} {x : Str}
    (hn : l.most = some n) (hn2 : n ≤ sizeLine) (hdf : d.params.defaults = []) (room : Room k callerA)
    (hY : ∀ (w : World) (h : Heap), YP w h → (KK w.params).In h)
    (F : ∀ (w : World) (mg : Str → Option Value) (fa : Addr) (h : Heap), (KK w.params).In h → h.Ns mainGlobals mg → mg d.name = some (.ref fa) → TabAt (KK w.params) q h →
      ∃ (fd : FuncData) (tb : List (Addr × Addr)) (sp : Sp), (∀ (s : Shared) (u : Value), BindsTo s fd ⟨[u], []⟩ [(x, u)]) ∧ (∀ p ∈ tb, h.get? p.2 = some { cls := .none, data := .fields #[] }) ∧ (∀ p ∈ tb, (KK w.params).lookup p.2 = none) ∧ (∀ p ∈ tb, PySem.W.CodeHd h p.1 p.2) ∧
        (∀ (H : Hp) (a : Addr) (ns : List Int), ns.length ≤ n → (∀ z ∈ ns, Builtin.Int.intBits z ≤ 1048576) → (∀ p ∈ tb, H p.2 = some (.tbl #[])) → SqL (KK w.params) H a (ns.map V.int) → sp [.ref a] H (fun v _ => v = .bl true) fun _ _ _ => False) ∧
        ∀ bs : Heap, (KK w.params).In bs → bs.Ns mainGlobals mg → (∀ p ∈ tb, TabB bs mg p.1 p.2) → FnG l.prog w (KK w.params) mg bs CX0 k fa fd [x] sp) :
    PySem.W.WalkO q loose XP YP l.row.toRowW d [] (fun f vs => PySem.call f vs) := by
  refine Att.attach_callB hn hdf ?_
  intro w s0 s1 mg mb fa o pm cd doc a vs ns G Y _ _ _ hmg hobj hints hlen hbits hg
  have KX := hY w _ Y
  have tabs : TabAt (KK w.params) q s1.heap := fun y c P hr ht => by
    cases hf : (recsOf q).find? (fun e => e.name == y) with
    | none =>
      obtain ⟨e, he, hn⟩ := List.any_eq_true.mp hr
      exact absurd hn (by simpa using List.find?_eq_none.mp hf e he)
    | some d2 => exact PySem.W.tab_of G.T KX hf ht
  obtain ⟨fd, tb, sp, hb, h1, h2, h3, hsp, hF⟩ := F w mg fa _ KX G.T.g hmg tabs
  exact law_goT KX G.T.g G.T.b G.T.builtins G.T.nolimit hg h1 h2 h3 G.T.bmain hobj hints (Nat.le_trans hlen hn2) room hF hb fun H hT hS => hsp H a ns hlen hbits hT hS
end Rt

/-! A lambda's call, with what was lent known to be untracked meanwhile. -/
namespace Rt
open PySem PySem.Spec PyProof.Rows L2 Evl LamX NdefX
section
variable {P : Program} {w : World} {K : PySem.W.Frag} {mg : Str → Option Value} {base : Heap} {A : Around} {outer : List Env} {s s' : Shared} {cs : Lent} {H : Hp} {h : Heap}
/-- a lambda's end, seen by its caller; told too: what was lent is not tracked meanwhile -/
theorem cr_backU {Q : VK} {E : XK} {r : Result} (li : LentIn cs H) (hok0 : HOk P w H s.heap) (nf : ∀ c o, cs c = some o → c ∉ frs outer)
    (z : CR (L2.CX P w) outer P w (backH cs H) s (fun v H2 => Unheld cs H2 → Q v (lendH cs H2)) (fun c d H2 => Unheld cs H2 → E c d (lendH cs H2)) r s') : CR (L2.CX P w) outer P w H s Q E r s' := by
  have at_ : ∀ c o, cs c = some o → s.heap.get? c = some o := fun c o y => (hok0 c _ (li c o y)).1
  rcases r with e | fl
  · obtain ⟨a, B, H2, cls, d, rfl, fl, hok, ub, na, os, ag, hE⟩ := z
    have un : Unheld cs H2 := fun c o y => ub.free c o (at_ c o y) (back_in y)
    have atB : ∀ c o, cs c = some o → B.get? c = some o := fun c o y => ub.keep c o (at_ c o y) (back_in y) (nf c o y)
    refine ⟨a, B, lendH cs H2, cls, d, rfl, fl, hok_lend hok un atB, ⟨fun b o e n nb => ?_, ub.slot, fun b o e n => ?_, ub.there, fun b xs e => ?_, fun b o x e => ?_, fun b ps e => ?_⟩, ?_, os, ag, hE un⟩
    · exact ub.keep b o e (by rw [back_out (li.off n)]; exact n) nb
    · rw [lend_out (li.off n)]
      exact ub.free b o e (by rw [back_out (li.off n)]; exact n)
    · have y := li.other e fun o y => nomatch y
      rw [lend_out y]
      exact ub.tups b xs (by rw [back_out y]; exact e)
    · cases y : cs b with
      | none =>
        rw [lend_out y]
        exact ub.frzs b o x (by rw [back_out y]; exact e)
      | some o2 =>
        rw [lend_in y, ← li b o2 y]
        exact e
    · have y := li.other e fun o y => nomatch y
      rw [lend_out y]
      exact ub.tbls b ps (by rw [back_out y]; exact e)
    · cases y : cs a with
      | none =>
        rw [lend_out y]
        exact na
      | some o =>
        have z1 := atB a o y
        rw [fl.2.1] at z1
        cases z1
  · cases fl with
    | next => exact z
    | brk => exact z
    | cont => exact z
    | ret u =>
      obtain ⟨v, H2, os, bare, uu, hok, r, q⟩ := z
      have un : Unheld cs H2 := fun c o y => uu.free c o (at_ c o y) (back_in y) (by simp)
      have at2 : ∀ c o, cs c = some o → s'.heap.get? c = some o := fun c o y => uu.keep c o (at_ c o y) (back_in y) (nf c o y) (by simp)
      refine ⟨v, lendH cs H2, os, bare, ⟨fun b o e n nb nx => ?_, fun b o e n hb nx => ?_, fun b o e n nx => ?_, fun b o e nx => uu.there b o e nx, fun b xs e => ?_, fun b o x e => ?_, fun b ps e => ?_⟩, hok_lend hok un at2, r, q un⟩
      · exact uu.keep b o e (by rw [back_out (li.off n)]; exact n) nb nx
      · exact uu.slot b o e (by rw [back_out (li.off n)]; exact n) hb nx
      · rw [lend_out (li.off n)]
        exact uu.free b o e (by rw [back_out (li.off n)]; exact n) nx
      · have y := li.other e fun o y => nomatch y
        rw [lend_out y]
        exact uu.tups b xs (by rw [back_out y]; exact e)
      · cases y : cs b with
        | none =>
          rw [lend_out y]
          exact uu.frzs b o x (by rw [back_out y]; exact e)
        | some o2 =>
          rw [lend_in y, ← li b o2 y]
          exact e
      · have y := li.other e fun o y => nomatch y
        rw [lend_out y]
        exact uu.tbls b ps (by rw [back_out y]; exact e)
end
section
variable {P : Program} {w : World} {K : PySem.W.Frag} {mg : Str → Option Value} {base : Heap} {A : Around} {outer : List Env} {s : Shared} {H : Hp} {f : Addr} {F : NF} {e : Expr} {N ps fr frA NA : List Str} {cells : List (Str × Addr)} {σ0 : L2.St} {js : List Nat} {us : List Value} {vs : List V} {k : Nat} {Q : VK} {E : XK}
theorem lam_runU (S : NScope N ps fr F.scope) (hb : ∀ (pm ctv : Value) (us : List Value), us.length = ps.length → bindArgs (PySem.W.kla_fn F.name F.qual F.params e F.scope F.cl pm (.ref F.c) ctv) ⟨us, []⟩ = pure (ps.zip us)) (hcl : F.cl = cloFrom cells F.scope.names [])
    (hfr : ∀ y ∈ fr, y ∈ frA) (hjs : js.map (fun j => NA[j]?) = fr.map some) (hr : Room (k + 1) A) (e0 : Env0 P w K mg base A outer s H) (hf : H f = some (LamO f F e)) (hc : H F.c = some (CodeO F.c F.qual)) (hh : HeldC cells frA NA σ0 H) (r : Vals vs us) (hl : vs.length = ps.length)
    (hbody : ∀ cs : Lent, LentIn cs H → Room k (A.deeper (envF F f s.heap.objs.size)) → ∃ t, PE (ncx (L2.CX P w) P w K mg base N F f A outer s (backH cs H) (fun c d H2 => Unheld cs H2 → E c d (lendH cs H2))) e t ∧ t (startF N vs (js.map (slotAt σ0))) (backH cs H) (fun v H2 => Unheld cs H2 → Q v (lendH cs H2))) :
    codeAny (model P w) A (.call (.ref f) ⟨us, []⟩) (CR (L2.CX P w) outer P w H s Q E) s := by
  have li := heldOf_in H
  have nf : ∀ c o, heldOf H c = some o → c ∉ frs outer := fun c o z hm => by
    have q := e0.frf c hm
    rw [li c o z] at q
    cases q
  have C := cells_held (js := js) S hcl hfr hjs e0.hok hh
  have e1 := env0_back e0 li
  have lim : s.heap.NoLimit := e0.mod.nolimit.keeps fun b o z => (e0.bs b o z).1
  obtain ⟨od, sl, pm, ctv, ho⟩ := lamO_at e0.hok hf
  refine codeAny_mono ?_ fun z s2 hz => cr_backU li e0.hok nf hz
  refine PySem.W.kla_callFunE hr.depth ho rfl S.co S.gen rfl (codeO_at e0.hok hc) ?_
  rw [hb pm ctv us (by rw [← r.length]; exact hl)]
  refine wpAny_pure (wpAny_newFunctionEnv S.nocell (fun ⟨n, _⟩ hy => S.par n (List.of_mem_zip hy).1) (fun h1 hns hsb => ⟨lim.fresh _ hsb, ?_⟩) S.kind)
  have kp : ∀ b o, s.heap.get? b = some o → h1.get? b = some o := fun b o z => hsb.extBut b o (Nat.ne_of_lt (Heap.lt_size z)) (Heap.get?_push_of_some _ z)
  obtain ⟨t, ht, hq⟩ := hbody _ li (hr.deeper _)
  have I := inv_startN (CX := L2.CX P w) (E := fun c d H2 => Unheld (heldOf H) H2 → E c d (lendH (heldOf H) H2)) (tk := s.toks + (ps.zip us).length) (f := f) S hr.hd e1 hl r C hns kp
  show codeAny _ _ (.expr e (envF F f s.heap.objs.size)) _ _
  refine PySem.W.kla_codeExpr (wpAny_mono (ht.run [] _ _ _ _ I hq) (fun v s2 hz => ?_) fun _ _ hz => hz)
  obtain ⟨v2, H2, J, rv, q⟩ := hz
  exact ⟨v2, H2, J.os, J.bare, J.base, J.hok, rv, q⟩
end
end Rt

namespace Rt
open PySem PySem.Spec PyProof.Rows L2 Evl LamX NdefX
def topS (i : Nat) : Stmt := PySem.Challenge.pw_runtogether_k08_whole_anew.main.body.getD i (.Pass ⟨0, 0, 0, 0⟩)
abbrev s_is_whole : Stmt := topS 9
abbrev s_check_row : Stmt := topS 10
abbrev s_check_place : Stmt := topS 11
abbrev s_check_count : Stmt := topS 12
abbrev s_way_from : Stmt := topS 13
abbrev s_way : Stmt := topS 14
abbrev s_last : Stmt := topS 15
abbrev s_endings : Stmt := topS 16
abbrev s_first_common : Stmt := topS 19
abbrev s_compared : Stmt := topS 23
abbrev s_run_by : Stmt := topS 24
abbrev s_check_far : Stmt := topS 26
abbrev s_power : Stmt := topS 27
abbrev s_states : Stmt := topS 28
abbrev s_meetings_of : Stmt := topS 29
abbrev s_check_all : Stmt := topS 30
abbrev s_meetings : Stmt := topS 31
abbrev s__law_cell_at : Stmt := topS 33
abbrev s__law_draw : Stmt := topS 34
abbrev s__law_number : Stmt := topS 35
abbrev s__law_deep : Stmt := topS 36
abbrev s__law_spoilt : Stmt := topS 37
abbrev s__law_put : Stmt := topS 38
abbrev s__law_door_right : Stmt := topS 39
abbrev s__law_two : Stmt := topS 40
abbrev s__law_doors_right : Stmt := topS 41
abbrev s__law_compared : Stmt := topS 42
abbrev s_law : Stmt := topS 43
abbrev s_Meet_init : Stmt := inClass (topS 20) 0
abbrev s_Meet_shows : Stmt := inClass (topS 20) 1
abbrev s_Apart_init : Stmt := inClass (topS 21) 0
abbrev s_Apart_shows : Stmt := inClass (topS 21) 1
theorem sc_is_whole : FnScope ["thing"] ["thing"] (defScope s_is_whole) := ⟨rfl, rfl, rfl, by decide +kernel, rfl, by decide +kernel, by decide +kernel⟩
theorem sc_check_row : FnScope ["row", "card"] ["row"] (defScope s_check_row) := ⟨rfl, rfl, rfl, by decide +kernel, rfl, by decide +kernel, by decide +kernel⟩
theorem sc_check_place : FnScope ["row", "place"] ["row", "place"] (defScope s_check_place) := ⟨rfl, rfl, rfl, by decide +kernel, rfl, by decide +kernel, by decide +kernel⟩
theorem sc_check_count : FnScope ["count", "least", "most"] ["count", "least", "most"] (defScope s_check_count) := ⟨rfl, rfl, rfl, by decide +kernel, rfl, by decide +kernel, by decide +kernel⟩
theorem sc_way_from : FnScope ["row", "place", "found"] ["row", "place"] (defScope s_way_from) := ⟨rfl, rfl, rfl, by decide +kernel, rfl, by decide +kernel, by decide +kernel⟩
theorem sc_way : FnScope ["row", "place"] ["row", "place"] (defScope s_way) := ⟨rfl, rfl, rfl, by decide +kernel, rfl, by decide +kernel, by decide +kernel⟩
theorem sc_last : FnScope ["row", "place"] ["row", "place"] (defScope s_last) := ⟨rfl, rfl, rfl, by decide +kernel, rfl, by decide +kernel, by decide +kernel⟩
theorem sc_endings : FnScope ["row", "many", "found", "place", "there"] ["row", "many"] (defScope s_endings) := ⟨rfl, rfl, rfl, by decide +kernel, rfl, by decide +kernel, by decide +kernel⟩
theorem sc_first_common : FnScope ["row", "one", "other", "mine", "some", "place"] ["row", "one", "other"] (defScope s_first_common) := ⟨rfl, rfl, rfl, by decide +kernel, rfl, by decide +kernel, by decide +kernel⟩
theorem sc_compared : FnScope ["row", "one", "other", "place"] ["row", "one", "other"] (defScope s_compared) := ⟨rfl, rfl, rfl, by decide +kernel, rfl, by decide +kernel, by decide +kernel⟩
theorem sc_run_by : FnScope ["row", "many", "some", "place", "mine", "there"] ["row", "many"] (defScope s_run_by) := ⟨rfl, rfl, rfl, by decide +kernel, rfl, by decide +kernel, by decide +kernel⟩
theorem sc_check_far : FnScope ["many", "far"] ["many", "far"] (defScope s_check_far) := ⟨rfl, rfl, rfl, by decide +kernel, rfl, by decide +kernel, by decide +kernel⟩
theorem sc_power : FnScope ["number", "many", "found", "turn"] ["number", "many"] (defScope s_power) := ⟨rfl, rfl, rfl, by decide +kernel, rfl, by decide +kernel, by decide +kernel⟩
theorem sc_states : FnScope ["cards", "many", "far", "found", "place", "ahead", "often", "card", "there", "left", "free"] ["cards", "many", "far"] (defScope s_states) := ⟨rfl, rfl, rfl, by decide +kernel, rfl, by decide +kernel, by decide +kernel⟩
theorem sc_meetings_of : FnScope ["cards", "many", "far", "found", "place"] ["cards", "many", "far"] (defScope s_meetings_of) := ⟨rfl, rfl, rfl, by decide +kernel, rfl, by decide +kernel, by decide +kernel⟩
theorem sc_check_all : FnScope ["cards", "many", "far"] ["cards", "many", "far"] (defScope s_check_all) := ⟨rfl, rfl, rfl, by decide +kernel, rfl, by decide +kernel, by decide +kernel⟩
theorem sc_meetings : FnScope ["cards", "many", "far"] ["cards", "many", "far"] (defScope s_meetings) := ⟨rfl, rfl, rfl, by decide +kernel, rfl, by decide +kernel, by decide +kernel⟩
theorem sc__law_cell_at : FnScope ["_law_script", "_law_k"] ["_law_script", "_law_k"] (defScope s__law_cell_at) := ⟨rfl, rfl, rfl, by decide +kernel, rfl, by decide +kernel, by decide +kernel⟩
theorem sc__law_draw : FnScope ["_law_cell", "_law_k", "_law_most", "_law_primes"] ["_law_cell", "_law_k", "_law_most"] (defScope s__law_draw) := ⟨rfl, rfl, rfl, by decide +kernel, rfl, by decide +kernel, by decide +kernel⟩
theorem sc__law_number : FnScope ["_law_cell", "_law_k", "_law_limit", "_law_small"] ["_law_cell", "_law_k", "_law_limit"] (defScope s__law_number) := ⟨rfl, rfl, rfl, by decide +kernel, rfl, by decide +kernel, by decide +kernel⟩
theorem sc__law_deep : FnScope ["_law_thing", "_law_one"] ["_law_thing"] (defScope s__law_deep) := ⟨rfl, rfl, rfl, by decide +kernel, rfl, by decide +kernel, by decide +kernel⟩
theorem sc__law_spoilt : FnScope ["_law_found", "_law_one"] ["_law_found"] (defScope s__law_spoilt) := ⟨rfl, rfl, rfl, by decide +kernel, rfl, by decide +kernel, by decide +kernel⟩
theorem sc__law_put : FnScope ["_law_handed", "_law_some", "_law_row", "_law_other"] ["_law_handed", "_law_some"] (defScope s__law_put) := ⟨rfl, rfl, rfl, by decide +kernel, rfl, by decide +kernel, by decide +kernel⟩
theorem sc__law_door_right : FnScope ["_law_ask", "_law_lists", "_law_others", "_law_handed", "_law_fixed", "_law_told_lists", "_law_text", "_law_due", "_law_some", "_law_again"] ["_law_ask", "_law_lists", "_law_others"] (defScope s__law_door_right) := ⟨rfl, rfl, rfl, by decide +kernel, rfl, by decide +kernel, by decide +kernel⟩
theorem sc__law_two : FnScope ["_law_found"] ["_law_found"] (defScope s__law_two) := ⟨rfl, rfl, rfl, by decide +kernel, rfl, by decide +kernel, by decide +kernel⟩
theorem sc__law_doors_right : FnScope ["_law_asks", "_law_lists", "_law_others", "_law_ask"] ["_law_asks", "_law_lists", "_law_others"] (defScope s__law_doors_right) := ⟨rfl, rfl, rfl, by decide +kernel, rfl, by decide +kernel, by decide +kernel⟩
theorem sc__law_compared : FnScope ["_law_row", "_law_one", "_law_other", "_law_found"] ["_law_row", "_law_one", "_law_other"] (defScope s__law_compared) := ⟨rfl, rfl, rfl, by decide +kernel, rfl, by decide +kernel, by decide +kernel⟩
theorem sc_law : FnScope ["_law_script", "_law_row", "_law_less", "_law_by", "_law_cell", "_law_one", "_law_other", "_law_here", "_law_asks", "_law_found", "_law_text"] ["_law_script"] (defScope s_law) := ⟨rfl, rfl, rfl, by decide +kernel, rfl, by decide +kernel, by decide +kernel⟩
theorem sc_Meet_init : FnScope ["self", "place"] ["self", "place"] (defScope s_Meet_init) := ⟨rfl, rfl, rfl, by decide +kernel, rfl, by decide +kernel, by decide +kernel⟩
theorem sc_Meet_shows : FnScope ["self", "row", "one", "other"] ["self", "row", "one", "other"] (defScope s_Meet_shows) := ⟨rfl, rfl, rfl, by decide +kernel, rfl, by decide +kernel, by decide +kernel⟩
theorem sc_Apart_init : FnScope ["self", "mine", "theirs"] ["self", "mine", "theirs"] (defScope s_Apart_init) := ⟨rfl, rfl, rfl, by decide +kernel, rfl, by decide +kernel, by decide +kernel⟩
theorem sc_Apart_shows : FnScope ["self", "row", "one", "other"] ["self", "row", "one", "other"] (defScope s_Apart_shows) := ⟨rfl, rfl, rfl, by decide +kernel, rfl, by decide +kernel, by decide +kernel⟩
def lx_0 : Expr := (exN 0 (stE (stN (stB (stN (defBody s_law) 1)) 3)))
def lx_1 : Expr := (exN 1 (stE (stN (stB (stN (defBody s_law) 1)) 3)))
def lx_2 : Expr := (exN 0 (exN 1 (stE (stN (stB (stN (defBody s_law) 1)) 4))))
def lx_3 : Expr := (exN 1 (exN 1 (stE (stN (stB (stN (defBody s_law) 1)) 4))))
def lx_4 : Expr := (exN 0 (exN 1 (stE (stN (stB (stN (defBody s_law) 1)) 5))))
def lx_5 : Expr := (exN 0 (exN 1 (stE (stN (stB (stN (defBody s_law) 1)) 6))))
def lamX (i : Nat) : Expr := [lx_0, lx_1, lx_2, lx_3, lx_4, lx_5].getD i noE
def q_law : Str := (("law" : Str) ++ ".<locals>.") ++ "<lambda>"
def N_law : List Str := ["_law_script", "_law_row", "_law_less", "_law_by", "_law_cell", "_law_one", "_law_other", "_law_here", "_law_asks", "_law_found", "_law_text"]
def lamQ (i : Nat) : Str := [q_law, q_law, q_law, q_law, q_law, q_law].getD i ""
def lamN (i : Nat) : List Str := [N_law, N_law, N_law, N_law, N_law, N_law].getD i []
structure Tx (K : PySem.W.Frag) (mg : Str → Option Value) where
  f_is_whole : Addr
  d_is_whole : FuncData
  F_is_whole : Fun K "is_whole" "is_whole" s_is_whole f_is_whole d_is_whole
  b_is_whole : Binds K d_is_whole ["thing"] []
  m_is_whole : mg "is_whole" = some (.ref f_is_whole)
  f_check_row : Addr
  d_check_row : FuncData
  F_check_row : Fun K "check_row" "check_row" s_check_row f_check_row d_check_row
  b_check_row : Binds K d_check_row ["row"] []
  m_check_row : mg "check_row" = some (.ref f_check_row)
  f_check_place : Addr
  d_check_place : FuncData
  F_check_place : Fun K "check_place" "check_place" s_check_place f_check_place d_check_place
  b_check_place : Binds K d_check_place ["row", "place"] []
  m_check_place : mg "check_place" = some (.ref f_check_place)
  f_check_count : Addr
  d_check_count : FuncData
  F_check_count : Fun K "check_count" "check_count" s_check_count f_check_count d_check_count
  b_check_count : Binds K d_check_count ["count", "least", "most"] []
  m_check_count : mg "check_count" = some (.ref f_check_count)
  f_way_from : Addr
  d_way_from : FuncData
  F_way_from : Fun K "way_from" "way_from" s_way_from f_way_from d_way_from
  b_way_from : Binds K d_way_from ["row", "place"] []
  m_way_from : mg "way_from" = some (.ref f_way_from)
  f_way : Addr
  d_way : FuncData
  F_way : Fun K "way" "way" s_way f_way d_way
  b_way : Binds K d_way ["row", "place"] []
  m_way : mg "way" = some (.ref f_way)
  f_last : Addr
  d_last : FuncData
  F_last : Fun K "last" "last" s_last f_last d_last
  b_last : Binds K d_last ["row", "place"] []
  m_last : mg "last" = some (.ref f_last)
  f_endings : Addr
  d_endings : FuncData
  F_endings : Fun K "endings" "endings" s_endings f_endings d_endings
  b_endings : Binds K d_endings ["row", "many"] []
  m_endings : mg "endings" = some (.ref f_endings)
  f_first_common : Addr
  d_first_common : FuncData
  F_first_common : Fun K "first_common" "first_common" s_first_common f_first_common d_first_common
  b_first_common : Binds K d_first_common ["row", "one", "other"] []
  m_first_common : mg "first_common" = some (.ref f_first_common)
  f_compared : Addr
  d_compared : FuncData
  F_compared : Fun K "compared" "compared" s_compared f_compared d_compared
  b_compared : Binds K d_compared ["row", "one", "other"] []
  m_compared : mg "compared" = some (.ref f_compared)
  f_run_by : Addr
  d_run_by : FuncData
  F_run_by : Fun K "run_by" "run_by" s_run_by f_run_by d_run_by
  b_run_by : Binds K d_run_by ["row", "many"] []
  m_run_by : mg "run_by" = some (.ref f_run_by)
  f_check_far : Addr
  d_check_far : FuncData
  F_check_far : Fun K "check_far" "check_far" s_check_far f_check_far d_check_far
  b_check_far : Binds K d_check_far ["many", "far"] []
  m_check_far : mg "check_far" = some (.ref f_check_far)
  f_power : Addr
  d_power : FuncData
  F_power : Fun K "power" "power" s_power f_power d_power
  b_power : Binds K d_power ["number", "many"] []
  m_power : mg "power" = some (.ref f_power)
  f_states : Addr
  d_states : FuncData
  F_states : Fun K "states" "states" s_states f_states d_states
  b_states : Binds K d_states ["cards", "many", "far"] []
  m_states : mg "states" = some (.ref f_states)
  f_meetings_of : Addr
  d_meetings_of : FuncData
  F_meetings_of : Fun K "meetings_of" "meetings_of" s_meetings_of f_meetings_of d_meetings_of
  b_meetings_of : Binds K d_meetings_of ["cards", "many", "far"] []
  m_meetings_of : mg "meetings_of" = some (.ref f_meetings_of)
  f_check_all : Addr
  d_check_all : FuncData
  F_check_all : Fun K "check_all" "check_all" s_check_all f_check_all d_check_all
  b_check_all : Binds K d_check_all ["cards", "many", "far"] []
  m_check_all : mg "check_all" = some (.ref f_check_all)
  f_meetings : Addr
  d_meetings : FuncData
  F_meetings : Fun K "meetings" "meetings" s_meetings f_meetings d_meetings
  b_meetings : Binds K d_meetings ["cards", "many", "far"] []
  m_meetings : mg "meetings" = some (.ref f_meetings)
  f__law_cell_at : Addr
  d__law_cell_at : FuncData
  F__law_cell_at : Fun K "_law_cell_at" "_law_cell_at" s__law_cell_at f__law_cell_at d__law_cell_at
  b__law_cell_at : Binds K d__law_cell_at ["_law_script", "_law_k"] []
  m__law_cell_at : mg "_law_cell_at" = some (.ref f__law_cell_at)
  f__law_draw : Addr
  d__law_draw : FuncData
  F__law_draw : Fun K "_law_draw" "_law_draw" s__law_draw f__law_draw d__law_draw
  b__law_draw : Binds K d__law_draw ["_law_cell", "_law_k", "_law_most"] []
  m__law_draw : mg "_law_draw" = some (.ref f__law_draw)
  f__law_number : Addr
  d__law_number : FuncData
  F__law_number : Fun K "_law_number" "_law_number" s__law_number f__law_number d__law_number
  b__law_number : Binds K d__law_number ["_law_cell", "_law_k", "_law_limit"] []
  m__law_number : mg "_law_number" = some (.ref f__law_number)
  f__law_deep : Addr
  d__law_deep : FuncData
  F__law_deep : Fun K "_law_deep" "_law_deep" s__law_deep f__law_deep d__law_deep
  b__law_deep : Binds K d__law_deep ["_law_thing"] []
  m__law_deep : mg "_law_deep" = some (.ref f__law_deep)
  f__law_spoilt : Addr
  d__law_spoilt : FuncData
  F__law_spoilt : Fun K "_law_spoilt" "_law_spoilt" s__law_spoilt f__law_spoilt d__law_spoilt
  b__law_spoilt : Binds K d__law_spoilt ["_law_found"] []
  m__law_spoilt : mg "_law_spoilt" = some (.ref f__law_spoilt)
  f__law_put : Addr
  d__law_put : FuncData
  F__law_put : Fun K "_law_put" "_law_put" s__law_put f__law_put d__law_put
  b__law_put : Binds K d__law_put ["_law_handed", "_law_some"] []
  m__law_put : mg "_law_put" = some (.ref f__law_put)
  f__law_door_right : Addr
  d__law_door_right : FuncData
  F__law_door_right : Fun K "_law_door_right" "_law_door_right" s__law_door_right f__law_door_right d__law_door_right
  b__law_door_right : Binds K d__law_door_right ["_law_ask", "_law_lists", "_law_others"] []
  m__law_door_right : mg "_law_door_right" = some (.ref f__law_door_right)
  f__law_two : Addr
  d__law_two : FuncData
  F__law_two : Fun K "_law_two" "_law_two" s__law_two f__law_two d__law_two
  b__law_two : Binds K d__law_two ["_law_found"] []
  m__law_two : mg "_law_two" = some (.ref f__law_two)
  f__law_doors_right : Addr
  d__law_doors_right : FuncData
  F__law_doors_right : Fun K "_law_doors_right" "_law_doors_right" s__law_doors_right f__law_doors_right d__law_doors_right
  b__law_doors_right : Binds K d__law_doors_right ["_law_asks", "_law_lists", "_law_others"] []
  m__law_doors_right : mg "_law_doors_right" = some (.ref f__law_doors_right)
  f__law_compared : Addr
  d__law_compared : FuncData
  F__law_compared : Fun K "_law_compared" "_law_compared" s__law_compared f__law_compared d__law_compared
  b__law_compared : Binds K d__law_compared ["_law_row", "_law_one", "_law_other"] []
  m__law_compared : mg "_law_compared" = some (.ref f__law_compared)
  f_law : Addr
  d_law : FuncData
  F_law : Fun K "law" "law" s_law f_law d_law
  b_law : Binds K d_law ["_law_script"] []
  m_law : mg "law" = some (.ref f_law)
  f_Meet_init : Addr
  d_Meet_init : FuncData
  F_Meet_init : Fun K "__init__" "Meet.__init__" s_Meet_init f_Meet_init d_Meet_init
  b_Meet_init : Binds K d_Meet_init ["self", "place"] []
  f_Meet_shows : Addr
  d_Meet_shows : FuncData
  F_Meet_shows : Fun K "shows" "Meet.shows" s_Meet_shows f_Meet_shows d_Meet_shows
  b_Meet_shows : Binds K d_Meet_shows ["self", "row", "one", "other"] []
  f_Apart_init : Addr
  d_Apart_init : FuncData
  F_Apart_init : Fun K "__init__" "Apart.__init__" s_Apart_init f_Apart_init d_Apart_init
  b_Apart_init : Binds K d_Apart_init ["self", "mine", "theirs"] []
  f_Apart_shows : Addr
  d_Apart_shows : FuncData
  F_Apart_shows : Fun K "shows" "Apart.shows" s_Apart_shows f_Apart_shows d_Apart_shows
  b_Apart_shows : Binds K d_Apart_shows ["self", "row", "one", "other"] []
  tc_law : Addr
  tp_law : Addr
  hc_law : d_law.code = .ref tc_law
  c_LONGEST : PSigma fun t : Tok => mg "LONGEST" = some (.int 60 t)
  c_GREATEST : PSigma fun t : Tok => mg "GREATEST" = some (.int 20 t)
  z_abs : mg "abs" = none
  z_all : mg "all" = none
  z_bool : mg "bool" = none
  z_int : mg "int" = none
  z_isinstance : mg "isinstance" = none
  z_len : mg "len" = none
  z_list : mg "list" = none
  z_min : mg "min" = none
  z_range : mg "range" = none
  z_sorted : mg "sorted" = none
  z_str : mg "str" = none
  z_tuple : mg "tuple" = none
  z_zip : mg "zip" = none
  a_Answer : Addr
  m_Answer : mg "Answer" = some (.ref a_Answer)
  a_Meet : Addr
  m_Meet : mg "Meet" = some (.ref a_Meet)
  a_Apart : Addr
  m_Apart : mg "Apart" = some (.ref a_Apart)
  cl_Meet : Cls K a_Meet
  k_Meet : Mk K a_Meet f_Meet_init
  n_Meet_place : NoAttr K a_Meet "place"
  me_Meet_shows : Meth K a_Meet "shows" f_Meet_shows
  ty_Meet : ∀ (H1 : Hp) (a dx : Addr) (fs : List (Str × V)), H1 a = some (.ins a_Meet dx fs) → TyOf K H1 (.ref a) (.ref a_Meet)
  cl_Apart : Cls K a_Apart
  k_Apart : Mk K a_Apart f_Apart_init
  n_Apart_mine : NoAttr K a_Apart "mine"
  n_Apart_theirs : NoAttr K a_Apart "theirs"
  me_Apart_shows : Meth K a_Apart "shows" f_Apart_shows
  ty_Apart : ∀ (H1 : Hp) (a dx : Addr) (fs : List (Str × V)), H1 a = some (.ins a_Apart dx fs) → TyOf K H1 (.ref a) (.ref a_Apart)
  ki_Meet_Meet : PySem.W.kitOne K (.ref a_Meet) (.ref a_Meet) = some true
  ki_Apart_Meet : PySem.W.kitOne K (.ref a_Apart) (.ref a_Meet) = some false
def tabsT {K : PySem.W.Frag} {mg : Str → Option Value} (T : Tx K mg) : List (Addr × Str) := [(T.tp_law, q_law)]
def sp_is_whole : Sp := fun vs H Q _ => ∃ i : Int, vs = [.int i] ∧ RetV (.bl true) H Q
theorem sv_is_whole {H : Hp} {i : Int} : SpV sp_is_whole ([.int i] ++ []) H (.bl true) := fun H1 _ Q q E => ⟨i, rfl, q⟩

/-! ### the program: rows -/
section
variable {P : Program} {w : World} {K : PySem.W.Frag} {mg : Str → Option Value} {base : Heap}
theorem ok_is_whole (T : Tx K mg) : FnOk P w K mg base CX0 1 T.f_is_whole T.d_is_whole ["thing"] sp_is_whole := by
  refine T.F_is_whole.ok sc_is_whole (fun vs H Q E h => ?_) (fun cdv A outer s H vs Q E hr h => ?_)
  · obtain ⟨i, rfl, _⟩ := h
    rfl
  · obtain ⟨i, rfl, k⟩ := h
    refine ⟨_, (pss_one (ps_ret (pe_and (pe_callB (r := rIsi K) call_isi (by rfl) T.z_isinstance (by decide +kernel) (pa_cons (pv 0) (pa_cons (pe_bltn (v := .ty "int") (by rfl) T.z_int (by decide +kernel) rfl) pa_nil))) (pe_one (pe_not (pe_callB (r := rIsi K) call_isi (by rfl) T.z_isinstance (by decide +kernel) (pa_cons (pv 0) (pa_cons (pe_bltn (v := .ty "bool") (by rfl) T.z_bool (by decide +kernel) rfl) pa_nil)))))))), ?_⟩
    refine s_ret (ev_andV (ev_isiB (K := K) (b := true) (ev_var rfl) (fun _ _ => tyx_int i) (by decide +kernel)) fun _ => ev_notV (ev_isiB (K := K) (b := false) (ev_var rfl) (fun _ _ => tyx_int i) (by decide +kernel))) ?_
    exact fun H1 e => k H1 e
end

section
variable {P : Program} {w : World} {K : PySem.W.Frag} {mg : Str → Option Value} {base : Heap}
def sp_check_row (K : PySem.W.Frag) : Sp := fun vs H Q _ => ∃ (a : Addr) (row : List Nat), vs = [.ref a] ∧ SqL K H a (vNs row) ∧ RowOk row ∧ RetV .non H Q
theorem ok_check_row (T : Tx K mg) : FnOk P w K mg base CX0 2 T.f_check_row T.d_check_row ["row"] (sp_check_row K) := by
  refine T.F_check_row.ok sc_check_row (fun vs H Q E h => ?_) (fun cdv A outer s H vs Q E hr h => ?_)
  · obtain ⟨a, row, rfl, _⟩ := h
    rfl
  · obtain ⟨a, row, rfl, hS, ok, k⟩ := h
    refine ⟨_, (pss_cons (ps_if (PW.pt (pw_or (pt_not (pt_val (pe_callB (r := rIsi K) call_isi (by rfl) T.z_isinstance (by decide +kernel) (pa_cons (pv 0) (pa_cons (pe_bltn (v := .ty "list") (by rfl) T.z_list (by decide +kernel) rfl) pa_nil))))) (pw_or1 (pt_not (pt_chain op_le op_le pe_int (pe_callB (r := Evl.rLenS K) call_len_seq (by rfl) T.z_len (by decide +kernel) (pa_cons (pv 0) pa_nil)) (pe_glob (v := .int 60) (by rfl) T.c_LONGEST.2 ⟨_, rfl⟩)))))) (pss_one ps_never) pss_nil)
      (pss_one (ps_if (pt_not (pt_val (pe_callB (r := rAll K) (cr_all rfl) (by rfl) T.z_all (by decide +kernel) (pa_cons (pe_lc (own := [("card", 1)]) (by rfl) sc_check_row.nd (pi_list (pv 0)) (blkOk_by (own := [("card", 1)]) (N := ["row", "card"]) (sc := defScope s_check_row) (by decide +kernel)) (fun _ _ _ _ _ => (pg_name (i := 1) sc_check_row.nd rfl (by first | exact Or.inl rfl | exact Or.inr rfl))) (fun _ _ _ _ _ => pts_nil) (fun _ _ _ _ _ => (pe_and (pe_call (ok_is_whole T) hr (by rfl) T.m_is_whole T.F_is_whole.kp T.b_is_whole .nil pass0 (pa_cons (pv 1) pa_nil)) (pe_one (pe_chain op_le op_le pe_int (pv 1) (pe_glob (v := .int 20) (by rfl) T.c_GREATEST.2 ⟨_, rfl⟩)))))) pa_nil)))) (pss_one ps_never) pss_nil))), ?_⟩
    have l1 := ok.l1
    have l60 := ok.l60
    have hlen : Ev (tCB (rLenS K) (tCons (tVar 0) tNil)) (start ["row", "card"] [.ref a]) H (vN row.length) := ev_to (ev_len (ev_var rfl) hS) (by rw [vNs_len]; rfl)
    refine q_when (b := false) (evT_to (et_or (et_not (et_B (ev_isiB (K := K) (b := true) (ev_var rfl) (fun H1 e => tyx_l (ex_l e hS)) (by decide +kernel)))) fun _ =>
      et_not (et_test (ev_chain ev_c hlen rv_I0 (fun _ => ev_c) fun _ => rv_I0))) ?_) (fun z => nomatch z) fun _ H1 e1 => ?_
    · rw [decide_eq_true (show (1 : Int) ≤ (row.length : Int) by omega), decide_eq_true (show (row.length : Int) ≤ 60 by omega)]
      rfl
    have hS1 : SqL K H1 a (vNs row) := ex_l e1 hS
    refine s_when (b := false) (evT_to (et_not (et_B (ev_allN (K := K) (bs := row.map fun _ => true) (el_to (el_mapL (K := K) (fun _ => V.bl true) (ev_var rfl) hS1 ?_ ?_) ?_)))) ?_) (fun z => nomatch z) fun _ H2 e2 => ?_
    · rw [vNs_len]
      omega
    · intro x hx H2 e2
      obtain ⟨c, hc, rfl⟩ := List.mem_map.mp hx
      have h1 := ok.c1 c hc
      have h20 := ok.c20 c hc
      refine ev_to (ev_andV (ev_call (ea_cons (ev_var rfl) ea_nil) sv_is_whole) fun _ => ev_chain ev_c (ev_var rfl) rv_I0 (fun _ => ev_c) fun _ => rv_I0) ?_
      rw [decide_eq_true (show (1 : Int) ≤ (c : Int) by omega), decide_eq_true (show (c : Int) ≤ 20 by omega)]
      rfl
    · unfold vNs
      rw [List.map_map, List.map_map]
      rfl
    · rw [List.all_map]
      simp
    · exact k H2 (e1.trans e2)
theorem sv_check_row {H : Hp} {a : Addr} {row : List Nat} (hS : SqL K H a (vNs row)) (ok : RowOk row) : SpV (sp_check_row K) ([.ref a] ++ []) H .non := fun H1 e Q q E => ⟨a, row, rfl, ex_l e hS, ok, q⟩
end

section
variable {P : Program} {w : World} {K : PySem.W.Frag} {mg : Str → Option Value} {base : Heap}
def sp_check_place (K : PySem.W.Frag) : Sp := fun vs H Q _ => ∃ (a : Addr) (xs : List V) (p : Nat), vs = [.ref a, vN p] ∧ SqL K H a xs ∧ p < xs.length ∧ RetV .non H Q
theorem ok_check_place (T : Tx K mg) : FnOk P w K mg base CX0 2 T.f_check_place T.d_check_place ["row", "place"] (sp_check_place K) := by
  refine T.F_check_place.ok sc_check_place (fun vs H Q E h => ?_) (fun cdv A outer s H vs Q E hr h => ?_)
  · obtain ⟨a, xs, p, rfl, _⟩ := h
    rfl
  · obtain ⟨a, xs, p, rfl, hS, hp, k⟩ := h
    refine ⟨_, (pss_one (ps_if (PW.pt (pw_or (pt_not (pt_val (pe_call (ok_is_whole T) hr (by rfl) T.m_is_whole T.F_is_whole.kp T.b_is_whole .nil pass0 (pa_cons (pv 1) pa_nil)))) (pw_or1 (pt_not (pt_chain op_le op_lt pe_int (pv 1) (pe_callB (r := Evl.rLenS K) call_len_seq (by rfl) T.z_len (by decide +kernel) (pa_cons (pv 0) pa_nil))))))) (pss_one ps_never) pss_nil)), ?_⟩
    refine s_when (b := false) (evT_to (et_or (et_not (et_B (ev_call (ea_cons (ev_var rfl) ea_nil) sv_is_whole))) fun _ =>
      et_not (et_test (ev_chain ev_c (ev_var rfl) rv_I0 (fun _ => ev_len (K := K) (ev_var rfl) hS) fun _ => rv_I0))) ?_) (fun z => nomatch z) fun _ H1 e1 => k H1 e1
    rw [decide_eq_true (show (0 : Int) ≤ (p : Int) by omega), decide_eq_true (show (p : Int) < (xs.length : Int) by omega)]
    rfl
theorem sv_check_place {H : Hp} {a : Addr} {xs : List V} {p : Nat} (hS : SqL K H a xs) (hp : p < xs.length) : SpV (sp_check_place K) ([.ref a, vN p] ++ []) H .non := fun H1 e Q q E => ⟨a, xs, p, rfl, ex_l e hS, hp, q⟩
end

section
variable {P : Program} {w : World} {K : PySem.W.Frag} {mg : Str → Option Value} {base : Heap}
def sp_check_count : Sp := fun vs H Q _ => ∃ c lo hi : Int, vs = [.int c, .int lo, .int hi] ∧ lo ≤ c ∧ c ≤ hi ∧ RetV .non H Q
theorem ok_check_count (T : Tx K mg) : FnOk P w K mg base CX0 2 T.f_check_count T.d_check_count ["count", "least", "most"] sp_check_count := by
  refine T.F_check_count.ok sc_check_count (fun vs H Q E h => ?_) (fun cdv A outer s H vs Q E hr h => ?_)
  · obtain ⟨c, lo, hi, rfl, _⟩ := h
    rfl
  · obtain ⟨c, lo, hi, rfl, h1, h2, k⟩ := h
    refine ⟨_, (pss_one (ps_if (PW.pt (pw_or (pt_not (pt_val (pe_call (ok_is_whole T) hr (by rfl) T.m_is_whole T.F_is_whole.kp T.b_is_whole .nil pass0 (pa_cons (pv 0) pa_nil)))) (pw_or1 (pt_not (pt_chain op_le op_le (pv 1) (pv 0) (pv 2)))))) (pss_one ps_never) pss_nil)), ?_⟩
    refine s_when (b := false) (evT_to (et_or (et_not (et_B (ev_call (ea_cons (ev_var rfl) ea_nil) sv_is_whole))) fun _ =>
      et_not (et_test (ev_chain (ev_var rfl) (ev_var rfl) rv_I0 (fun _ => ev_var rfl) fun _ => rv_I0))) ?_) (fun z => nomatch z) fun _ H1 e1 => k H1 e1
    rw [decide_eq_true h1, decide_eq_true h2]
    rfl
theorem sv_check_count {H : Hp} {c lo hi : Int} (h1 : lo ≤ c) (h2 : c ≤ hi) : SpV sp_check_count ([.int c, .int lo, .int hi] ++ []) H .non := fun H1 e Q q E => ⟨c, lo, hi, rfl, h1, h2, q⟩
end

section
variable {P : Program} {w : World} {K : PySem.W.Frag} {mg : Str → Option Value} {base : Heap}
def sp_way_from (K : PySem.W.Frag) : Sp := fun vs H Q _ => ∃ (a : Addr) (row : List Nat) (p : Nat), vs = [.ref a, vN p] ∧ SqL K H a (vNs row) ∧ RowOk row ∧ p < row.length ∧ RetL (vNs (way row p)) H Q
theorem ok_way_from (T : Tx K mg) : FnOk P w K mg base CX0 1 T.f_way_from T.d_way_from ["row", "place"] (sp_way_from K) := by
  refine T.F_way_from.ok sc_way_from (fun vs H Q E h => ?_) (fun cdv A outer s H vs Q E hr h => ?_)
  · obtain ⟨a, row, p, rfl, _⟩ := h
    rfl
  · obtain ⟨a, row, p, rfl, hS, ok, hp, k⟩ := h
    have l60 := ok.l60
    refine ⟨_, (pss_cons (ps_set (i := 2) sc_way_from.nd rfl (by first | exact Or.inl rfl | exact Or.inr rfl) (pe_lst (pa_cons (pv 1) pa_nil)))
      (pss_cons (ps_while PassesOwn.never (pt_cmpR op_lt (pe_op op_add (pe_ix (r := rIxL K) ix_list (pv 2) (pe_un un_neg pe_int) (fun _ _ => rfl)) (pe_ix (r := rIxL K) ix_list (pv 0) (pe_ix (r := rIxL K) ix_list (pv 2) (pe_un un_neg pe_int) (fun _ _ => rfl)) (fun _ _ => rfl))) (pe_callB (r := Evl.rLenS K) call_len_seq (by rfl) T.z_len (by decide +kernel) (pa_cons (pv 0) pa_nil)) (nomark _))
      (pss_one (ps_expr (pe_bm PySem.F.plainAttrs_list PySem.F.slot_list_append PySem.F.type_list_append mt_append (pv 2) (pa_cons (pe_op op_add (pe_ix (r := rIxL K) ix_list (pv 2) (pe_un un_neg pe_int) (fun _ _ => rfl)) (pe_ix (r := rIxL K) ix_list (pv 0) (pe_ix (r := rIxL K) ix_list (pv 2) (pe_un un_neg pe_int) (fun _ _ => rfl)) (fun _ _ => rfl))) pa_nil)))))
      (pss_one (ps_ret (pv 2))))), ?_⟩
    refine q_asgL (el_lst (ea_cons (ev_var rfl) ea_nil) (show 1 ≤ 100000 by decide)) fun f H1 nf e1 hf => ?_
    refine q_while (fun m σ H' => ∃ acc q, σ = [some (.ref a), some (vN p), some (.ref f)] ∧ q < row.length ∧ acc.length ≤ q ∧ acc ++ way row q = way row p ∧ Ex H H' ∧ H' f = some (.lst (vNs (acc ++ [q]))) ∧ m = row.length - q) (row.length - p)
      ⟨[], p, rfl, hp, Nat.zero_le _, rfl, e1, hf, rfl⟩ ?_
    rintro m σ' H' ⟨acc, q, rfl, hq, hal, hw, ex, hf, rfl⟩
    have hrow : SqL K H' a (vNs row) := ex_l ex hS
    have hc1 := ok.c1 _ (mem_getD hq)
    have hlast : ∀ {H2 : Hp}, Ex H' H2 → Ev (tOp (rIxL K) (tVar 2) (tUn (rU fun i => .int (-i)) (tC (.int 1)))) [some (.ref a), some (vN p), some (.ref f)] H2 (vN q) := fun e2 =>
      ev_op (ev_var rfl) (ev_un ev_c ru_neg) (rv_ixL (sq_of (e2 f _ hf)) (by rw [vNs_app]; exact atI_last _ _))
    have hnext : ∀ {H2 : Hp}, Ex H' H2 → Ev (tOp (rI0 fun i j => .int (i + j)) (tOp (rIxL K) (tVar 2) (tUn (rU fun i => .int (-i)) (tC (.int 1)))) (tOp (rIxL K) (tVar 0) (tOp (rIxL K) (tVar 2) (tUn (rU fun i => .int (-i)) (tC (.int 1)))))) [some (.ref a), some (vN p), some (.ref f)] H2 (vN (q + row.getD q 0)) := fun e2 =>
      ev_to (ev_op (hlast e2) (ev_op (ev_var rfl) (hlast e2) (rv_ixL (ex_l e2 hrow) (vNs_at (getD_some hq)))) rv_I0) (by unfold vN; rw [Int.natCast_add])
    refine ⟨decide ((q + row.getD q 0 : Nat) < (row.length : Int)), et_test (ev_to (ev_op (hnext (Ex.refl H')) (ev_len (K := K) (ev_var rfl) hrow) rv_I0) (by rw [vNs_len])), fun hb H2 e2 => ?_, fun hb H2 e2 => ?_⟩
    · have hlt : q + row.getD q 0 < row.length := by
        have := of_decide_eq_true hb
        omega
      refine ⟨fun σ3 H3 => σ3 = [some (.ref a), some (vN p), some (.ref f)] ∧ Ex H H3 ∧ H3 f = some (.lst (vNs ((acc ++ [q]) ++ [q + row.getD q 0]))), fun σ3 H3 ⟨e3, x3, f3⟩ => ?_, ?_⟩
      · refine ⟨row.length - (q + row.getD q 0), by omega, acc ++ [q], q + row.getD q 0, e3, hlt, ?_, ?_, x3, f3, rfl⟩
        · rw [List.length_append, List.length_singleton]
          omega
        · rw [List.append_assoc, List.singleton_append, ← way_go ok.c1 hq hlt]
          exact hw
      · refine s_app (e2 f _ hf) (ev_var rfl) (hnext e2) ?_ fun H3 e3 => ⟨rfl, ?_, ?_⟩
        · rw [vNs_len, List.length_append, List.length_singleton]
          omega
        · exact Ex.mut ((ex.trans e2).trans e3) nf
        · rw [upd_same, vNs_app _ [q + row.getD q 0]]
          rfl
    · have hge : ¬ q + row.getD q 0 < row.length := by
        have := of_decide_eq_false hb
        omega
      refine s_ret (ev_var rfl) fun H3 e3 => ?_
      refine k f H3 nf ((ex.trans e2).trans e3) ?_
      rw [e3 f _ (e2 f _ hf), ← hw, way_end ok.c1 hq hge]
theorem sl_way_from {H : Hp} {a : Addr} {row : List Nat} {p : Nat} (hS : SqL K H a (vNs row)) (ok : RowOk row) (hp : p < row.length) : SpL (sp_way_from K) ([.ref a, vN p] ++ []) H (vNs (way row p)) :=
  fun H1 e Q q E => ⟨a, row, p, rfl, ex_l e hS, ok, hp, q⟩
end

section
variable {P : Program} {w : World} {K : PySem.W.Frag} {mg : Str → Option Value} {base : Heap}
theorem ok_way (T : Tx K mg) : FnOk P w K mg base CX0 3 T.f_way T.d_way ["row", "place"] (sp_way_from K) := by
  refine T.F_way.ok sc_way (fun vs H Q E h => ?_) (fun cdv A outer s H vs Q E hr h => ?_)
  · obtain ⟨a, row, p, rfl, _⟩ := h
    rfl
  · obtain ⟨a, row, p, rfl, hS, ok, hp, k⟩ := h
    refine ⟨_, (pss_cons (ps_expr (pe_call (ok_check_row T) hr (by rfl) T.m_check_row T.F_check_row.kp T.b_check_row .nil pass0 (pa_cons (pv 0) pa_nil)))
      (pss_cons (ps_expr (pe_call (ok_check_place T) hr (by rfl) T.m_check_place T.F_check_place.kp T.b_check_place .nil pass0 (pa_cons (pv 0) (pa_cons (pv 1) pa_nil))))
      (pss_one (ps_ret (pe_call (ok_way_from T) (hr.mono (by decide)) (by rfl) T.m_way_from T.F_way_from.kp T.b_way_from .nil pass0 (pa_cons (pv 0) (pa_cons (pv 1) pa_nil))))))), ?_⟩
    refine q_drop (ev_call (ea_cons (ev_var rfl) ea_nil) (sv_check_row hS ok)) fun H1 e1 => ?_
    refine q_drop (ev_call (ea_cons (ev_var rfl) (ea_cons (ev_var rfl) ea_nil)) (sv_check_place (p := p) (ex_l e1 hS) (by rw [vNs_len]; exact hp))) fun H2 e2 => ?_
    refine s_retL (el_call (ea_cons (ev_var rfl) (ea_cons (ev_var rfl) ea_nil)) (sl_way_from (p := p) (ex_l (e1.trans e2) hS) ok hp)) fun f H3 nf e3 hf => ?_
    exact k f H3 (fresh_back (e1.trans e2) nf) ((e1.trans e2).trans e3) hf
def sp_last (K : PySem.W.Frag) : Sp := fun vs H Q _ => ∃ (a : Addr) (row : List Nat) (p : Nat), vs = [.ref a, vN p] ∧ SqL K H a (vNs row) ∧ RowOk row ∧ p < row.length ∧ RetV (vN (lastOf row p)) H Q
theorem ok_last (T : Tx K mg) : FnOk P w K mg base CX0 3 T.f_last T.d_last ["row", "place"] (sp_last K) := by
  refine T.F_last.ok sc_last (fun vs H Q E h => ?_) (fun cdv A outer s H vs Q E hr h => ?_)
  · obtain ⟨a, row, p, rfl, _⟩ := h
    rfl
  · obtain ⟨a, row, p, rfl, hS, ok, hp, k⟩ := h
    refine ⟨_, (pss_cons (ps_expr (pe_call (ok_check_row T) hr (by rfl) T.m_check_row T.F_check_row.kp T.b_check_row .nil pass0 (pa_cons (pv 0) pa_nil)))
      (pss_cons (ps_expr (pe_call (ok_check_place T) hr (by rfl) T.m_check_place T.F_check_place.kp T.b_check_place .nil pass0 (pa_cons (pv 0) (pa_cons (pv 1) pa_nil))))
      (pss_one (ps_ret (pe_ix (r := rIxL K) ix_list (pe_call (ok_way_from T) (hr.mono (by decide)) (by rfl) T.m_way_from T.F_way_from.kp T.b_way_from .nil pass0 (pa_cons (pv 0) (pa_cons (pv 1) pa_nil))) (pe_un un_neg pe_int) (fun _ _ => rfl)))))), ?_⟩
    refine q_drop (ev_call (ea_cons (ev_var rfl) ea_nil) (sv_check_row hS ok)) fun H1 e1 => ?_
    refine q_drop (ev_call (ea_cons (ev_var rfl) (ea_cons (ev_var rfl) ea_nil)) (sv_check_place (p := p) (ex_l e1 hS) (by rw [vNs_len]; exact hp))) fun H2 e2 => ?_
    refine s_ret (ev_ixN (K := K) (el_call (ea_cons (ev_var rfl) (ea_cons (ev_var rfl) ea_nil)) (sl_way_from (p := p) (ex_l (e1.trans e2) hS) ok hp)) (ev_un ev_c ru_neg) (v := vN (lastOf row p)) ?_) fun H3 e3 => k H3 ((e1.trans e2).trans e3)
    rw [way_split row p, vNs_app]
    exact atI_last _ _
theorem sv_last {H : Hp} {a : Addr} {row : List Nat} {p : Nat} (hS : SqL K H a (vNs row)) (ok : RowOk row) (hp : p < row.length) : SpV (sp_last K) ([.ref a, vN p] ++ []) H (vN (lastOf row p)) :=
  fun H1 e Q q E => ⟨a, row, p, rfl, ex_l e hS, ok, hp, q⟩
end

/-! ### the program: answers -/
section
variable {P : Program} {w : World} {K : PySem.W.Frag} {mg : Str → Option Value} {base : Heap}
def sp_first_common (K : PySem.W.Frag) : Sp := fun vs H Q _ => ∃ (a : Addr) (row : List Nat) (one other : Nat), vs = [.ref a, vN one, vN other] ∧ SqL K H a (vNs row) ∧ RowOk row ∧ one < row.length ∧ other < row.length ∧ RetV (optV (firstC row one other)) H Q
theorem ok_first_common (T : Tx K mg) : FnOk P w K mg base CX0 2 T.f_first_common T.d_first_common ["row", "one", "other"] (sp_first_common K) := by
  refine T.F_first_common.ok sc_first_common (fun vs H Q E h => ?_) (fun cdv A outer s H vs Q E hr h => ?_)
  · obtain ⟨a, row, one, other, rfl, _⟩ := h
    rfl
  · obtain ⟨a, row, one, other, rfl, hS, ok, h1, h2, k⟩ := h
    refine ⟨_, (pss_cons (ps_set (i := 3) sc_first_common.nd rfl (by first | exact Or.inl rfl | exact Or.inr rfl) (pe_call (ok_way_from T) hr (by rfl) T.m_way_from T.F_way_from.kp T.b_way_from .nil pass0 (pa_cons (pv 0) (pa_cons (pv 1) pa_nil))))
      (pss_cons (ps_setLc (i := 4) (own := [("place", 5)]) (by rfl) sc_first_common.nd rfl rfl (sw_true rfl rfl rfl (by decide +kernel)) (pi_list (pe_call (ok_way_from T) hr (by rfl) T.m_way_from T.F_way_from.kp T.b_way_from .nil pass0 (pa_cons (pv 0) (pa_cons (pv 2) pa_nil)))) (blkOk_by (own := [("place", 5)]) (N := ["row", "one", "other", "mine", "some", "place"]) (sc := defScope s_first_common) (by decide +kernel)) (fun _ _ _ _ _ => (pg_name (i := 5) sc_first_common.nd rfl (by first | exact Or.inl rfl | exact Or.inr rfl))) (fun _ _ _ _ _ => (pts_one (pt_cmpR (r := rIn K false) op_in_seq (pv 5) (pv 3) (by rfl)))) (fun _ _ _ _ _ => (pv 5)))
      (pss_one (ps_ret (pe_ifExp (pt_cmpR (r := rNeD K) (op_neD hr.units) (pv 4) (pe_lst pa_nil) (nomark _)) (pe_ix (r := rIxL K) ix_list (pv 4) pe_int (fun _ _ => rfl)) pe_non))))), ?_⟩
    have l60 := ok.l60
    refine q_asgL (el_call (ea_cons (ev_var rfl) (ea_cons (ev_var rfl) ea_nil)) (sl_way_from (p := one) hS ok h1)) fun m H1 nm e1 hm => ?_
    refine q_asgL (xs := vNs (bothL row one other)) (el_to (el_filtN (fun x => inV x (vNs (way row one))) (fun x => x) (el_call (ea_cons (ev_var rfl) (ea_cons (ev_var rfl) ea_nil)) (sl_way_from (p := other) (ex_l e1 hS) ok h2)) ?_ ?_ ?_) ?_) fun so H2 ns e2 hso => ?_
    · rw [vNs_len]
      have := way_len row other
      omega
    · intro x hx H2 e2
      obtain ⟨n, hn, rfl⟩ := List.mem_map.mp hx
      exact et_test (ev_op (ev_var rfl) (ev_var rfl) (rv_isL (K := K) (sq_of (e2 m _ hm)) rfl (flat_N _)))
    · intro x hx H2 e2 _
      exact ev_var rfl
    · rw [List.map_id', filt_N]
      rfl
    generalize hb : bothL row one other = both at hso
    have hv : optV (firstC row one other) = optV both.head? := by
      unfold firstC
      rw [hb]
    refine s_ret (v := optV (firstC row one other)) ?_ fun H3 e3 => k H3 ((e1.trans e2).trans e3)
    rw [hv]
    cases both with
    | nil =>
      exact ev_if (b := false) (evT_to (et_test (ev_neD (K := K) (ed_var rfl (dp_N (sq_of hso))) (en_lst ena_nil (show 0 ≤ 100000 by decide)).toD (by decide +kernel) (by decide +kernel))) (by decide +kernel)) (fun z => nomatch z) fun _ => ev_c
    | cons p r =>
      have gp : Good (pdN (p :: r)) := good_N (fun n hn => by
        have : n ∈ bothL row one other := by rw [hb]; exact hn
        have := way_lt h2 n (List.mem_filter.mp this).1
        omega) (by
        have h5 : (bothL row one other).length ≤ (way row other).length := List.length_filter_le ..
        rw [hb] at h5
        have := way_len row other
        omega)
      exact ev_if (b := true) (evT_to (et_test (ev_neD (K := K) (ed_var rfl (dp_N (sq_of hso))) (en_lst ena_nil (show 0 ≤ 100000 by decide)).toD gp.shaped (by decide +kernel))) rfl) (fun _ => ev_op (ev_var rfl) ev_c (rv_ixL (K := K) (sq_of hso) (i := 0) (v := vN p) (atI_nat (j := 0) rfl))) (fun z => nomatch z)
theorem sv_first_common {H : Hp} {a : Addr} {row : List Nat} {one other : Nat} (hS : SqL K H a (vNs row)) (ok : RowOk row) (h1 : one < row.length) (h2 : other < row.length) : SpV (sp_first_common K) ([.ref a, vN one, vN other] ++ []) H (optV (firstC row one other)) :=
  fun H1 e Q q E => ⟨a, row, one, other, rfl, ex_l e hS, ok, h1, h2, q⟩
/-! objects -/
def ansCls (T : Tx K mg) : Ans → Addr
  | .meet _ => T.a_Meet
  | .apart _ _ => T.a_Apart
def ansFs : Ans → List (Str × V)
  | .meet z => [("place", .int z)]
  | .apart m t => [("mine", .int m), ("theirs", .int t)]
def AnsAt (T : Tx K mg) (H : Hp) (f : Addr) (a : Ans) : Prop := ∃ dx, H f = some (.ins (ansCls T a) dx (ansFs a))
theorem AnsAt.ex {T : Tx K mg} {H H' : Hp} {f : Addr} {a : Ans} (h : AnsAt T H f a) (e : Ex H H') : AnsAt T H' f a := h.elim fun dx q => ⟨dx, e f _ q⟩
def fsMeet : List V → List (Str × V)
  | [v] => [("place", v)]
  | _ => []
def fsApart : List V → List (Str × V)
  | [v, u] => [("mine", v), ("theirs", u)]
  | _ => []
theorem ok_Meet_init (T : Tx K mg) : FnOk P w K mg base CX0 1 T.f_Meet_init T.d_Meet_init ["self", "place"] (spInit T.a_Meet 1 fsMeet) := by
  refine T.F_Meet_init.ok sc_Meet_init (fun vs H Q E h => ?_) (fun cdv A outer s H vs Q E hr h => ?_)
  · obtain ⟨x, dx, us, rfl, hl, _⟩ := h
    rw [List.length_cons, hl]
    rfl
  · obtain ⟨x, dx, us, rfl, hl, hx, k⟩ := h
    obtain ⟨v, rfl⟩ : ∃ v, us = [v] := by
      match us, hl with
      | [v], _ => exact ⟨v, rfl⟩
    refine ⟨_, (pss_one (ps_fld (pv 0) (pv 1) rfl)), ?_⟩
    exact ⟨v, rfl, .ref x, rfl, x, T.a_Meet, dx, [], rfl, hx, T.cl_Meet, T.n_Meet_place, by decide, k⟩
theorem ok_Apart_init (T : Tx K mg) : FnOk P w K mg base CX0 1 T.f_Apart_init T.d_Apart_init ["self", "mine", "theirs"] (spInit T.a_Apart 2 fsApart) := by
  refine T.F_Apart_init.ok sc_Apart_init (fun vs H Q E h => ?_) (fun cdv A outer s H vs Q E hr h => ?_)
  · obtain ⟨x, dx, us, rfl, hl, _⟩ := h
    rw [List.length_cons, hl]
    rfl
  · obtain ⟨x, dx, us, rfl, hl, hx, k⟩ := h
    obtain ⟨v, u, rfl⟩ : ∃ v u, us = [v, u] := by
      match us, hl with
      | [v, u], _ => exact ⟨v, u, rfl⟩
    refine ⟨_, (pss_cons (ps_fld (pv 0) (pv 1) rfl)
      (pss_one (ps_fld (pv 0) (pv 2) rfl))), ?_⟩
    refine ⟨v, rfl, .ref x, rfl, x, T.a_Apart, dx, [], rfl, hx, T.cl_Apart, T.n_Apart_mine, by decide, ?_⟩
    refine ⟨u, rfl, .ref x, rfl, x, T.a_Apart, dx, _, rfl, upd_same, T.cl_Apart, T.n_Apart_theirs, (show 1 < 1000 by decide), ?_⟩
    rw [upd_upd]
    exact k
end

section
variable {P : Program} {w : World} {K : PySem.W.Frag} {mg : Str → Option Value} {base : Heap}
def sp_shM (T : Tx K mg) : Sp := fun vs H Q _ => ∃ (f a : Addr) (z : Int) (row : List Nat) (one other : Nat), vs = [.ref f, .ref a, vN one, vN other] ∧ AnsAt T H f (.meet z) ∧ SqL K H a (vNs row) ∧ RowOk row ∧ one < row.length ∧ other < row.length ∧ RetV (.bl (shB row one other (.meet z))) H Q
def sp_shA (T : Tx K mg) : Sp := fun vs H Q _ => ∃ (f a : Addr) (m t : Int) (row : List Nat) (one other : Nat), vs = [.ref f, .ref a, vN one, vN other] ∧ AnsAt T H f (.apart m t) ∧ SqL K H a (vNs row) ∧ RowOk row ∧ one < row.length ∧ other < row.length ∧ RetV (.bl (shB row one other (.apart m t))) H Q
theorem shM_eq (z : Int) (o : Option Nat) : (match o with | some p => decide (z = (p : Int)) | none => false) = decide (V.int z = optV o) := by
  cases o with
  | none => rfl
  | some p =>
    show decide (z = (p : Int)) = decide (V.int z = V.int (p : Int))
    rw [Bool.eq_iff_iff, decide_eq_true_iff, decide_eq_true_iff]
    exact ⟨fun h => by rw [h], fun h => V.int.inj h⟩
theorem scal_opt (z : Int) (o : Option Nat) : scal (.int z) (optV o) = true := by
  cases o <;> rfl
theorem ok_Meet_shows (T : Tx K mg) : FnOk P w K mg base CX0 3 T.f_Meet_shows T.d_Meet_shows ["self", "row", "one", "other"] (sp_shM T) := by
  refine T.F_Meet_shows.ok sc_Meet_shows (fun vs H Q E h => ?_) (fun cdv A outer s H vs Q E hr h => ?_)
  · obtain ⟨f, a, z, row, one, other, rfl, _⟩ := h
    rfl
  · obtain ⟨f, a, z, row, one, other, rfl, ⟨dx, hf⟩, hS, ok, h1, h2, k⟩ := h
    refine ⟨_, (pss_one (ps_ret (pe_cmpR op_eq (show PE _ _ (tFld K _ _) from pe_fld (pv 0) rfl) (pe_call (ok_first_common T) hr (by rfl) T.m_first_common T.F_first_common.kp T.b_first_common .nil pass0 (pa_cons (pv 1) (pa_cons (pv 2) (pa_cons (pv 3) pa_nil)))) (nomark _)))), ?_⟩
    refine s_ret (ev_to (ev_op (ev_fld (K := K) (ev_var rfl) hf T.cl_Meet T.n_Meet_place rfl) (ev_call (ea_cons (ev_var rfl) (ea_cons (ev_var rfl) (ea_cons (ev_var rfl) ea_nil))) (sv_first_common hS ok h1 h2)) (rv_eq (scal_opt z _))) ?_) fun H1 e1 => k H1 e1
    rw [← shM_eq]
    rfl
theorem ok_Apart_shows (T : Tx K mg) : FnOk P w K mg base CX0 2 T.f_Apart_shows T.d_Apart_shows ["self", "row", "one", "other"] (sp_shA T) := by
  refine T.F_Apart_shows.ok sc_Apart_shows (fun vs H Q E h => ?_) (fun cdv A outer s H vs Q E hr h => ?_)
  · obtain ⟨f, a, m, t, row, one, other, rfl, _⟩ := h
    rfl
  · obtain ⟨f, a, m, t, row, one, other, rfl, ⟨dx, hf⟩, hS, ok, h1, h2, k⟩ := h
    refine ⟨_, (pss_cons (ps_if (pt_cmpR op_eq (show PE _ _ (tFld K _ _) from pe_fld (pv 0) rfl) (show PE _ _ (tFld K _ _) from pe_fld (pv 0) rfl) (nomark _)) (pss_one (ps_ret pe_bl)) pss_nil)
      (pss_one (ps_ret (pe_cmpR (r := rEqD K) (op_eqD hr.units) (pe_tup (pa_cons (show PE _ _ (tFld K _ _) from pe_fld (pv 0) rfl) (pa_cons (show PE _ _ (tFld K _ _) from pe_fld (pv 0) rfl) pa_nil))) (pe_tup (pa_cons (pe_ix (r := rIxL K) ix_list (pe_call (ok_way_from T) hr (by rfl) T.m_way_from T.F_way_from.kp T.b_way_from .nil pass0 (pa_cons (pv 1) (pa_cons (pv 2) pa_nil))) (pe_un un_neg pe_int) (fun _ _ => rfl)) (pa_cons (pe_ix (r := rIxL K) ix_list (pe_call (ok_way_from T) hr (by rfl) T.m_way_from T.F_way_from.kp T.b_way_from .nil pass0 (pa_cons (pv 1) (pa_cons (pv 3) pa_nil))) (pe_un un_neg pe_int) (fun _ _ => rfl)) pa_nil))) (nomark _))))), ?_⟩
    have fm : ∀ {H1 : Hp}, Ex H H1 → Ev (tFld K (tVar 0) "mine") (start ["self", "row", "one", "other"] [.ref f, .ref a, vN one, vN other]) H1 (.int m) := fun e => ev_fld (K := K) (ev_var rfl) (e f _ hf) T.cl_Apart T.n_Apart_mine rfl
    have ft : ∀ {H1 : Hp}, Ex H H1 → Ev (tFld K (tVar 0) "theirs") (start ["self", "row", "one", "other"] [.ref f, .ref a, vN one, vN other]) H1 (.int t) := fun e => ev_fld (K := K) (ev_var rfl) (e f _ hf) T.cl_Apart T.n_Apart_theirs rfl
    have eq1 : decide (V.int m = V.int t) = decide (m = t) := by
      rw [Bool.eq_iff_iff, decide_eq_true_iff, decide_eq_true_iff]
      exact ⟨fun h => V.int.inj h, fun h => by rw [h]⟩
    refine q_when (b := decide (m = t)) (evT_to (et_test (ev_op (fm (Ex.refl H)) (ft (Ex.refl H)) (rv_eq rfl))) eq1) (fun hb H1 e1 => ?_) fun hb H1 e1 => ?_
    · have hmt := of_decide_eq_true hb
      refine s_ret ev_c fun H2 e2 => ?_
      have this : Q (.bl (if m = t then false else (m == (lastOf row one : Int) && (t == (lastOf row other : Int) && true)))) H2 := k H2 (e1.trans e2)
      rw [if_pos hmt] at this
      exact this
    · have hmt := of_decide_eq_false hb
      have lst : ∀ {p : Nat}, p < row.length → atI (vNs (way row p)) (-1) = some (vN (lastOf row p)) := fun {p} _ => by
        rw [way_split row p, vNs_app]
        exact atI_last _ _
      refine s_ret (v := .bl (m == (lastOf row one : Int) && (t == (lastOf row other : Int) && true))) (ev_eqD (K := K) (d := .tuple [.int m, .int t]) (d' := .tuple [.int (lastOf row one : Int), .int (lastOf row other : Int)])
        (en_tup (ena_cons (en_int (fm e1)) (ena_cons (en_int (ft e1)) ena_nil)) (show 2 ≤ 100000 by decide)).toD
        (en_tup (ena_cons (en_N (ev_ixN (K := K) (el_call (ea_cons (ev_var rfl) (ea_cons (ev_var rfl) ea_nil)) (sl_way_from (p := one) (ex_l e1 hS) ok h1)) (ev_un ev_c ru_neg) (lst h1)))
          (ena_cons (en_N (ev_ixN (K := K) (el_call (ea_cons (ev_var rfl) (ea_cons (ev_var rfl) ea_nil)) (sl_way_from (p := other) (ex_l e1 hS) ok h2)) (ev_un ev_c ru_neg) (lst h2))) ena_nil)) (show 2 ≤ 100000 by decide)).toD rfl rfl) fun H2 e2 => ?_
      have this : Q (.bl (if m = t then false else (m == (lastOf row one : Int) && (t == (lastOf row other : Int) && true)))) H2 := k H2 (e1.trans e2)
      rw [if_neg hmt] at this
      exact this
theorem sv_shM {T : Tx K mg} {H : Hp} {f a : Addr} {z : Int} {row : List Nat} {one other : Nat} (hf : AnsAt T H f (.meet z)) (hS : SqL K H a (vNs row)) (ok : RowOk row) (h1 : one < row.length) (h2 : other < row.length) : SpV (sp_shM T) (.ref f :: ([.ref a, vN one, vN other] ++ [])) H (.bl (shB row one other (.meet z))) :=
  fun H1 e Q q E => ⟨f, a, z, row, one, other, rfl, hf.ex e, ex_l e hS, ok, h1, h2, q⟩
theorem sv_shA {T : Tx K mg} {H : Hp} {f a : Addr} {m t : Int} {row : List Nat} {one other : Nat} (hf : AnsAt T H f (.apart m t)) (hS : SqL K H a (vNs row)) (ok : RowOk row) (h1 : one < row.length) (h2 : other < row.length) : SpV (sp_shA T) (.ref f :: ([.ref a, vN one, vN other] ++ [])) H (.bl (shB row one other (.apart m t))) :=
  fun H1 e Q q E => ⟨f, a, m, t, row, one, other, rfl, hf.ex e, ex_l e hS, ok, h1, h2, q⟩
/-- found.shows(row, one, other), whichever it is -/
theorem ev_shows {T : Tx K mg} {σ : L2.St} {H : Hp} {f a : Addr} {an : Ans} {row : List Nat} {one other : Nat} {ta : TE} {tr : TA} {E1 E2 : XK} (hf : AnsAt T H f an) (hS : SqL K H a (vNs row)) (ok : RowOk row) (h1 : one < row.length) (h2 : other < row.length)
    (h : Ev ta σ H (.ref f)) (hr : EvA tr σ H [.ref a, vN one, vN other]) :
    Ev (fun σ H Q => tMeth T.a_Meet "shows" (sp_shM T) [] E1 ta tr σ H Q ∨ tMeth T.a_Apart "shows" (sp_shA T) [] E2 ta tr σ H Q) σ H (.bl (shB row one other an)) := by
  cases an with
  | meet z =>
    obtain ⟨dx, q⟩ := hf
    exact ev_orL (ev_meth h q rfl hr (sv_shM ⟨dx, q⟩ hS ok h1 h2))
  | apart m t =>
    obtain ⟨dx, q⟩ := hf
    exact ev_orR (ev_meth h q rfl hr (sv_shA ⟨dx, q⟩ hS ok h1 h2))
end

section
variable {P : Program} {w : World} {K : PySem.W.Frag} {mg : Str → Option Value} {base : Heap}
def sp_compared (T : Tx K mg) : Sp := fun vs H Q _ => ∃ (a : Addr) (row : List Nat) (one other : Nat), vs = [.ref a, vN one, vN other] ∧ SqL K H a (vNs row) ∧ RowOk row ∧ one < row.length ∧ other < row.length ∧ RetO (ansCls T (cmpA row one other)) (ansFs (cmpA row one other)) H Q
theorem ok_compared (T : Tx K mg) : FnOk P w K mg base CX0 3 T.f_compared T.d_compared ["row", "one", "other"] (sp_compared T) := by
  refine T.F_compared.ok sc_compared (fun vs H Q E h => ?_) (fun cdv A outer s H vs Q E hr h => ?_)
  · obtain ⟨a, row, one, other, rfl, _⟩ := h
    rfl
  · obtain ⟨a, row, one, other, rfl, hS, ok, h1, h2, k⟩ := h
    refine ⟨_, (pss_cons (ps_expr (pe_call (ok_check_row T) hr (by rfl) T.m_check_row T.F_check_row.kp T.b_check_row .nil pass0 (pa_cons (pv 0) pa_nil)))
      (pss_cons (ps_expr (pe_call (ok_check_place T) hr (by rfl) T.m_check_place T.F_check_place.kp T.b_check_place .nil pass0 (pa_cons (pv 0) (pa_cons (pv 1) pa_nil))))
      (pss_cons (ps_expr (pe_call (ok_check_place T) hr (by rfl) T.m_check_place T.F_check_place.kp T.b_check_place .nil pass0 (pa_cons (pv 0) (pa_cons (pv 2) pa_nil))))
      (pss_cons (ps_set (i := 3) sc_compared.nd rfl (by first | exact Or.inl rfl | exact Or.inr rfl) (pe_call (ok_first_common T) hr (by rfl) T.m_first_common T.F_first_common.kp T.b_first_common .nil pass0 (pa_cons (pv 0) (pa_cons (pv 1) (pa_cons (pv 2) pa_nil)))))
      (pss_cons (ps_if (pt_cmpR op_isN (pv 3) pe_non (nomark _)) (pss_one (ps_ret (pe_make T.k_Apart (ok_Apart_init T) (hr.mono (by decide)) (by rfl) T.m_Apart T.b_Apart_init .nil pass0 (pa_cons (pe_ix (r := rIxL K) ix_list (pe_call (ok_way_from T) (hr.mono (by decide)) (by rfl) T.m_way_from T.F_way_from.kp T.b_way_from .nil pass0 (pa_cons (pv 0) (pa_cons (pv 1) pa_nil))) (pe_un un_neg pe_int) (fun _ _ => rfl)) (pa_cons (pe_ix (r := rIxL K) ix_list (pe_call (ok_way_from T) (hr.mono (by decide)) (by rfl) T.m_way_from T.F_way_from.kp T.b_way_from .nil pass0 (pa_cons (pv 0) (pa_cons (pv 2) pa_nil))) (pe_un un_neg pe_int) (fun _ _ => rfl)) pa_nil))))) pss_nil)
      (pss_one (ps_ret (pe_make T.k_Meet (ok_Meet_init T) (hr.mono (by decide)) (by rfl) T.m_Meet T.b_Meet_init .nil pass0 (pa_cons (pv 3) pa_nil))))))))), ?_⟩
    refine q_drop (ev_call (ea_cons (ev_var rfl) ea_nil) (sv_check_row hS ok)) fun H1 e1 => ?_
    refine q_drop (ev_call (ea_cons (ev_var rfl) (ea_cons (ev_var rfl) ea_nil)) (sv_check_place (p := one) (ex_l e1 hS) (by rw [vNs_len]; exact h1))) fun H2 e2 => ?_
    refine q_drop (ev_call (ea_cons (ev_var rfl) (ea_cons (ev_var rfl) ea_nil)) (sv_check_place (p := other) (ex_l (e1.trans e2) hS) (by rw [vNs_len]; exact h2))) fun H3 e3 => ?_
    have e13 := (e1.trans e2).trans e3
    refine q_asg (ev_call (ea_cons (ev_var rfl) (ea_cons (ev_var rfl) (ea_cons (ev_var rfl) ea_nil))) (sv_first_common (ex_l e13 hS) ok h1 h2)) fun H4 e4 => ?_
    have e14 := e13.trans e4
    have lst : ∀ p : Nat, atI (vNs (way row p)) (-1) = some (vN (lastOf row p)) := fun p => by
      rw [way_split row p, vNs_app]
      exact atI_last _ _
    unfold cmpA at k
    cases hc : firstC row one other with
    | none =>
      rw [hc] at k
      refine q_when (b := true) (et_test (ev_op (ev_var rfl) ev_c rv_isN)) (fun _ H5 e5 => ?_) (fun z => nomatch z)
      have hS5 := ex_l (e14.trans e5) hS
      refine s_retO (eo_make (ea_cons (ev_ixN (K := K) (el_call (ea_cons (ev_var rfl) (ea_cons (ev_var rfl) ea_nil)) (sl_way_from (p := one) hS5 ok h1)) (ev_un ev_c ru_neg) (lst one)) (ea_cons (ev_ixN (K := K) (el_call (ea_cons (ev_var rfl) (ea_cons (ev_var rfl) ea_nil)) (sl_way_from (p := other) hS5 ok h2)) (ev_un ev_c ru_neg) (lst other)) ea_nil)) rfl) fun p dx H6 np e6 hp => ?_
      exact k p dx H6 (fresh_back (e14.trans e5) np) ((e14.trans e5).trans e6) hp
    | some p =>
      rw [hc] at k
      refine q_when (b := false) (et_test (ev_op (ev_var rfl) ev_c rv_isN)) (fun z => nomatch z) fun _ H5 e5 => ?_
      refine s_retO (eo_make (ea_cons (ev_var rfl) ea_nil) rfl) fun p dx H6 np e6 hp => ?_
      exact k p dx H6 (fresh_back (e14.trans e5) np) ((e14.trans e5).trans e6) hp
theorem so_compared {T : Tx K mg} {H : Hp} {a : Addr} {row : List Nat} {one other : Nat} (hS : SqL K H a (vNs row)) (ok : RowOk row) (h1 : one < row.length) (h2 : other < row.length) : SpO (sp_compared T) ([.ref a, vN one, vN other] ++ []) H (ansCls T (cmpA row one other)) (ansFs (cmpA row one other)) :=
  fun H1 e Q q E => ⟨a, row, one, other, rfl, ex_l e hS, ok, h1, h2, q⟩
end

section
variable {P : Program} {w : World} {K : PySem.W.Frag} {mg : Str → Option Value} {base : Heap}
theorem way_at (row : List Nat) (p : Nat) : atI (vNs (way row p)) (-1) = some (vN (lastOf row p)) := by
  rw [way_split row p, vNs_app]
  exact atI_last _ _
def endG (l : List Nat) : V → PyData
  | .int i => endP l i.toNat
  | _ => .none
theorem end_map (l rs : List Nat) : (vNs rs).map (endG l) = rs.map (endP l) := by
  unfold vNs
  rw [List.map_map]
  rfl
def sp_endings (K : PySem.W.Frag) : Sp := fun vs H Q _ => ∃ (a : Addr) (row : List Nat) (many : Nat), vs = [.ref a, vN many] ∧ SqL K H a (vNs row) ∧ RowOk row ∧ 1 ≤ many ∧ many ≤ row.length ∧ RetM K (endD (lastsL row many)) H Q
theorem ok_endings (T : Tx K mg) : FnOk P w K mg base CX0 3 T.f_endings T.d_endings ["row", "many"] (sp_endings K) := by
  refine T.F_endings.ok sc_endings (fun vs H Q E h => ?_) (fun cdv A outer s H vs Q E hr h => ?_)
  · obtain ⟨a, row, many, rfl, _⟩ := h
    rfl
  · obtain ⟨a, row, many, rfl, hS, ok, h1, h2, k⟩ := h
    refine ⟨_, (pss_cons (ps_expr (pe_call (ok_check_row T) hr (by rfl) T.m_check_row T.F_check_row.kp T.b_check_row .nil pass0 (pa_cons (pv 0) pa_nil)))
      (pss_cons (ps_expr (pe_call (ok_check_count T) hr (by rfl) T.m_check_count T.F_check_count.kp T.b_check_count .nil pass0 (pa_cons (pv 1) (pa_cons pe_int (pa_cons (pe_callB (r := Evl.rLenS K) call_len_seq (by rfl) T.z_len (by decide +kernel) (pa_cons (pv 0) pa_nil)) pa_nil)))))
      (pss_cons (ps_set (i := 2) sc_endings.nd rfl (by first | exact Or.inl rfl | exact Or.inr rfl) pe_dnewK)
      (pss_cons (ps_for PassesOwn.never rfl (pi_range1 (by rfl) T.z_range (pa_cons (pv 1) pa_nil)) (pg_name (i := 3) sc_endings.nd rfl (by first | exact Or.inl rfl | exact Or.inr rfl))
      (pss_cons (ps_set (i := 4) sc_endings.nd rfl (by first | exact Or.inl rfl | exact Or.inr rfl) (pe_ix (r := rIxL K) ix_list (pe_call (ok_way_from T) (hr.mono (by decide)) (by rfl) T.m_way_from T.F_way_from.kp T.b_way_from .nil pass0 (pa_cons (pv 0) (pa_cons (pv 3) pa_nil))) (pe_un un_neg pe_int) (fun _ _ => rfl)))
      (pss_one (ps_dput (hu_of hr) (pv 2) (pv 4) (pe_op op_add (pe_dget2 (hu_of hr) (pv 2) (pv 4) pe_int ⟨by rfl, by rfl, by rfl, by rfl⟩) pe_int) rfl))))
      (pss_one (ps_ret (pe_lc (own := [("there", 4)]) (by rfl) sc_endings.nd (pi_list (pe_callB (r := rSortDI) (call_sortedDI rfl) (by rfl) T.z_sorted (by decide +kernel) (pa_cons (pv 2) pa_nil))) (blkOk_by (own := [("there", 4)]) (N := ["row", "many", "found", "place", "there"]) (sc := defScope s_endings) (by decide +kernel)) (fun _ _ _ _ _ => (pg_name (i := 4) sc_endings.nd rfl (by first | exact Or.inl rfl | exact Or.inr rfl))) (fun _ _ _ _ _ => pts_nil) (fun _ _ _ _ _ => (pe_tup (pa_cons (pv 4) (pa_cons (pe_dget (hu_of hr) (pv 2) (pv 4) (fun _ _ => rfl)) pa_nil))))))))))), ?_⟩
    have l60 := ok.l60
    refine q_drop (ev_call (ea_cons (ev_var rfl) ea_nil) (sv_check_row hS ok)) fun H1 e1 => ?_
    refine q_drop (ev_call (ea_cons (ev_var rfl) (ea_cons ev_c (ea_cons (ev_len (K := K) (ev_var rfl) (ex_l e1 hS)) ea_nil))) (sv_check_count (c := (many : Int)) (by omega) (by rw [vNs_len]; omega))) fun H2 e2 => ?_
    refine q_dnew fun f H3 nf e3 hf => ?_
    have e03 := (e1.trans e2).trans e3
    have nf0 : H f = none := fresh_back (e1.trans e2) nf
    have hlt := lasts_lt (row := row) h2
    refine q_forR1 (n := (many : Int)) (ea_cons (ev_var rfl) ea_nil) ⟨by omega, by omega⟩ (fun i σ' H' => ∃ y3 y4 kvs, σ' = [some (.ref a), some (vN many), some (.ref f), y3, y4] ∧ Ex H H' ∧ H' f = some (.dK kvs) ∧ Tal ((lastsL row many).take i) kvs)
      (fun H4 e4 => ⟨none, none, [], rfl, e03.trans e4, e4 f _ hf, by rw [List.take_zero]; exact Tal.nil⟩) ?_ ?_
    · rintro i σ' H4 hi ⟨y3, y4, kvs, rfl, e4, hf4, tal⟩
      have hi' : i < many := by omega
      have hlt4 : ∀ n ∈ (lastsL row many).take i, n < 60 := fun n hn => Nat.lt_of_lt_of_le (hlt n (List.mem_of_mem_take hn)) l60
      refine q_asg (v := vN (lastOf row i)) (ev_ixN (K := K) (el_call (ea_cons (ev_var rfl) (ea_cons (ev_var rfl) ea_nil)) (sl_way_from (p := i) (ex_l e4 hS) ok (by omega))) (ev_un ev_c ru_neg) (way_at row i)) fun H5 e5 => ?_
      have hf5 := e5 f _ hf4
      have hget : (valV kvs (Sum.inl ((lastOf row i : Nat) : Int))).getD (.int 0) = vN (((lastsL row many).take i).count (lastOf row i)) := by
        rw [tal.vals]
        split
        · rfl
        · rename_i hm
          rw [List.count_eq_zero.mpr hm]
          rfl
      refine s_dput (k := Sum.inl ((lastOf row i : Nat) : Int)) (v := vN (((lastsL row many).take i).count (lastOf row i) + 1)) hf5 (ev_to (ev_op (ev_to (ev_get2 (k := Sum.inl ((lastOf row i : Nat) : Int)) (ev_var rfl) hf5 (ev_var rfl) ev_c) hget) ev_c rv_I0) ?_) (ev_var rfl) (ev_var rfl) (by have := tal.len hlt4; omega) fun H6 e6 => ?_
      · show V.int _ = V.int _
        rw [Int.natCast_add]
        rfl
      · refine ⟨_, _, _, rfl, Ex.mut ((e4.trans e5).trans e6) nf0, upd_same, ?_⟩
        rw [lasts_take hi']
        exact tal.put _
    · rintro σ' H4 ⟨y3, y4, kvs, rfl, e4, hf4, tal⟩
      rw [Int.toNat_natCast, List.take_of_length_le (by rw [lasts_len]; exact Nat.le_refl _)] at tal
      have hlt60 : ∀ n ∈ lastsL row many, n < 60 := fun n hn => Nat.lt_of_lt_of_le (hlt n hn) l60
      generalize lastsL row many = l at *
      obtain ⟨ks, hk1, hk2, hk3⟩ := tal.keys
      have hkl := nodup_len 60 ks hk2 fun n hn => hlt60 n ((hk3 n).mp hn)
      refine s_retM (ds := endD l) ?_ (k.back e4)
      have em := em_mapN (K := K) (σ := [some (.ref a), some (vN many), some (.ref f), y3, y4]) (H := H4) (te := tTup (tCons (tVar 4) (tCons (tDGet (tVar 2) (tVar 4)) tNil))) (tl := tCB rSortDI (tCons (tVar 2) tNil)) (j := 4) (vs := [4]) (xs := vNs (riseL l)) (endG l) (el_sortD (ev_var rfl) hf4 hk1 (by omega) hk2 (rise_rise l) fun n => (hk3 n).trans (rise_mem hlt60 n)) (by rw [vNs_len]; have := rise_len l; omega) (fun x hx H5 e5 => by
        obtain ⟨n, hn, rfl⟩ := List.mem_map.mp hx
        have hnl : n ∈ l := (rise_mem hlt60 n).mpr hn
        exact en_tup (ena_cons (en_N (ev_var rfl)) (ena_cons (en_N (ev_dget (k := Sum.inl (n : Int)) (ev_var rfl) (e5 f _ hf4) (ev_var rfl) (by rw [tal.vals, if_pos hnl]; rfl))) ena_nil)) (show 2 ≤ 100000 by decide))
      rw [end_map] at em
      exact em
theorem sm_endings {H : Hp} {a : Addr} {row : List Nat} {many : Nat} (hS : SqL K H a (vNs row)) (ok : RowOk row) (h1 : 1 ≤ many) (h2 : many ≤ row.length) : SpM K (sp_endings K) ([.ref a, vN many] ++ []) H (endD (lastsL row many)) :=
  fun H1 e Q q E => ⟨a, row, many, rfl, ex_l e hS, ok, h1, h2, q⟩
end

section
variable {P : Program} {w : World} {K : PySem.W.Frag} {mg : Str → Option Value} {base : Heap}
theorem runL_lt {row : List Nat} {k : Nat} (h : 0 < row.length) : ∀ n ∈ runL row k, n < row.length := fun n hn => way_lt h n (List.mem_filter.mp hn).1
theorem runL_len (row : List Nat) (k : Nat) : (runL row k).length ≤ row.length + 1 := Nat.le_trans (List.length_filter_le ..) (way_len row 0)
theorem good_run {row : List Nat} {k : Nat} (h : 0 < row.length) (h60 : row.length ≤ 60) : Good (pdN (runL row k)) := good_N (fun n hn => by have := runL_lt h n hn; omega) (by have := runL_len row k; omega)
/-- some[0] if some != [] else None -/
theorem ev_head {σ : L2.St} {H : Hp} {i : Nat} {a : Addr} {l : List Nat} (hv : σ[i]? = some (some (.ref a))) (ha : SqL K H a (vNs l)) (g : Good (pdN l)) :
    Ev (tIf (tTest (tOp (rNeD K) (tVar i) (tLst tNil))) (tOp (rIxL K) (tVar i) (tC (.int 0))) (tC .non)) σ H (optV l.head?) := by
  cases l with
  | nil => exact ev_if (b := false) (evT_to (et_test (ev_neD (K := K) (ed_var hv (dp_N ha)) (en_lst ena_nil (show 0 ≤ 100000 by decide)).toD g.shaped (by decide +kernel))) (by decide +kernel)) (fun z => nomatch z) fun _ => ev_c
  | cons p r => exact ev_if (b := true) (evT_to (et_test (ev_neD (K := K) (ed_var hv (dp_N ha)) (en_lst ena_nil (show 0 ≤ 100000 by decide)).toD g.shaped (by decide +kernel))) rfl) (fun _ => ev_op (ev_var hv) ev_c (rv_ixL (K := K) ha (i := 0) (v := vN p) (atI_nat (j := 0) rfl))) (fun z => nomatch z)
def sp_run_by (K : PySem.W.Frag) : Sp := fun vs H Q _ => ∃ (a : Addr) (row : List Nat) (many : Nat), vs = [.ref a, vN many] ∧ SqL K H a (vNs row) ∧ RowOk row ∧ 1 ≤ many ∧ many ≤ row.length ∧ RetV (optV (runBy row many)) H Q
theorem ok_run_by (T : Tx K mg) : FnOk P w K mg base CX0 3 T.f_run_by T.d_run_by ["row", "many"] (sp_run_by K) := by
  refine T.F_run_by.ok sc_run_by (fun vs H Q E h => ?_) (fun cdv A outer s H vs Q E hr h => ?_)
  · obtain ⟨a, row, many, rfl, _⟩ := h
    rfl
  · obtain ⟨a, row, many, rfl, hS, ok, h1, h2, k⟩ := h
    refine ⟨_, (pss_cons (ps_expr (pe_call (ok_check_row T) hr (by rfl) T.m_check_row T.F_check_row.kp T.b_check_row .nil pass0 (pa_cons (pv 0) pa_nil)))
      (pss_cons (ps_expr (pe_call (ok_check_count T) hr (by rfl) T.m_check_count T.F_check_count.kp T.b_check_count .nil pass0 (pa_cons (pv 1) (pa_cons pe_int (pa_cons (pe_callB (r := Evl.rLenS K) call_len_seq (by rfl) T.z_len (by decide +kernel) (pa_cons (pv 0) pa_nil)) pa_nil)))))
      (pss_cons (ps_set (i := 2) sc_run_by.nd rfl (by first | exact Or.inl rfl | exact Or.inr rfl) (pe_call (ok_way_from T) (hr.mono (by decide)) (by rfl) T.m_way_from T.F_way_from.kp T.b_way_from .nil pass0 (pa_cons (pv 0) (pa_cons pe_int pa_nil))))
      (pss_cons (ps_for PassesOwn.never rfl (pi_range2 (by rfl) T.z_range (pa_cons pe_int (pa_cons (pv 1) pa_nil))) (pg_name (i := 3) sc_run_by.nd rfl (by first | exact Or.inl rfl | exact Or.inr rfl))
      (pss_cons (ps_set (i := 4) sc_run_by.nd rfl (by first | exact Or.inl rfl | exact Or.inr rfl) (pe_call (ok_way_from T) (hr.mono (by decide)) (by rfl) T.m_way_from T.F_way_from.kp T.b_way_from .nil pass0 (pa_cons (pv 0) (pa_cons (pv 3) pa_nil))))
      (pss_one (ps_setLc (i := 2) (own := [("there", 5)]) (by rfl) sc_run_by.nd rfl rfl (sw_true rfl rfl rfl (by decide +kernel)) (pi_list (pv 2)) (blkOk_by (own := [("there", 5)]) (N := ["row", "many", "some", "place", "mine", "there"]) (sc := defScope s_run_by) (by decide +kernel)) (fun _ _ _ _ _ => (pg_name (i := 5) sc_run_by.nd rfl (by first | exact Or.inl rfl | exact Or.inr rfl))) (fun _ _ _ _ _ => (pts_one (pt_cmpR (r := rIn K false) op_in_seq (pv 5) (pv 4) (by rfl)))) (fun _ _ _ _ _ => (pv 5))))))
      (pss_one (ps_ret (pe_ifExp (pt_cmpR (r := rNeD K) (op_neD hr.units) (pv 2) (pe_lst pa_nil) (nomark _)) (pe_ix (r := rIxL K) ix_list (pv 2) pe_int (fun _ _ => rfl)) pe_non))))))), ?_⟩
    have l1 := ok.l1
    have l60 := ok.l60
    refine q_drop (ev_call (ea_cons (ev_var rfl) ea_nil) (sv_check_row hS ok)) fun H1 e1 => ?_
    refine q_drop (ev_call (ea_cons (ev_var rfl) (ea_cons ev_c (ea_cons (ev_len (K := K) (ev_var rfl) (ex_l e1 hS)) ea_nil))) (sv_check_count (c := (many : Int)) (by omega) (by rw [vNs_len]; omega))) fun H2 e2 => ?_
    have e02 := e1.trans e2
    refine q_asgL (el_call (ea_cons (ev_var rfl) (ea_cons ev_c ea_nil)) (sl_way_from (p := 0) (ex_l e02 hS) ok (by omega))) fun so H3 nso e3 hso => ?_
    refine q_forR2 (lo := 1) (n := (many : Int)) (ea_cons ev_c (ea_cons (ev_var rfl) ea_nil)) ⟨by decide, by decide, by omega, by omega⟩ (fun i σ' H' => ∃ y3 y4 so, σ' = [some (.ref a), some (vN many), some (.ref so), y3, y4, none] ∧ Ex H H' ∧ H' so = some (.lst (vNs (runL row (i + 1)))))
      (fun H4 e4 => ⟨none, none, so, rfl, (e02.trans e3).trans e4, by rw [runL_one]; exact e4 so _ hso⟩) ?_ ?_
    · rintro i σ' H4 hi ⟨y3, y4, so, rfl, e4, hso4⟩
      have hb : ((1 : Int) + (i : Int)) = ((i + 1 : Nat) : Int) := by omega
      rw [hb]
      refine q_asgL (el_call (ea_cons (ev_var rfl) (ea_cons (ev_var rfl) ea_nil)) (sl_way_from (p := i + 1) (ex_l e4 hS) ok (by omega))) fun m H5 nm e5 hm => ?_
      have hso5 := e5 so _ hso4
      refine s_asgL (xs := vNs (runL row (i + 1 + 1))) (el_to (el_filtL (K := K) (fun x => inV x (vNs (way row (i + 1)))) (fun x => x) (ev_var rfl) (sq_of hso5) ?_ ?_ ?_) ?_) fun so2 H6 nso2 e6 hso6 => ⟨_, _, so2, rfl, (e4.trans e5).trans e6, hso6⟩
      · rw [vNs_len]
        have := runL_len row (i + 1)
        omega
      · intro x hx H6 e6
        obtain ⟨n, hn, rfl⟩ := List.mem_map.mp hx
        exact et_test (ev_op (ev_var rfl) (ev_var rfl) (rv_isL (K := K) (sq_of (e6 m _ hm)) rfl (flat_N _)))
      · intro x hx H6 e6 _
        exact ev_var rfl
      · rw [List.map_id', filt_N, runL_succ row (i + 1)]
    · rintro σ' H4 ⟨y3, y4, so, rfl, e4, hso4⟩
      have em : ((many : Int) - 1).toNat + 1 = many := by omega
      rw [em] at hso4
      exact s_ret (ev_head (K := K) rfl (sq_of hso4) (good_run (by omega) l60)) fun H5 e5 => k H5 (e4.trans e5)
theorem sv_run_by {H : Hp} {a : Addr} {row : List Nat} {many : Nat} (hS : SqL K H a (vNs row)) (ok : RowOk row) (h1 : 1 ≤ many) (h2 : many ≤ row.length) : SpV (sp_run_by K) ([.ref a, vN many] ++ []) H (optV (runBy row many)) :=
  fun H1 e Q q E => ⟨a, row, many, rfl, ex_l e hS, ok, h1, h2, q⟩
end

/-! ### the program: shares -/
section
variable {P : Program} {w : World} {K : PySem.W.Frag} {mg : Str → Option Value} {base : Heap}
def sp_power : Sp := fun vs H Q _ => ∃ b n : Nat, vs = [vN b, vN n] ∧ b ≤ 20 ∧ n ≤ 60 ∧ RetV (vN (b ^ n)) H Q
theorem ok_power (T : Tx K mg) : FnOk P w K mg base CX0 1 T.f_power T.d_power ["number", "many"] sp_power := by
  refine T.F_power.ok sc_power (fun vs H Q E h => ?_) (fun cdv A outer s H vs Q E hr h => ?_)
  · obtain ⟨b, n, rfl, _⟩ := h
    rfl
  · obtain ⟨b, n, rfl, hb, hn, k⟩ := h
    refine ⟨_, (pss_cons (ps_set (i := 2) sc_power.nd rfl (by first | exact Or.inl rfl | exact Or.inr rfl) pe_int)
      (pss_cons (ps_for PassesOwn.never rfl (pi_range1 (by rfl) T.z_range (pa_cons (pv 1) pa_nil)) (pg_name (i := 3) sc_power.nd rfl (by first | exact Or.inl rfl | exact Or.inr rfl))
      (pss_one (ps_set (i := 2) sc_power.nd rfl (by first | exact Or.inl rfl | exact Or.inr rfl) (pe_op op_mulX (pv 2) (pv 0)))))
      (pss_one (ps_ret (pv 2))))), ?_⟩
    refine q_asg (v := vN 1) ev_c fun H1 e1 => ?_
    refine q_forR1 (n := (n : Int)) (ea_cons (ev_var rfl) ea_nil) ⟨by omega, by omega⟩ (fun i σ' H' => ∃ y3, σ' = [some (vN b), some (vN n), some (vN (b ^ i)), y3] ∧ Ex H H') (fun H2 e2 => ⟨none, rfl, e1.trans e2⟩) ?_ ?_
    · rintro i σ' H2 hi ⟨y3, rfl, e2⟩
      refine s_asg (v := vN (b ^ (i + 1))) (ev_to (ev_op (ev_var rfl) (ev_var rfl) (rv_I (mulok_right (by omega) (by omega)))) ?_) fun H3 e3 => ⟨_, rfl, e2.trans e3⟩
      show V.int _ = V.int _
      rw [Nat.pow_succ, Int.natCast_mul]
    · rintro σ' H2 ⟨y3, rfl, e2⟩
      rw [Int.toNat_natCast]
      exact s_ret (ev_var rfl) fun H3 e3 => k H3 (e2.trans e3)
theorem sv_power {H : Hp} {b n : Nat} (hb : b ≤ 20) (hn : n ≤ 60) : SpV sp_power ([vN b, vN n] ++ []) H (vN (b ^ n)) := fun H1 e Q q E => ⟨b, n, rfl, hb, hn, q⟩
def sp_check_far : Sp := fun vs H Q _ => ∃ m far : Nat, vs = [vN m, vN far] ∧ far < m ∧ RetV .non H Q
theorem ok_check_far (T : Tx K mg) : FnOk P w K mg base CX0 2 T.f_check_far T.d_check_far ["many", "far"] sp_check_far := by
  refine T.F_check_far.ok sc_check_far (fun vs H Q E h => ?_) (fun cdv A outer s H vs Q E hr h => ?_)
  · obtain ⟨m, far, rfl, _⟩ := h
    rfl
  · obtain ⟨m, far, rfl, hf, k⟩ := h
    refine ⟨_, (pss_one (ps_if (PW.pt (pw_or (pt_not (pt_val (pe_call (ok_is_whole T) hr (by rfl) T.m_is_whole T.F_is_whole.kp T.b_is_whole .nil pass0 (pa_cons (pv 1) pa_nil)))) (pw_or1 (pt_not (pt_chain op_le op_lt pe_int (pv 1) (pv 0)))))) (pss_one ps_never) pss_nil)), ?_⟩
    refine s_when (b := false) (evT_to (et_or (et_not (et_B (ev_call (ea_cons (ev_var rfl) ea_nil) sv_is_whole))) fun _ =>
      et_not (et_test (ev_chain ev_c (ev_var rfl) rv_I0 (fun _ => ev_var rfl) fun _ => rv_I0))) ?_) (fun z => nomatch z) fun _ H1 e1 => k H1 e1
    rw [decide_eq_true (show (0 : Int) ≤ (far : Int) by omega), decide_eq_true (show (far : Int) < (m : Int) by omega)]
    rfl
theorem sv_check_far {H : Hp} {m far : Nat} (h : far < m) : SpV sp_check_far ([vN m, vN far] ++ []) H .non := fun H1 e Q q E => ⟨m, far, rfl, h, q⟩
structure ShOk (c m far : Nat) : Prop where
  c1 : 1 ≤ c
  c20 : c ≤ 20
  m1 : 1 ≤ m
  m60 : m ≤ 60
  fl : far < m
def sp_check_all : Sp := fun vs H Q _ => ∃ c m far : Nat, vs = [vN c, vN m, vN far] ∧ ShOk c m far ∧ RetV .non H Q
theorem ok_check_all (T : Tx K mg) : FnOk P w K mg base CX0 3 T.f_check_all T.d_check_all ["cards", "many", "far"] sp_check_all := by
  refine T.F_check_all.ok sc_check_all (fun vs H Q E h => ?_) (fun cdv A outer s H vs Q E hr h => ?_)
  · obtain ⟨c, m, far, rfl, _⟩ := h
    rfl
  · obtain ⟨c, m, far, rfl, ok, k⟩ := h
    refine ⟨_, (pss_cons (ps_expr (pe_call (ok_check_count T) hr (by rfl) T.m_check_count T.F_check_count.kp T.b_check_count .nil pass0 (pa_cons (pv 0) (pa_cons pe_int (pa_cons (pe_glob (v := .int 20) (by rfl) T.c_GREATEST.2 ⟨_, rfl⟩) pa_nil)))))
      (pss_cons (ps_expr (pe_call (ok_check_count T) hr (by rfl) T.m_check_count T.F_check_count.kp T.b_check_count .nil pass0 (pa_cons (pv 1) (pa_cons pe_int (pa_cons (pe_glob (v := .int 60) (by rfl) T.c_LONGEST.2 ⟨_, rfl⟩) pa_nil)))))
      (pss_one (ps_expr (pe_call (ok_check_far T) hr (by rfl) T.m_check_far T.F_check_far.kp T.b_check_far .nil pass0 (pa_cons (pv 1) (pa_cons (pv 2) pa_nil))))))), ?_⟩
    have h1 := ok.c1
    have h2 := ok.c20
    have h3 := ok.m1
    have h4 := ok.m60
    refine q_drop (ev_call (ea_cons (ev_var rfl) (ea_cons ev_c (ea_cons ev_c ea_nil))) (sv_check_count (c := (c : Int)) (by omega) (by omega))) fun H1 e1 => ?_
    refine q_drop (ev_call (ea_cons (ev_var rfl) (ea_cons ev_c (ea_cons ev_c ea_nil))) (sv_check_count (c := (m : Int)) (by omega) (by omega))) fun H2 e2 => ?_
    refine s_drop (ev_call (ea_cons (ev_var rfl) (ea_cons (ev_var rfl) ea_nil)) (sv_check_far ok.fl)) fun H3 e3 => k H3 ((e1.trans e2).trans e3)
theorem sv_check_all {H : Hp} {c m far : Nat} (ok : ShOk c m far) : SpV sp_check_all ([vN c, vN m, vN far] ++ []) H .non := fun H1 e Q q E => ⟨c, m, far, rfl, ok, q⟩
/-! the table of states -/
theorem min_int (a k : Nat) : V.int (if (a : Int) < (k : Int) then (a : Int) else (k : Int)) = vN (min k a) := by
  show V.int _ = V.int _
  congr 1
  split <;> omega
theorem gap_int (a k : Nat) : V.int (if (a : Int) - (k : Int) < 0 then -((a : Int) - (k : Int)) else (a : Int) - (k : Int)) = vN (gap a k) := by
  show V.int _ = V.int _
  congr 1
  unfold gap
  split <;> omega
def sp_states : Sp := fun vs H Q _ => ∃ c m far : Nat, vs = [vN c, vN m, vN far] ∧ ShOk c m far ∧ ∀ f fs H2, DictsAt H H2 f fs (tabS c m far m) m → Bd (tabS c m far m) (m * 1200) → Q (.ref f) H2
theorem ok_states (T : Tx K mg) : FnOk P w K mg base CX0 2 T.f_states T.d_states ["cards", "many", "far"] sp_states := by
  refine T.F_states.ok sc_states (fun vs H Q E h => ?_) (fun cdv A outer s H vs Q E hr h => ?_)
  · obtain ⟨c, m, far, rfl, _⟩ := h
    rfl
  · obtain ⟨c, m, far, rfl, ok, k⟩ := h
    refine ⟨_, (pss_cons (ps_setLc (i := 3) (own := [("place", 4)]) (by rfl) sc_states.nd rfl rfl (sw_true rfl rfl rfl (by decide +kernel)) (pi_range1 (by rfl) T.z_range (pa_cons (pv 1) pa_nil)) (blkOk_by (own := [("place", 4)]) (N := ["cards", "many", "far", "found", "place", "ahead", "often", "card", "there", "left", "free"]) (sc := defScope s_states) (by decide +kernel)) (fun _ _ _ _ _ => (pg_name (i := 4) sc_states.nd rfl (by first | exact Or.inl rfl | exact Or.inr rfl))) (fun _ _ _ _ _ => pts_nil) (fun _ _ _ _ _ => pe_dnewK))
      (pss_cons (ps_dput (hu_of hr) (pe_ix (r := rIxL K) ix_list (pv 3) pe_int (fun _ _ => rfl)) (pv 2) pe_int rfl)
      (pss_cons (ps_for PassesOwn.never rfl (pi_range1 (by rfl) T.z_range (pa_cons (pv 1) pa_nil)) (pg_name (i := 4) sc_states.nd rfl (by first | exact Or.inl rfl | exact Or.inr rfl))
      (pss_one (ps_for PassesOwn.never rfl (pi_list (pe_callB (r := rSortDI) (call_sortedDI rfl) (by rfl) T.z_sorted (by decide +kernel) (pa_cons (pe_ix (r := rIxL K) ix_list (pv 3) (pv 4) (fun _ _ => rfl)) pa_nil))) (pg_name (i := 5) sc_states.nd rfl (by first | exact Or.inl rfl | exact Or.inr rfl))
      (pss_cons (ps_set (i := 6) sc_states.nd rfl (by first | exact Or.inl rfl | exact Or.inr rfl) (pe_dget (hu_of hr) (pe_ix (r := rIxL K) ix_list (pv 3) (pv 4) (fun _ _ => rfl)) (pv 5) (fun _ _ => rfl)))
      (pss_one (ps_for PassesOwn.never rfl (pi_range2 (by rfl) T.z_range (pa_cons pe_int (pa_cons (pe_op op_add (pv 0) pe_int) pa_nil))) (pg_name (i := 7) sc_states.nd rfl (by first | exact Or.inl rfl | exact Or.inr rfl))
      (pss_cons (ps_par (i := 8) (j := 9) (by rfl) sc_states.nd rfl rfl (by decide) rfl rfl (pa_cons (pe_op op_add (pv 4) (pe_callB (call_min2 rfl) (by rfl) T.z_min (by decide +kernel) (pa_cons (pv 7) (pa_cons (pv 5) pa_nil)))) (pa_cons (pe_callB call_abs (by rfl) T.z_abs (by decide +kernel) (pa_cons (pe_op op_sub (pv 5) (pv 7)) pa_nil)) pa_nil)) (by rfl))
      (pss_one (ps_if (PW.pt (pw_and (pt_cmpR op_gt (pv 5) pe_int (nomark _)) (pw_and1 (pt_cmpR op_lt (pe_op op_add (pv 8) (pv 9)) (pv 1) (nomark _))))) (pss_cons (ps_set (i := 10) sc_states.nd rfl (by first | exact Or.inl rfl | exact Or.inr rfl) (pe_call (ok_power T) hr (by rfl) T.m_power T.F_power.kp T.b_power .nil pass0 (pa_cons (pv 0) (pa_cons (pe_op op_sub (pe_callB (call_min2 rfl) (by rfl) T.z_min (by decide +kernel) (pa_cons (pv 7) (pa_cons (pv 5) pa_nil))) pe_int) pa_nil))))
      (pss_one (ps_dput (hu_of hr) (pe_ix (r := rIxL K) ix_list (pv 3) (pv 8) (fun _ _ => rfl)) (pv 9) (pe_op op_add (pe_dget2 (hu_of hr) (pe_ix (r := rIxL K) ix_list (pv 3) (pv 8) (fun _ _ => rfl)) (pv 9) pe_int ⟨by rfl, by rfl, by rfl, by rfl⟩) (pe_op op_mulX (pv 6) (pv 10))) rfl))) pss_nil)))))))))
      (pss_one (ps_ret (pv 3)))))), ?_⟩
    have hc1 := ok.c1
    have hc20 := ok.c20
    have hm1 := ok.m1
    have hm60 := ok.m60
    have hfl := ok.fl
    refine q_dicts (n := m) (ea_cons (ev_var rfl) ea_nil) (by omega) fun f fs H1 d1 => ?_
    obtain ⟨a0, ha0, _⟩ := d1.at (p := 0) hm1
    obtain ⟨kv0, ks0, hk0, rp0⟩ := d1.tab 0 a0 ha0
    refine q_dput (k := Sum.inl (far : Int)) (v := vN 1) hk0 ev_c (ev_dict (K := K) d1 ha0 (ev_var rfl) ev_c) (ev_var rfl) (by have := rp0.len; omega) fun H2 e2 => ?_
    have d2 : DictsAt H (upd H2 a0 (.dK (putK kv0 (Sum.inl (far : Int)) (vN 1)))) f fs (initT far) m := by
      have := (d1.go e2).put (v := 1) ha0 (e2 a0 _ hk0) rp0 hfl
      have e : addT (fun _ _ => 0) 0 far 1 = initT far := by
        funext q l
        unfold addT initT
        split <;> rfl
      rw [e] at this
      exact this
    generalize upd H2 a0 (.dK (putK kv0 (Sum.inl (far : Int)) (vN 1))) = H3 at d2
    refine q_forR1 (n := (m : Int)) (ea_cons (ev_var rfl) ea_nil) ⟨by omega, by omega⟩
      (fun i σ' H' => ∃ y4 y5 y6 y7 y8 y9 y10, σ' = [some (vN c), some (vN m), some (vN far), some (.ref f), y4, y5, y6, y7, y8, y9, y10] ∧ DictsAt H H' f fs (tabS c m far i) m ∧ Bd (tabS c m far i) (i * 1200))
      (fun H4 e4 => ⟨none, none, none, none, none, none, none, rfl, d2.go e4, Bd.init far⟩) ?_ ?_
    · -- a place
      rintro p σ' H4 hp ⟨y4, y5, y6, y7, y8, y9, y10, rfl, d4, b4⟩
      have hp' : p < m := by omega
      obtain ⟨ap, hap, hapm⟩ := d4.at hp'
      obtain ⟨kv, ks, hkv, rp⟩ := d4.tab p ap hap
      generalize ht0 : tabS c m far p = t0 at d4 b4 rp
      have hks := nodup_len m ks rp.nd rp.lt
      generalize hrs : (List.range m).filter (fun a => decide (a ∈ ks)) = rs
      have rsr : rs.Pairwise (· < ·) := by
        rw [← hrs]
        exact List.pairwise_lt_range.filter _
      have rsm : ∀ n, n ∈ ks ↔ n ∈ rs := fun n => by
        rw [← hrs, List.mem_filter, decide_eq_true_iff, List.mem_range]
        exact ⟨fun z => ⟨rp.lt n z, z⟩, fun z => z.2⟩
      have rsl : rs.length ≤ m := by
        rw [← hrs]
        have := List.length_filter_le (fun a => decide (a ∈ ks)) (List.range m)
        rw [List.length_range] at this
        exact this
      refine s_forNL (K := K) (xs := vNs rs) (el_sortD (ev_dict (K := K) d4 hap (ev_var rfl) (ev_var rfl)) hkv rp.keys (by omega) rp.nd rsr rsm)
        (fun L i σ' H' => ∃ y5 y6 y7 y8 y9 y10, σ' = [some (vN c), some (vN m), some (vN far), some (.ref f), some (vN p), y5, y6, y7, y8, y9, y10] ∧ H' L = some (.lst (vNs rs)) ∧ L ∉ fs ∧ H' ap = some (.dK kv) ∧ DictsAt H H' f fs ((rs.take i).foldl (aheadS c m p) t0) m ∧ Bd ((rs.take i).foldl (aheadS c m p) t0) (p * 1200 + i * 20))
        (fun L H5 nL e5 hL => ⟨_, _, _, _, _, _, rfl, hL, ?_, e5 ap _ hkv, d4.go e5, b4⟩) (fun L i σ' H' _ ⟨_, _, _, _, _, _, _, h, _⟩ => sq_of h) ?_ ?_
      · intro z
        obtain ⟨ix, hix, hix2⟩ := List.getElem_of_mem z
        obtain ⟨kv2, ks2, h2, _⟩ := d4.tab ix L (by rw [List.getElem?_eq_getElem hix, hix2])
        rw [h2] at nL
        cases nL
      · -- a distance
        rintro L i x σ' H5 hx ⟨y5, y6, y7, y8, y9, y10, rfl, hL, nLf, hap5, d5, b5⟩
        obtain ⟨a, har, rfl⟩ := List.mem_map.mp (List.mem_of_getElem? hx)
        have hra : rs[i]? = some a := by
          unfold vNs at hx
          rw [List.getElem?_map] at hx
          cases e : rs[i]? with
          | none => rw [e] at hx; cases hx
          | some z =>
            rw [e] at hx
            have e2 : (z : Int) = (a : Int) := V.int.inj (Option.some.inj hx)
            rw [show z = a by omega]
        have hak : a ∈ ks := (rsm a).mpr har
        have ham : a < m := rp.lt a hak
        have hil : i < rs.length := (List.getElem?_eq_some_iff.mp hra).1
        generalize ht1 : (rs.take i).foldl (aheadS c m p) t0 = t1 at d5 b5
        have hta : t1 p a = t0 p a := by
          rw [← ht1]
          exact aheadF_old (Nat.le_refl p) _ _
        show tSeq _ _ _ _ _
        refine q_asg (v := vN (t1 p a)) (ev_dget (k := Sum.inl (a : Int)) (ev_dict (K := K) d5 hap (ev_var rfl) (ev_var rfl)) hap5 (ev_var rfl) (by rw [rp.vals, if_pos hak, hta])) fun H6 e6 => ?_
        have d6 := d5.go e6
        refine s_forR2 (lo := 1) (n := (c : Int) + 1) (ea_cons ev_c (ea_cons (ev_op (ev_var rfl) ev_c rv_I0) ea_nil)) ⟨by decide, by decide, by omega, by omega⟩
          (fun n σ' H' => ∃ y7 y8 y9 y10, σ' = [some (vN c), some (vN m), some (vN far), some (.ref f), some (vN p), some (vN a), some (vN (t1 p a)), y7, y8, y9, y10] ∧ H' L = some (.lst (vNs rs)) ∧ H' ap = some (.dK kv) ∧ DictsAt H H' f fs (cardsS c m p a (t1 p a) t1 n) m ∧ Bd (cardsS c m p a (t1 p a) t1 n) (p * 1200 + i * 20 + n))
          (fun H7 e7 => ⟨_, _, _, _, rfl, e7 L _ (e6 L _ hL), e7 ap _ (e6 ap _ hap5), d6.go e7, b5⟩) ?_ ?_
        · -- a card
          rintro n σ' H7 hn ⟨y7, y8, y9, y10, rfl, hL7, hap7, d7, b7⟩
          have hb : ((1 : Int) + (n : Int)) = ((n + 1 : Nat) : Int) := by omega
          rw [hb]
          generalize ht2 : cardsS c m p a (t1 p a) t1 n = t2 at d7 b7
          have hwb : t1 p a < 2 ^ (90 * (p * 1200 + i * 20 + n) + 1) := (b5.mono (by omega)) p a
          have b8 : Bd (cardS c m p a (t1 p a) t2 (n + 1)) (p * 1200 + i * 20 + n + 1) := b7.card hwb hc20 (by omega)
          have hnx : cardsS c m p a (t1 p a) t1 (n + 1) = cardS c m p a (t1 p a) t2 (n + 1) := by rw [cardsS_succ, ht2]
          refine q_par (x := vN (p + min (n + 1) a)) (y := vN (gap a (n + 1))) (ea_cons (ev_to (ev_op (ev_var rfl) (ev_to (ev_min2 (ev_var rfl) (ev_var rfl)) (min_int a (n + 1))) rv_I0) ?_) (ea_cons (ev_to (ev_abs (ev_op (ev_var rfl) (ev_var rfl) rv_I0)) (gap_int a (n + 1))) ea_nil)) fun H8 e8 => ?_
          · show V.int _ = V.int _
            rw [Int.natCast_add]
          have d8 := d7.go e8
          refine s_when (b := decide (0 < a ∧ (p + min (n + 1) a) + gap a (n + 1) < m)) (evT_to (et_and (et_test (ev_op (ev_var rfl) ev_c rv_I0)) fun _ => et_test (ev_op (ev_op (ev_var rfl) (ev_var rfl) rv_I0) (ev_var rfl) rv_I0)) ?_) (fun hbb H9 e9 => ?_) fun hbb H9 e9 => ?_
          · rw [Bool.eq_iff_iff, Bool.and_eq_true, decide_eq_true_iff, decide_eq_true_iff, decide_eq_true_iff]
            constructor
            · rintro ⟨h1, h2⟩
              exact ⟨by omega, by omega⟩
            · rintro ⟨h1, h2⟩
              exact ⟨by omega, by omega⟩
          · obtain ⟨ha0', hqm⟩ := of_decide_eq_true hbb
            have d9 := d8.go e9
            have e29 := e8.trans e9
            refine q_asg (v := vN (c ^ (min (n + 1) a - 1))) (ev_call (ea_cons (ev_var rfl) (ea_cons (ev_to (ev_op (ev_to (ev_min2 (ev_var rfl) (ev_var rfl)) (min_int a (n + 1))) ev_c rv_I0) (w := vN (min (n + 1) a - 1)) ?_) ea_nil)) (sv_power hc20 (by omega))) fun H10 e10 => ?_
            · show V.int _ = V.int _
              rw [show ((min (n + 1) a : Nat) : Int) - 1 = ((min (n + 1) a - 1 : Nat) : Int) by omega]
            have d10 := d9.go e10
            obtain ⟨aq, haq, haqm⟩ := d10.at (p := p + min (n + 1) a) (by omega)
            obtain ⟨kvq, ksq, hkq, rpq⟩ := d10.tab _ aq haq
            have hne : aq ≠ ap := fun z => by
              subst z
              have := nd_ix d10.nd haq hap
              omega
            have hlm : gap a (n + 1) < m := by omega
            refine s_dput (k := Sum.inl ((gap a (n + 1) : Nat) : Int)) (v := vN (t2 (p + min (n + 1) a) (gap a (n + 1)) + t1 p a * c ^ (min (n + 1) a - 1))) hkq (ev_to (ev_op (ev_to (ev_get2 (k := Sum.inl ((gap a (n + 1) : Nat) : Int)) (ev_dict (K := K) d10 haq (ev_var rfl) (ev_var rfl)) hkq (ev_var rfl) ev_c) (rpq.get _)) (ev_op (ev_var rfl) (ev_var rfl) (rv_I (mulok_bits ?_))) rv_I0) ?_) (ev_dict (K := K) d10 haq (ev_var rfl) (ev_var rfl)) (ev_var rfl) (by have := rpq.len; omega) fun H11 e11 => ?_
            · have w1 : Builtin.Int.intBits ((t1 p a : Nat) : Int) ≤ 90 * (p * 1200 + i * 20 + n) + 1 := bits_of_lt (by rw [Int.natAbs_natCast]; exact hwb)
              have w2 : Builtin.Int.intBits ((c ^ (min (n + 1) a - 1) : Nat) : Int) ≤ 83 := bits_of_lt (by rw [Int.natAbs_natCast]; exact pow_bd hc20 (by omega))
              omega
            · show V.int _ = V.int _
              rw [Int.natCast_add, Int.natCast_mul]
            · have dN := (d10.go e11).put (v := t1 p a * c ^ (min (n + 1) a - 1)) haq (e11 aq _ hkq) rpq hlm
              have nLq : L ≠ aq := fun z => nLf (by rw [z]; exact haqm)
              refine ⟨_, _, _, _, rfl, ?_, ?_, ?_, ?_⟩
              · rw [upd_ne nLq]
                exact e11 L _ (e10 L _ (e29 L _ hL7))
              · rw [upd_ne (Ne.symm hne)]
                exact e11 ap _ (e10 ap _ (e29 ap _ hap7))
              · rw [hnx]
                unfold cardS
                rw [if_pos ⟨ha0', hqm⟩]
                exact dN
              · rw [hnx]
                exact b8
          · have hno := of_decide_eq_false hbb
            have e29 := e8.trans e9
            refine ⟨_, _, _, _, rfl, e29 L _ hL7, e29 ap _ hap7, ?_, ?_⟩
            · rw [hnx]
              unfold cardS
              rw [if_neg hno]
              exact d7.go e29
            · rw [hnx]
              exact b8
        · rintro σ' H7 ⟨y7, y8, y9, y10, rfl, hL7, hap7, d7, b7⟩
          have ec : ((c : Int) + 1 - 1).toNat = c := by omega
          rw [ec] at d7 b7
          refine ⟨_, _, _, _, _, _, rfl, hL7, nLf, hap7, ?_, ?_⟩
          · rw [foldl_take (aheadS c m p) t0 hra, ht1]
            exact d7
          · rw [foldl_take (aheadS c m p) t0 hra, ht1]
            exact b7.mono (by omega)
      · rintro L σ' H5 ⟨y5, y6, y7, y8, y9, y10, rfl, hL, nLf, hap5, d5, b5⟩
        rw [vNs_len, List.take_length] at d5 b5
        have ef : rs.foldl (aheadS c m p) t0 = tabS c m far (p + 1) := by
          rw [tabS_succ, ht0, ← hrs]
          exact aheadF_keys (fun a => decide (a ∈ ks)) (List.range m) t0 fun a ha => rp.zero a (of_decide_eq_false ha)
        rw [ef] at d5 b5
        exact ⟨_, _, _, _, _, _, _, rfl, d5, b5.mono (by omega)⟩
    · rintro σ' H4 ⟨y4, y5, y6, y7, y8, y9, y10, rfl, d4, b4⟩
      rw [Int.toNat_natCast] at d4 b4
      exact s_ret (ev_var rfl) fun H5 e5 => k f fs H5 (d4.go e5) b4
end

section
variable {P : Program} {w : World} {K : PySem.W.Frag} {mg : Str → Option Value} {base : Heap}
theorem pow260 {c n : Nat} (hc : c ≤ 20) (hn : n ≤ 60) : c ^ n < 2 ^ 260 := by
  have h1 : c ^ n ≤ 20 ^ n := Nat.pow_le_pow_left hc n
  have h2 : 20 ^ n ≤ 20 ^ 60 := Nat.pow_le_pow_right (by decide) hn
  have h3 : (20 : Nat) ^ 60 < 2 ^ 260 := by decide
  omega
def sp_meetings : Sp := fun vs H Q _ => ∃ c m far : Nat, vs = [vN c, vN m, vN far] ∧ ShOk c m far ∧ RetL (vNs (meetL c m far)) H Q
theorem ok_meetings_of (T : Tx K mg) : FnOk P w K mg base CX0 3 T.f_meetings_of T.d_meetings_of ["cards", "many", "far"] sp_meetings := by
  refine T.F_meetings_of.ok sc_meetings_of (fun vs H Q E h => ?_) (fun cdv A outer s H vs Q E hr h => ?_)
  · obtain ⟨c, m, far, rfl, _⟩ := h
    rfl
  · obtain ⟨c, m, far, rfl, ok, k⟩ := h
    refine ⟨_, (pss_cons (ps_set (i := 3) sc_meetings_of.nd rfl (by first | exact Or.inl rfl | exact Or.inr rfl) (pe_call (ok_states T) hr (by rfl) T.m_states T.F_states.kp T.b_states .nil pass0 (pa_cons (pv 0) (pa_cons (pv 1) (pa_cons (pv 2) pa_nil)))))
      (pss_one (ps_ret (pe_lc (own := [("place", 4)]) (by rfl) sc_meetings_of.nd (pi_range1 (by rfl) T.z_range (pa_cons (pv 1) pa_nil)) (blkOk_by (own := [("place", 4)]) (N := ["cards", "many", "far", "found", "place"]) (sc := defScope s_meetings_of) (by decide +kernel)) (fun _ _ _ _ _ => (pg_name (i := 4) sc_meetings_of.nd rfl (by first | exact Or.inl rfl | exact Or.inr rfl))) (fun _ _ _ _ _ => pts_nil) (fun _ _ _ _ _ => (pe_op op_mulX (pe_dget2 (hu_of hr) (pe_ix (r := rIxL K) ix_list (pv 3) (pv 4) (fun _ _ => rfl)) pe_int pe_int ⟨by rfl, by rfl, by rfl, by rfl⟩) (pe_call (ok_power T) (hr.mono (by decide)) (by rfl) T.m_power T.F_power.kp T.b_power .nil pass0 (pa_cons (pv 0) (pa_cons (pe_op op_sub (pv 1) (pv 4)) pa_nil))))))))), ?_⟩
    have hm60 := ok.m60
    refine ⟨vN c, rfl, vN m, rfl, vN far, rfl, c, m, far, rfl, ok, fun f fs H1 d1 b1 => ?_⟩
    refine s_retL (xs := vNs (meetL c m far)) (el_to (el_mapR (n := m) (fun q => vN (tabS c m far m q 0 * c ^ (m - q))) (ea_cons (ev_var rfl) ea_nil) (by omega) ?_) ?_) fun p H2 np e2 hp => k p H2 (fresh_back d1.ex np) (d1.ex.trans e2) hp
    · intro q hq H2 e2
      have d2 := d1.go e2
      obtain ⟨a, ha, _⟩ := d2.at hq
      obtain ⟨kv, ks, hk, rp⟩ := d2.tab q a ha
      refine ev_to (ev_op (ev_to (ev_get2 (k := Sum.inl ((0 : Nat) : Int)) (ev_dict (K := K) d2 ha (ev_var rfl) (ev_var rfl)) hk ev_c ev_c) (rp.get 0)) (ev_call (ea_cons (ev_var rfl) (ea_cons (ev_to (ev_op (ev_var rfl) (ev_var rfl) rv_I0) (w := vN (m - q)) ?_) ea_nil)) (sv_power ok.c20 (by omega))) (rv_I (mulok_bits ?_))) ?_
      · show V.int _ = V.int _
        rw [show ((m : Int) - (q : Int)) = ((m - q : Nat) : Int) by omega]
      · have w1 : Builtin.Int.intBits ((tabS c m far m q 0 : Nat) : Int) ≤ 90 * (m * 1200) + 1 := bits_of_lt (by rw [Int.natAbs_natCast]; exact b1 q 0)
        have w2 : Builtin.Int.intBits ((c ^ (m - q) : Nat) : Int) ≤ 260 := bits_of_lt (by rw [Int.natAbs_natCast]; exact pow260 ok.c20 (by omega))
        omega
      · show V.int _ = V.int _
        rw [Int.natCast_mul]
    · unfold meetL vNs
      rw [List.map_map]
      rfl
theorem sl_meetings {H : Hp} {c m far : Nat} (ok : ShOk c m far) : SpL sp_meetings ([vN c, vN m, vN far] ++ []) H (vNs (meetL c m far)) := fun H1 e Q q E => ⟨c, m, far, rfl, ok, q⟩
theorem ok_meetings (T : Tx K mg) : FnOk P w K mg base CX0 4 T.f_meetings T.d_meetings ["cards", "many", "far"] sp_meetings := by
  refine T.F_meetings.ok sc_meetings (fun vs H Q E h => ?_) (fun cdv A outer s H vs Q E hr h => ?_)
  · obtain ⟨c, m, far, rfl, _⟩ := h
    rfl
  · obtain ⟨c, m, far, rfl, ok, k⟩ := h
    refine ⟨_, (pss_cons (ps_expr (pe_call (ok_check_all T) hr (by rfl) T.m_check_all T.F_check_all.kp T.b_check_all .nil pass0 (pa_cons (pv 0) (pa_cons (pv 1) (pa_cons (pv 2) pa_nil)))))
      (pss_one (ps_ret (pe_call (ok_meetings_of T) hr (by rfl) T.m_meetings_of T.F_meetings_of.kp T.b_meetings_of .nil pass0 (pa_cons (pv 0) (pa_cons (pv 1) (pa_cons (pv 2) pa_nil))))))), ?_⟩
    refine q_drop (ev_call (ea_cons (ev_var rfl) (ea_cons (ev_var rfl) (ea_cons (ev_var rfl) ea_nil))) (sv_check_all ok)) fun H1 e1 => ?_
    exact s_retL (el_call (ea_cons (ev_var rfl) (ea_cons (ev_var rfl) (ea_cons (ev_var rfl) ea_nil))) (sl_meetings ok)) fun p H2 np e2 hp => k p H2 (fresh_back e1 np) (e1.trans e2) hp
end

/-! ### the law's own draws -/
section
variable {P : Program} {w : World} {K : PySem.W.Frag} {mg : Str → Option Value} {base : Heap}
def sp_cell_at (K : PySem.W.Frag) : Sp := fun vs H Q _ => ∃ (a : Addr) (ns : List Int) (k : Nat), vs = [.ref a, vN k] ∧ SqL K H a (ns.map V.int) ∧ RetV (.int (cellAt ns k)) H Q
theorem ok__law_cell_at (T : Tx K mg) : FnOk P w K mg base CX0 1 T.f__law_cell_at T.d__law_cell_at ["_law_script", "_law_k"] (sp_cell_at K) := by
  refine T.F__law_cell_at.ok sc__law_cell_at (fun vs H Q E h => ?_) (fun cdv A outer s H vs Q E hr h => ?_)
  · obtain ⟨a, ns, k, rfl, _⟩ := h
    rfl
  · obtain ⟨a, ns, k, rfl, hS, q⟩ := h
    refine ⟨_, (pss_cons (ps_if (pt_cmpR op_lt (pv 1) (pe_callB (r := Evl.rLenS K) call_len_seq (by rfl) T.z_len (by decide +kernel) (pa_cons (pv 0) pa_nil)) (nomark _)) (pss_one (ps_ret (pe_ix (r := rIxL K) ix_list (pv 0) (pv 1) (fun _ _ => rfl)))) pss_nil)
      (pss_one (ps_ret pe_int))), ?_⟩
    refine q_when (b := decide ((k : Int) < (ns.length : Int))) (et_test (ev_to (ev_op (ev_var rfl) (ev_len (K := K) (ev_var rfl) hS) rv_I0) (by rw [List.length_map]))) (fun hb H1 e1 => ?_) fun hb H1 e1 => ?_
    · have hlt : k < ns.length := by
        have := of_decide_eq_true hb
        omega
      refine s_ret (ev_op (ev_var rfl) (ev_var rfl) (rv_ixL (K := K) (ex_l e1 hS) (v := .int (cellAt ns k)) (atI_nat ?_))) fun H2 e2 => q H2 (e1.trans e2)
      unfold cellAt
      rw [List.getElem?_map, List.getElem?_eq_getElem hlt, List.getD_eq_getElem?_getD, List.getElem?_eq_getElem hlt]
      rfl
    · have hge : ns.length ≤ k := by
        have := of_decide_eq_false hb
        omega
      refine s_ret (v := .int (cellAt ns k)) (ev_to ev_c ?_) fun H2 e2 => q H2 (e1.trans e2)
      unfold cellAt
      rw [List.getD_eq_getElem?_getD, List.getElem?_eq_none hge]
      rfl
theorem sv_cell_at {H : Hp} {a : Addr} {ns : List Int} {k : Nat} (hS : SqL K H a (ns.map V.int)) : SpV (sp_cell_at K) ([.ref a, vN k] ++ []) H (.int (cellAt ns k)) := fun H1 e Q q E => ⟨a, ns, k, rfl, ex_l e hS, q⟩
def sp_draw : Sp := fun vs H Q _ => ∃ (c : Int) (k : Nat) (m : Int), vs = [.int c, vN k, .int m] ∧ 0 < m ∧ RetV (.int (drawV c k m)) H Q
theorem primes_at (k : Nat) : atI (primesL.map V.int) ((k : Int) % 16) = some (.int (primesL.getD (k % 16) 1)) := by
  have e : (k : Int) % 16 = ((k % 16 : Nat) : Int) := by omega
  have h : k % 16 < 16 := Nat.mod_lt _ (by decide)
  rw [e]
  generalize k % 16 = j at *
  refine atI_nat ?_
  rw [List.getElem?_map, List.getD_eq_getElem?_getD, List.getElem?_eq_getElem (show j < primesL.length from h)]
  rfl
theorem primes_pos : ∀ j, j < 16 → 0 < primesL.getD j 1 := by decide
theorem sevens_at (k : Nat) : atI (sevens.map V.int) ((k : Int) % 5) = some (.int (sevens.getD (k % 5) 1)) := by
  have e : (k : Int) % 5 = ((k % 5 : Nat) : Int) := by omega
  have h : k % 5 < 5 := Nat.mod_lt _ (by decide)
  rw [e]
  generalize k % 5 = j at *
  refine atI_nat ?_
  rw [List.getElem?_map, List.getD_eq_getElem?_getD, List.getElem?_eq_getElem (show j < sevens.length from h)]
  rfl
theorem sevens_ok : ∀ j, j < 5 → 0 < sevens.getD j 1 ∧ (sevens.getD j 1).natAbs < 2 ^ 12 := by decide
theorem ok__law_draw (T : Tx K mg) : FnOk P w K mg base CX0 1 T.f__law_draw T.d__law_draw ["_law_cell", "_law_k", "_law_most"] sp_draw := by
  refine T.F__law_draw.ok sc__law_draw (fun vs H Q E h => ?_) (fun cdv A outer s H vs Q E hr h => ?_)
  · obtain ⟨c, k, m, rfl, _⟩ := h
    rfl
  · obtain ⟨c, k, m, rfl, hm, q⟩ := h
    refine ⟨_, (pss_cons (ps_set (i := 3) sc__law_draw.nd rfl (by first | exact Or.inl rfl | exact Or.inr rfl) (pe_tup (pa_cons pe_int (pa_cons pe_int (pa_cons pe_int (pa_cons pe_int (pa_cons pe_int (pa_cons pe_int (pa_cons pe_int (pa_cons pe_int (pa_cons pe_int (pa_cons pe_int (pa_cons pe_int (pa_cons pe_int (pa_cons pe_int (pa_cons pe_int (pa_cons pe_int (pa_cons pe_int pa_nil))))))))))))))))))
      (pss_one (ps_ret (pe_op op_mod (pe_op op_mod (pe_op op_add (pe_op op_mulX (pv 0) pe_int) (pe_op op_mulX (pv 1) pe_int)) (pe_ix (r := rIxT K) ix_tup (pv 3) (pe_op op_mod (pv 1) pe_int) (fun _ _ => rfl))) (pv 2))))), ?_⟩
    refine q_asgU (xs := primesL.map V.int) (eu_tup (ea_cons ev_c (ea_cons ev_c (ea_cons ev_c (ea_cons ev_c (ea_cons ev_c (ea_cons ev_c (ea_cons ev_c (ea_cons ev_c (ea_cons ev_c (ea_cons ev_c (ea_cons ev_c (ea_cons ev_c (ea_cons ev_c (ea_cons ev_c (ea_cons ev_c (ea_cons ev_c ea_nil)))))))))))))))) (show 16 ≤ 100000 by decide)) fun p H1 np e1 hp => ?_
    refine s_ret (v := .int (drawV c k m)) (ev_op (ev_op (ev_op (ev_op (ev_var rfl) ev_c (rv_I (mulok_right (by decide) (by decide)))) (ev_op (ev_var rfl) ev_c (rv_I (mulok_right (by decide) (by decide)))) rv_I0)
      (ev_op (ev_var rfl) (ev_op (ev_var rfl) ev_c (rv_I (by decide))) (rv_ixT (K := K) (st_of hp) (primes_at k))) (rv_I (primes_pos _ (Nat.mod_lt _ (by decide))))) (ev_var rfl) (rv_I hm)) fun H2 e2 => q H2 (e1.trans e2)
theorem sv_draw {H : Hp} {c : Int} {k : Nat} {m : Int} (hm : 0 < m) : SpV sp_draw ([.int c, vN k, .int m] ++ []) H (.int (drawV c k m)) := fun H1 e Q q E => ⟨c, k, m, rfl, hm, q⟩
end

/-! ### the law's helpers: numbers, copies, spoiling, putting -/
section
variable {P : Program} {w : World} {K : PySem.W.Frag} {mg : Str → Option Value} {base : Heap}
/-- some number below the limit -/
def sp_number8 : Sp := fun vs H Q _ => ∃ (c : Int) (k m : Nat), vs = [.int c, vN k, vN m] ∧ 0 < m ∧ k ≤ 1000 ∧ Builtin.Int.intBits c ≤ 1048577 ∧ ∀ n : Nat, n < m → RetV (vN n) H Q
theorem mod_some {i : Int} {m : Nat} (hm : 0 < m) : ∃ n : Nat, n < m ∧ i % (m : Int) = (n : Int) := by
  have h1 := Int.emod_nonneg i (show (m : Int) ≠ 0 by omega)
  have h2 := Int.emod_lt_of_pos i (show (0 : Int) < (m : Int) by omega)
  exact ⟨(i % (m : Int)).toNat, by omega, by omega⟩
theorem ok__law_number (T : Tx K mg) : FnOk P w K mg base CX0 2 T.f__law_number T.d__law_number ["_law_cell", "_law_k", "_law_limit"] sp_number8 := by
  refine T.F__law_number.ok sc__law_number (fun vs H Q E h => ?_) (fun cdv A outer s H vs Q E hr h => ?_)
  · obtain ⟨c, k, m, rfl, _⟩ := h
    rfl
  · obtain ⟨c, k, m, rfl, hm, hk, hc, q⟩ := h
    refine ⟨_, (pss_cons (ps_if (pt_cmpR op_ge (pv 0) (pe_op op_pow pe_int pe_int) (nomark _)) (pss_one (ps_ret (pe_op op_mod (pe_op op_fdivW (pe_op op_sub (pv 0) (pe_op op_pow pe_int pe_int)) (pe_ix (r := rIxT K) ix_tup (pe_tup (pa_cons pe_int (pa_cons pe_int (pa_cons pe_int (pa_cons pe_int (pa_cons pe_int pa_nil)))))) (pe_op op_mod (pv 1) pe_int) (fun _ _ => rfl))) (pv 2)))) pss_nil)
      (pss_cons (ps_set (i := 3) sc__law_number.nd rfl (by first | exact Or.inl rfl | exact Or.inr rfl) (pe_op op_mod (pv 0) pe_int))
      (pss_one (ps_ret (pe_op op_mod (pe_call (ok__law_draw T) hr (by rfl) T.m__law_draw T.F__law_draw.kp T.b__law_draw .nil pass0 (pa_cons (pe_op op_mulX (pe_op op_add (pv 3) (pe_op op_mulX pe_int (pv 1))) (pe_op op_add (pe_op op_add (pv 3) (pe_op op_mulX pe_int (pv 1))) pe_int)) (pa_cons (pe_op op_add (pe_op op_mod (pv 1) pe_int) pe_int) (pa_cons pe_int pa_nil)))) (pv 2)))))), ?_⟩
    have ten : ∀ {σ : L2.St} {H : Hp}, Ev (tOp (rI CPow fun i j => .int (i ^ j.toNat)) (tC (.int 10)) (tC (.int 18))) σ H (.int (10 ^ 18)) := fun {σ H} => ev_op ev_c ev_c (rv_I (C := CPow) (g := fun i j => .int (i ^ j.toNat)) (i := 10) (j := 18) ⟨by decide, by decide, by decide⟩)
    refine q_when (b := decide ((10 : Int) ^ 18 ≤ c)) (et_test (ev_op (ev_var rfl) ten rv_I0)) (fun hb H1 e1 => ?_) fun hb H1 e1 => ?_
    · have h7 := sevens_ok (k % 5) (Nat.mod_lt _ (by decide))
      obtain ⟨n, hn, e⟩ := mod_some (i := (c - 10 ^ 18) / sevens.getD (k % 5) 1) hm
      refine s_ret (v := vN n) (ev_to (ev_op (ev_op (ev_op (ev_var rfl) ten rv_I0) (ev_ixU (K := K) (xs := sevens.map V.int) (eu_tup (ea_cons ev_c (ea_cons ev_c (ea_cons ev_c (ea_cons ev_c (ea_cons ev_c ea_nil))))) (show 5 ≤ 100000 by decide)) (ev_op (ev_var rfl) ev_c (rv_I (by decide))) (sevens_at k)) (rv_I (wide_div (b := 12) h7.1 h7.2 (by decide) (by decide)))) (ev_var rfl) (rv_I (show (0 : Int) < (m : Int) by omega))) (congrArg V.int e)) fun H2 e2 => q n hn H2 (e1.trans e2)
    · obtain ⟨sm, hs, es⟩ := mod_some (i := c) (m := 1000003) (by decide)
      refine q_asg (v := vN sm) (ev_to (ev_op (ev_var rfl) ev_c (rv_I (show (0 : Int) < 1000003 by decide))) (congrArg V.int es)) fun H2 e2 => ?_
      have ek : ((k : Int) % 9 + 1) = ((k % 9 + 1 : Nat) : Int) := by omega
      obtain ⟨n, hn, e⟩ := mod_some (i := drawV (((sm : Int) + 977 * (k : Int)) * ((sm : Int) + 31 * (k : Int) + 5)) (k % 9 + 1) 999983) hm
      refine s_ret (v := vN n) (ev_to (ev_op (ev_call (ea_cons (ev_op (ev_op (ev_var rfl) (ev_op ev_c (ev_var rfl) (rv_I (mulok_left (by decide) (by decide)))) rv_I0) (ev_op (ev_op (ev_var rfl) (ev_op ev_c (ev_var rfl) (rv_I (mulok_left (by decide) (by decide)))) rv_I0) ev_c rv_I0) (rv_I (mulok_left (by omega) (by omega))))
        (ea_cons (ev_to (ev_op (ev_op (ev_var rfl) ev_c (rv_I (by decide))) ev_c rv_I0) (congrArg V.int ek)) (ea_cons ev_c ea_nil))) (sv_draw (k := k % 9 + 1) (m := 999983) (by decide))) (ev_var rfl) (rv_I (show (0 : Int) < (m : Int) by omega))) (congrArg V.int e)) fun H3 e3 => q n hn H3 ((e1.trans e2).trans e3)
/-! copies -/
theorem ok_deepF (T : Tx K mg) : FnOk P w K mg base CX0 1 T.f__law_deep T.d__law_deep ["_law_thing"] (fun _ _ _ _ => False) := ⟨fun _ _ _ _ h => h.elim, fun _ _ _ _ _ _ _ _ _ _ _ _ _ h => h.elim⟩
def sp_deep0 : Sp := fun vs H Q _ => ∃ i : Int, vs = [.int i] ∧ RetV (.int i) H Q
theorem ok_deep0 (T : Tx K mg) : FnOk P w K mg base CX0 2 T.f__law_deep T.d__law_deep ["_law_thing"] sp_deep0 := by
  refine T.F__law_deep.ok sc__law_deep (fun vs H Q E h => ?_) (fun cdv A outer s H vs Q E hr h => ?_)
  · obtain ⟨i, rfl, _⟩ := h
    rfl
  · obtain ⟨i, rfl, k⟩ := h
    refine ⟨_, (pss_cons (ps_if (pt_val (pe_callB (r := rIsi K) call_isi (by rfl) T.z_isinstance (by decide +kernel) (pa_cons (pv 0) (pa_cons (pe_bltn (v := .ty "list") (by rfl) T.z_list (by decide +kernel) rfl) pa_nil)))) (pss_one (ps_ret (pe_lc (own := [("_law_one", 1)]) (by rfl) sc__law_deep.nd (pi_list (pv 0)) (blkOk_by (own := [("_law_one", 1)]) (N := ["_law_thing", "_law_one"]) (sc := defScope s__law_deep) (by decide +kernel)) (fun _ _ _ _ _ => (pg_name (i := 1) sc__law_deep.nd rfl (by first | exact Or.inl rfl | exact Or.inr rfl))) (fun _ _ _ _ _ => pts_nil) (fun _ _ _ _ _ => (pe_call (ok_deepF T) (hr.mono (by decide)) (by rfl) T.m__law_deep T.F__law_deep.kp T.b__law_deep .nil pass0 (pa_cons (pv 1) pa_nil)))))) pss_nil)
      (pss_one (ps_ret (pe_ifExp (pt_val (pe_callB (r := rIsi K) call_isi (by rfl) T.z_isinstance (by decide +kernel) (pa_cons (pv 0) (pa_cons (pe_bltn (v := .ty "tuple") (by rfl) T.z_tuple (by decide +kernel) rfl) pa_nil)))) (pe_callTy call_tuple_of (by rfl) T.z_tuple (by decide +kernel) (pa_cons (pe_lc (own := [("_law_one", 1)]) (by rfl) sc__law_deep.nd (pi_list (pv 0)) (blkOk_by (own := [("_law_one", 1)]) (N := ["_law_thing", "_law_one"]) (sc := defScope s__law_deep) (by decide +kernel)) (fun _ _ _ _ _ => (pg_name (i := 1) sc__law_deep.nd rfl (by first | exact Or.inl rfl | exact Or.inr rfl))) (fun _ _ _ _ _ => pts_nil) (fun _ _ _ _ _ => (pe_call (ok_deepF T) (hr.mono (by decide)) (by rfl) T.m__law_deep T.F__law_deep.kp T.b__law_deep .nil pass0 (pa_cons (pv 1) pa_nil)))) pa_nil)) (pv 0))))), ?_⟩
    refine q_when (b := false) (et_B (ev_isiB (K := K) (b := false) (ev_var rfl) (fun _ _ => tyx_int i) (by decide +kernel))) (fun z => nomatch z) fun _ H1 e1 => ?_
    exact s_ret (ev_if (b := false) (et_B (ev_isiB (K := K) (b := false) (ev_var rfl) (fun _ _ => tyx_int i) (by decide +kernel))) (fun z => nomatch z) fun _ => ev_var rfl) fun H2 e2 => k H2 (e1.trans e2)
theorem sv_deep0 {H : Hp} {i : Int} : SpV sp_deep0 ([.int i] ++ []) H (.int i) := fun H1 e Q q E => ⟨i, rfl, q⟩
def sp_deep1 (K : PySem.W.Frag) : Sp := fun vs H Q _ => ∃ (a : Addr) (l : List Nat), vs = [.ref a] ∧ SqL K H a (vNs l) ∧ l.length ≤ 100 ∧ RetL (vNs l) H Q
theorem ok_deep1 (T : Tx K mg) : FnOk P w K mg base CX0 3 T.f__law_deep T.d__law_deep ["_law_thing"] (sp_deep1 K) := by
  refine T.F__law_deep.ok sc__law_deep (fun vs H Q E h => ?_) (fun cdv A outer s H vs Q E hr h => ?_)
  · obtain ⟨a, l, rfl, _⟩ := h
    rfl
  · obtain ⟨a, l, rfl, hS, hl, k⟩ := h
    refine ⟨_, (pss_cons (ps_if (pt_val (pe_callB (r := rIsi K) call_isi (by rfl) T.z_isinstance (by decide +kernel) (pa_cons (pv 0) (pa_cons (pe_bltn (v := .ty "list") (by rfl) T.z_list (by decide +kernel) rfl) pa_nil)))) (pss_one (ps_ret (pe_lc (own := [("_law_one", 1)]) (by rfl) sc__law_deep.nd (pi_list (pv 0)) (blkOk_by (own := [("_law_one", 1)]) (N := ["_law_thing", "_law_one"]) (sc := defScope s__law_deep) (by decide +kernel)) (fun _ _ _ _ _ => (pg_name (i := 1) sc__law_deep.nd rfl (by first | exact Or.inl rfl | exact Or.inr rfl))) (fun _ _ _ _ _ => pts_nil) (fun _ _ _ _ _ => (pe_call (ok_deep0 T) (hr.mono (by decide)) (by rfl) T.m__law_deep T.F__law_deep.kp T.b__law_deep .nil pass0 (pa_cons (pv 1) pa_nil)))))) pss_nil)
      (pss_one (ps_ret (pe_ifExp (pt_val (pe_callB (r := rIsi K) call_isi (by rfl) T.z_isinstance (by decide +kernel) (pa_cons (pv 0) (pa_cons (pe_bltn (v := .ty "tuple") (by rfl) T.z_tuple (by decide +kernel) rfl) pa_nil)))) (pe_callTy call_tuple_of (by rfl) T.z_tuple (by decide +kernel) (pa_cons (pe_lc (own := [("_law_one", 1)]) (by rfl) sc__law_deep.nd (pi_list (pv 0)) (blkOk_by (own := [("_law_one", 1)]) (N := ["_law_thing", "_law_one"]) (sc := defScope s__law_deep) (by decide +kernel)) (fun _ _ _ _ _ => (pg_name (i := 1) sc__law_deep.nd rfl (by first | exact Or.inl rfl | exact Or.inr rfl))) (fun _ _ _ _ _ => pts_nil) (fun _ _ _ _ _ => (pe_call (ok_deep0 T) (hr.mono (by decide)) (by rfl) T.m__law_deep T.F__law_deep.kp T.b__law_deep .nil pass0 (pa_cons (pv 1) pa_nil)))) pa_nil)) (pv 0))))), ?_⟩
    refine q_when (b := true) (et_B (ev_isiB (K := K) (b := true) (ev_var rfl) (fun H1 e => tyx_l (ex_l e hS)) (by decide +kernel))) (fun _ H1 e1 => ?_) fun z => nomatch z
    refine s_retL (xs := vNs l) (el_to (el_mapL (K := K) (fun x => x) (ev_var rfl) (ex_l e1 hS) (by rw [vNs_len]; omega) fun x hx H2 e2 => ?_) (List.map_id' _)) fun p H2 np e2 hp => k p H2 (fresh_back e1 np) (e1.trans e2) hp
    obtain ⟨n, _, rfl⟩ := List.mem_map.mp hx
    exact ev_call (ea_cons (ev_var rfl) ea_nil) sv_deep0
theorem sl_deep1 {H : Hp} {a : Addr} {l : List Nat} (hS : SqL K H a (vNs l)) (hl : l.length ≤ 100) : SpL (sp_deep1 K) ([.ref a] ++ []) H (vNs l) := fun H1 e Q q E => ⟨a, l, rfl, ex_l e hS, hl, q⟩
/-- [row for x in xs], xs a list that stands -/
theorem er_mapL {σ : L2.St} {H : Hp} {tl te : TE} {a : Addr} {xs : List V} {j : Nat} {vs : List Nat} (g : V → List Nat) (h : Ev tl σ H (.ref a)) (hx : SqL K H a xs) (hz : xs.length ≤ 1000)
    (he : ∀ x ∈ xs, ∀ H1, Ex H H1 → EvL te ((wipe σ vs).set j (some x)) H1 (vNs (g x))) (hw : ∀ x, wipe ((wipe σ vs).set j (some x)) vs = wipe σ vs := by intro _; rfl) :
    EvR (tLc (iList K tl) (gName j) tYes te vs) σ H (xs.map g) := fun H0 e Q q =>
  h H0 e _ fun H1 e1 => ⟨a, rfl, ⟨xs, ex_l (e.trans e1) hx⟩, fun L hL => lc_list (xs := xs) (fun i H' => Rw H1 L ((xs.take i).map g) H') (by rw [List.take_zero]; exact rw_start hL) (fun i H' _ p => ex_l ((e.trans e1).trans p.2.1) hx) (fun i x H' hi p => by
      refine ⟨hw x, he x (List.mem_of_getElem? hi) H' ((e.trans e1).trans p.2.1) H' (Ex.refl H') _ fun r H4 nr e4 hr => ?_⟩
      obtain ⟨acc, h1, h2, h3⟩ := rw_grow p e4 (RowsAt.one (a := r) (r := g x) (by rw [new_at nr]; exact hr))
      have hlt := (List.getElem?_eq_some_iff.mp hi).1
      refine ⟨acc, h1, sz_lt (by rw [h2, List.length_map, List.length_take]; omega), ?_⟩
      rw [List.take_add_one, hi, List.map_append]
      exact h3)
    (fun H' p => by
      rw [List.take_length] at p
      obtain ⟨p1, p2, acc, p3, p4⟩ := p
      refine q L acc H' (e1.trans p2) (fresh_back e1 p1) p3 (p4.ex (new_sub (fun c hc => ?_) fun _ _ _ h => h))
      refine fresh_back e1 ?_
      by_cases z : c = L
      · rw [z, upd_same] at hc
        cases hc
      · rw [upd_ne z] at hc
        exact hc)⟩
def sp_deep2 (K : PySem.W.Frag) : Sp := fun vs H Q _ => ∃ (a r : Addr) (l : List Nat), vs = [.ref a] ∧ SqL K H a [.ref r] ∧ SqL K H r (vNs l) ∧ l.length ≤ 100 ∧ RetR [l] H Q
theorem ok__law_deep (T : Tx K mg) : FnOk P w K mg base CX0 4 T.f__law_deep T.d__law_deep ["_law_thing"] (sp_deep2 K) := by
  refine T.F__law_deep.ok sc__law_deep (fun vs H Q E h => ?_) (fun cdv A outer s H vs Q E hr h => ?_)
  · obtain ⟨a, r, l, rfl, _⟩ := h
    rfl
  · obtain ⟨a, r, l, rfl, hS, hr1, hl, k⟩ := h
    refine ⟨_, (pss_cons (ps_if (pt_val (pe_callB (r := rIsi K) call_isi (by rfl) T.z_isinstance (by decide +kernel) (pa_cons (pv 0) (pa_cons (pe_bltn (v := .ty "list") (by rfl) T.z_list (by decide +kernel) rfl) pa_nil)))) (pss_one (ps_ret (pe_lc (own := [("_law_one", 1)]) (by rfl) sc__law_deep.nd (pi_list (pv 0)) (blkOk_by (own := [("_law_one", 1)]) (N := ["_law_thing", "_law_one"]) (sc := defScope s__law_deep) (by decide +kernel)) (fun _ _ _ _ _ => (pg_name (i := 1) sc__law_deep.nd rfl (by first | exact Or.inl rfl | exact Or.inr rfl))) (fun _ _ _ _ _ => pts_nil) (fun _ _ _ _ _ => (pe_call (ok_deep1 T) (hr.mono (by decide)) (by rfl) T.m__law_deep T.F__law_deep.kp T.b__law_deep .nil pass0 (pa_cons (pv 1) pa_nil)))))) pss_nil)
      (pss_one (ps_ret (pe_ifExp (pt_val (pe_callB (r := rIsi K) call_isi (by rfl) T.z_isinstance (by decide +kernel) (pa_cons (pv 0) (pa_cons (pe_bltn (v := .ty "tuple") (by rfl) T.z_tuple (by decide +kernel) rfl) pa_nil)))) (pe_callTy call_tuple_of (by rfl) T.z_tuple (by decide +kernel) (pa_cons (pe_lc (own := [("_law_one", 1)]) (by rfl) sc__law_deep.nd (pi_list (pv 0)) (blkOk_by (own := [("_law_one", 1)]) (N := ["_law_thing", "_law_one"]) (sc := defScope s__law_deep) (by decide +kernel)) (fun _ _ _ _ _ => (pg_name (i := 1) sc__law_deep.nd rfl (by first | exact Or.inl rfl | exact Or.inr rfl))) (fun _ _ _ _ _ => pts_nil) (fun _ _ _ _ _ => (pe_call (ok_deep1 T) (hr.mono (by decide)) (by rfl) T.m__law_deep T.F__law_deep.kp T.b__law_deep .nil pass0 (pa_cons (pv 1) pa_nil)))) pa_nil)) (pv 0))))), ?_⟩
    refine q_when (b := true) (et_B (ev_isiB (K := K) (b := true) (ev_var rfl) (fun H1 e => tyx_l (ex_l e hS)) (by decide +kernel))) (fun _ H1 e1 => ?_) fun z => nomatch z
    have h := er_mapL (K := K) (te := tCall (sp_deep1 K) [] (fun _ _ _ => False) (tCons (tVar 1) tNil)) (σ := start ["_law_thing", "_law_one"] [.ref a]) (tl := tVar 0) (j := 1) (vs := [1]) (fun _ => l) (ev_var rfl) (ex_l e1 hS) (show 1 ≤ 1000 by decide) fun x hx H2 e2 => by
      rw [List.mem_singleton.mp hx]
      exact el_call (ea_cons (ev_var rfl) ea_nil) (sl_deep1 (ex_l (e1.trans e2) hr1) hl)
    exact h H1 (Ex.refl H1) _ fun p xs H2 e2 np hp hrs => k p xs H2 (e1.trans e2) (fresh_back e1 np) hp (hrs.ex (new_mono e1 (Ex.refl H2)))
theorem sr_deep2 {H : Hp} {a r : Addr} {l : List Nat} (hS : SqL K H a [.ref r]) (hr : SqL K H r (vNs l)) (hl : l.length ≤ 100) : SpR (sp_deep2 K) ([.ref a] ++ []) H [l] := fun H1 e Q q E => ⟨a, r, l, rfl, ex_l e hS, ex_l e hr, hl, q⟩
/-! spoiling -/
def Sc (x : V) : Prop := (∃ i : Int, x = .int i) ∨ (∃ b : Bool, x = .bl b) ∨ x = .non
theorem Sc.ty {x : V} (h : Sc x) : ∃ n : String, (∀ H, TyX K H x (.type n)) ∧ kitB n "list" = some false ∧ kitB n "tuple" = some false := by
  rcases h with ⟨i, rfl⟩ | ⟨b, rfl⟩ | rfl
  · exact ⟨"int", fun _ => .base (.int i), by decide +kernel, by decide +kernel⟩
  · exact ⟨"bool", fun _ => .base (.bl b), by decide +kernel, by decide +kernel⟩
  · exact ⟨"NoneType", fun _ => .base .non, by decide +kernel, by decide +kernel⟩
/-- what spoiling leaves as it is -/
def Stay (K : PySem.W.Frag) (H : Hp) (y : V) : Prop := Sc y ∨ ∃ (a : Addr) (ys : List V), y = .ref a ∧ SqT K H a ys ∧ ∀ z ∈ ys, Sc z
theorem Stay.ex {H H' : Hp} {y : V} (h : Stay K H y) (e : Ex H H') : Stay K H' y := h.imp id fun ⟨a, ys, h1, h2, h3⟩ => ⟨a, ys, h1, ex_t e h2, h3⟩
theorem ev_isiT {σ : L2.St} {H : Hp} {ta : TE} {x : V} {n : String} {b : Bool} (h : Ev ta σ H x) (ty : ∀ H1, Ex H H1 → TyX K H1 x (.type n)) (h1 : kitB n "list" = some b) (h2 : b = false → kitB n "tuple" = some false) :
    Ev (tCB (rIsiT K) (tCons ta (tCons (tTup (tCons (tC (.ty "list")) (tCons (tC (.ty "tuple")) tNil))) tNil))) σ H (.bl b) := by
  have hk : PySem.W.kitAny K (.type n) [.type "list", .type "tuple"] = some b := by
    cases b with
    | true => exact kitAny_cons (b := true) (kit_ty h1) (fun z => nomatch z) fun _ => rfl
    | false => exact kitAny_cons (b := false) (kit_ty h1) (fun _ => kitAny_cons (b := false) (r := false) (cs := []) (kit_ty (h2 rfl)) (fun _ => rfl) fun z => nomatch z) fun z => nomatch z
  intro H1 e Q q
  exact h H1 e _ fun H2 e2 => ⟨sz_of (show 2 ≤ 100000 by decide), fun p hp => ⟨x, p, [.ty "list", .ty "tuple"], .type n, [.type "list", .type "tuple"], b, rfl, upd_same, .cons (.ty _) (.cons (.ty _) .nil), ty _ ((e.trans e2).trans (Ex.new hp)), hk, q _ (e2.trans (Ex.new hp))⟩⟩
theorem ev_isiT2 {σ : L2.St} {H : Hp} {ta : TE} {x : V} {n : String} (h : Ev ta σ H x) (ty : ∀ H1, Ex H H1 → TyX K H1 x (.type n)) (h1 : kitB n "list" = some false) (h2 : kitB n "tuple" = some true) :
    Ev (tCB (rIsiT K) (tCons ta (tCons (tTup (tCons (tC (.ty "list")) (tCons (tC (.ty "tuple")) tNil))) tNil))) σ H (.bl true) := fun H1 e Q q =>
  h H1 e _ fun H2 e2 => ⟨sz_of (show 2 ≤ 100000 by decide), fun p hp => ⟨x, p, [.ty "list", .ty "tuple"], .type n, [.type "list", .type "tuple"], true, rfl, upd_same, .cons (.ty _) (.cons (.ty _) .nil), ty _ ((e.trans e2).trans (Ex.new hp)),
    kitAny_cons (b := false) (kit_ty h1) (fun _ => kitAny_cons (b := true) (kit_ty h2) (fun z => nomatch z) fun _ => rfl) (fun z => nomatch z), q _ (e2.trans (Ex.new hp))⟩⟩
theorem ok_spoiltF (T : Tx K mg) : FnOk P w K mg base CX0 1 T.f__law_spoilt T.d__law_spoilt ["_law_found"] (fun _ _ _ _ => False) := ⟨fun _ _ _ _ h => h.elim, fun _ _ _ _ _ _ _ _ _ _ _ _ _ h => h.elim⟩
def sp_spoilt0 : Sp := fun vs H Q _ => ∃ y : V, vs = [y] ∧ Sc y ∧ RetV .non H Q
theorem ok_spoilt0 (T : Tx K mg) : FnOk P w K mg base CX0 2 T.f__law_spoilt T.d__law_spoilt ["_law_found"] sp_spoilt0 := by
  refine T.F__law_spoilt.ok sc__law_spoilt (fun vs H Q E h => ?_) (fun cdv A outer s H vs Q E hr h => ?_)
  · obtain ⟨y, rfl, _⟩ := h
    rfl
  · obtain ⟨y, rfl, hy, k⟩ := h
    refine ⟨_, (pss_cons (ps_if (pt_val (pe_callB (r := rIsiT K) call_isiT (by rfl) T.z_isinstance (by decide +kernel) (pa_cons (pv 0) (pa_cons (pe_tup (pa_cons (pe_bltn (v := .ty "list") (by rfl) T.z_list (by decide +kernel) rfl) (pa_cons (pe_bltn (v := .ty "tuple") (by rfl) T.z_tuple (by decide +kernel) rfl) pa_nil))) pa_nil)))) (pss_one (ps_for PassesOwn.never rfl (pi_list (pv 0)) (pg_name (i := 1) sc__law_spoilt.nd rfl (by first | exact Or.inl rfl | exact Or.inr rfl))
      (pss_one (ps_expr (pe_call (ok_spoiltF T) (hr.mono (by decide)) (by rfl) T.m__law_spoilt T.F__law_spoilt.kp T.b__law_spoilt .nil pass0 (pa_cons (pv 1) pa_nil)))))) pss_nil)
      (pss_one (ps_if (pt_val (pe_callB (r := rIsi K) call_isi (by rfl) T.z_isinstance (by decide +kernel) (pa_cons (pv 0) (pa_cons (pe_bltn (v := .ty "list") (by rfl) T.z_list (by decide +kernel) rfl) pa_nil)))) (pss_one (ps_expr (pe_bm PySem.F.plainAttrs_list PySem.F.slot_list_append PySem.F.type_list_append mt_append (pv 0) (pa_cons (pe_tup pa_nil) pa_nil)))) pss_nil))), ?_⟩
    obtain ⟨n, ty, k1, k2⟩ := hy.ty (K := K)
    refine q_when (b := false) (et_B (ev_isiT (K := K) (ev_var rfl) (fun H1 _ => ty H1) k1 fun _ => k2)) (fun z => nomatch z) fun _ H1 e1 => ?_
    exact s_when (b := false) (et_B (ev_isiB (K := K) (ev_var rfl) (fun H1 _ => ty H1) k1)) (fun z => nomatch z) fun _ H2 e2 => k H2 (e1.trans e2)
theorem sv_spoilt0 {H : Hp} {y : V} (h : Sc y) : SpV sp_spoilt0 ([y] ++ []) H .non := fun H1 e Q q E => ⟨y, rfl, h, q⟩
def sp_spoilt1 (K : PySem.W.Frag) : Sp := fun vs H Q _ => ∃ y : V, vs = [y] ∧ Stay K H y ∧ RetV .non H Q
theorem ok_spoilt1t (T : Tx K mg) : FnOk P w K mg base CX0 3 T.f__law_spoilt T.d__law_spoilt ["_law_found"] (fun vs H Q _ => ∃ (a : Addr) (ys : List V), vs = [.ref a] ∧ SqT K H a ys ∧ (∀ z ∈ ys, Sc z) ∧ RetV .non H Q) := by
  refine T.F__law_spoilt.ok sc__law_spoilt (fun vs H Q E h => ?_) (fun cdv A outer s H vs Q E hr h => ?_)
  · obtain ⟨a, ys, rfl, _⟩ := h
    rfl
  · obtain ⟨a, ys, rfl, hS, hy, k⟩ := h
    refine ⟨_, (pss_cons (ps_if (pt_val (pe_callB (r := rIsiT K) call_isiT (by rfl) T.z_isinstance (by decide +kernel) (pa_cons (pv 0) (pa_cons (pe_tup (pa_cons (pe_bltn (v := .ty "list") (by rfl) T.z_list (by decide +kernel) rfl) (pa_cons (pe_bltn (v := .ty "tuple") (by rfl) T.z_tuple (by decide +kernel) rfl) pa_nil))) pa_nil)))) (pss_one (ps_for PassesOwn.never rfl (pi_tup (pv 0)) (pg_name (i := 1) sc__law_spoilt.nd rfl (by first | exact Or.inl rfl | exact Or.inr rfl))
      (pss_one (ps_expr (pe_call (ok_spoilt0 T) (hr.mono (by decide)) (by rfl) T.m__law_spoilt T.F__law_spoilt.kp T.b__law_spoilt .nil pass0 (pa_cons (pv 1) pa_nil)))))) pss_nil)
      (pss_one (ps_if (pt_val (pe_callB (r := rIsi K) call_isi (by rfl) T.z_isinstance (by decide +kernel) (pa_cons (pv 0) (pa_cons (pe_bltn (v := .ty "list") (by rfl) T.z_list (by decide +kernel) rfl) pa_nil)))) (pss_one (ps_expr (pe_bm PySem.F.plainAttrs_list PySem.F.slot_list_append PySem.F.type_list_append mt_append (pv 0) (pa_cons (pe_tup pa_nil) pa_nil)))) pss_nil))), ?_⟩
    refine q_when (b := true) (et_B (ev_isiT2 (K := K) (n := "tuple") (ev_var rfl) (fun H1 e => tyx_t (ex_t e hS)) (by decide +kernel) (by decide +kernel))) (fun _ H1 e1 => ?_) fun z => nomatch z
    refine s_forT (K := K) (xs := ys) (ev_var rfl) (ex_t e1 hS) (fun j σ' H' => ∃ y1, σ' = [some (.ref a), y1] ∧ Ex H H') (fun H2 e2 => ⟨none, rfl, e1.trans e2⟩) (fun j σ' H' _ ⟨_, _, e⟩ => ex_t e hS) ?_ ?_
    · rintro j x σ' H2 hj ⟨y1, rfl, e2⟩
      exact s_drop (ev_call (ea_cons (ev_var rfl) ea_nil) (sv_spoilt0 (hy x (List.mem_of_getElem? hj)))) fun H3 e3 => ⟨_, rfl, e2.trans e3⟩
    · rintro σ' H2 ⟨y1, rfl, e2⟩
      exact s_when (b := false) (et_B (ev_isiB (K := K) (n := "tuple") (ev_var rfl) (fun H1 e => tyx_t (ex_t (e2.trans e) hS)) (by decide +kernel))) (fun z => nomatch z) fun _ H3 e3 => k H3 (e2.trans e3)
theorem ok_spoilt1 (T : Tx K mg) : FnOk P w K mg base CX0 3 T.f__law_spoilt T.d__law_spoilt ["_law_found"] (sp_spoilt1 K) := by
  refine ⟨fun vs H Q E h => ?_, fun A outer s H args us vs Q E hr e0 hb r h => ?_⟩
  · obtain ⟨y, rfl, _⟩ := h
    rfl
  · obtain ⟨y, rfl, hy, k⟩ := h
    rcases hy with hy | ⟨a, ys, rfl, h1, h2⟩
    · exact (ok_spoilt0 T).run A outer s H args us [y] Q E (hr.mono (by decide)) e0 hb r ⟨y, rfl, hy, k⟩
    · exact (ok_spoilt1t T).run A outer s H args us [.ref a] Q E hr e0 hb r ⟨a, ys, rfl, h1, h2, k⟩
theorem sv_spoilt1 {H : Hp} {y : V} (h : Stay K H y) : SpV (sp_spoilt1 K) ([y] ++ []) H .non := fun H1 e Q q E => ⟨y, rfl, h.ex e, q⟩
/-- a list is spoilt: it alone is changed -/
def sp_spoilt2 (K : PySem.W.Frag) : Sp := fun vs H Q _ => ∃ (a : Addr) (ys : List V), vs = [.ref a] ∧ H a = some (.lst ys) ∧ ys.length ≤ 1000 ∧ (∀ y ∈ ys, Stay K H y) ∧ ∀ H1 zs, Ex H H1 → Q .non (upd H1 a (.lst zs))
theorem ok__law_spoilt (T : Tx K mg) : FnOk P w K mg base CX0 4 T.f__law_spoilt T.d__law_spoilt ["_law_found"] (sp_spoilt2 K) := by
  refine T.F__law_spoilt.ok sc__law_spoilt (fun vs H Q E h => ?_) (fun cdv A outer s H vs Q E hr h => ?_)
  · obtain ⟨a, ys, rfl, _⟩ := h
    rfl
  · obtain ⟨a, ys, rfl, ha, hl, hy, k⟩ := h
    refine ⟨_, (pss_cons (ps_if (pt_val (pe_callB (r := rIsiT K) call_isiT (by rfl) T.z_isinstance (by decide +kernel) (pa_cons (pv 0) (pa_cons (pe_tup (pa_cons (pe_bltn (v := .ty "list") (by rfl) T.z_list (by decide +kernel) rfl) (pa_cons (pe_bltn (v := .ty "tuple") (by rfl) T.z_tuple (by decide +kernel) rfl) pa_nil))) pa_nil)))) (pss_one (ps_for PassesOwn.never rfl (pi_list (pv 0)) (pg_name (i := 1) sc__law_spoilt.nd rfl (by first | exact Or.inl rfl | exact Or.inr rfl))
      (pss_one (ps_expr (pe_call (ok_spoilt1 T) (hr.mono (by decide)) (by rfl) T.m__law_spoilt T.F__law_spoilt.kp T.b__law_spoilt .nil pass0 (pa_cons (pv 1) pa_nil)))))) pss_nil)
      (pss_one (ps_if (pt_val (pe_callB (r := rIsi K) call_isi (by rfl) T.z_isinstance (by decide +kernel) (pa_cons (pv 0) (pa_cons (pe_bltn (v := .ty "list") (by rfl) T.z_list (by decide +kernel) rfl) pa_nil)))) (pss_one (ps_expr (pe_bm PySem.F.plainAttrs_list PySem.F.slot_list_append PySem.F.type_list_append mt_append (pv 0) (pa_cons (pe_tup pa_nil) pa_nil)))) pss_nil))), ?_⟩
    refine q_when (b := true) (et_B (ev_isiT (K := K) (n := "list") (ev_var rfl) (fun H1 e => tyx_l (sq_of (e a _ ha))) (by decide +kernel) fun z => nomatch z)) (fun _ H1 e1 => ?_) fun z => nomatch z
    refine s_forL (K := K) (xs := ys) (ev_var rfl) (sq_of (e1 a _ ha)) (fun j σ' H' => ∃ y1, σ' = [some (.ref a), y1] ∧ Ex H H') (fun H2 e2 => ⟨none, rfl, e1.trans e2⟩) (fun j σ' H' _ ⟨_, _, e⟩ => sq_of (e a _ ha)) ?_ ?_
    · rintro j x σ' H2 hj ⟨y1, rfl, e2⟩
      exact s_drop (ev_call (ea_cons (ev_var rfl) ea_nil) (sv_spoilt1 ((hy x (List.mem_of_getElem? hj)).ex e2))) fun H3 e3 => ⟨_, rfl, e2.trans e3⟩
    · rintro σ' H2 ⟨y1, rfl, e2⟩
      refine s_when (b := true) (et_B (ev_isiB (K := K) (n := "list") (ev_var rfl) (fun H1 e => tyx_l (sq_of (e a _ (e2 a _ ha)))) (by decide +kernel))) (fun _ H3 e3 => ?_) fun z => nomatch z
      exact s_appU (K := K) (ys := []) (e3 a _ (e2 a _ ha)) (ev_var rfl) (eu_tup ea_nil (show 0 ≤ 100000 by decide)) (by omega) fun p H4 np e4 hp => k H4 _ ((e2.trans e3).trans e4)
end

/-! ### the law: lists put anew, what is told, the lambdas -/
section
variable {P : Program} {w : World} {K : PySem.W.Frag} {mg : Str → Option Value} {base : Heap}
theorem eqv_nil (l : List Nat) : PyData.eqv (pdN l) (.list []) = l.isEmpty := by cases l <;> rfl
/-- the list at hr, handed in within the one at ha, is now as the one at sr -/
def sp_put (K : PySem.W.Frag) : Sp := fun vs H Q _ => ∃ (B : Hp) (ha hr sa sr : Addr) (cur l : List Nat), vs = [.ref ha, .ref sa] ∧ Ex B H ∧ B hr = none ∧ B ha = some (.lst [.ref hr]) ∧ H hr = some (.lst (vNs cur)) ∧ SqL K B sa [.ref sr] ∧ SqL K B sr (vNs l) ∧ l.length ≤ 100 ∧ ∀ H1, Ex B H1 → H1 hr = some (.lst (vNs l)) → Q .non H1
theorem ok__law_put (T : Tx K mg) : FnOk P w K mg base CX0 5 T.f__law_put T.d__law_put ["_law_handed", "_law_some"] (sp_put K) := by
  refine T.F__law_put.ok sc__law_put (fun vs H Q E h => ?_) (fun cdv A outer s H vs Q E hr h => ?_)
  · obtain ⟨B, ha, hr, sa, sr, cur, l, rfl, _⟩ := h
    rfl
  · obtain ⟨B, ha, h0, sa, sr, cur, l, rfl, eB, nB, hha, hh0, hsa, hsr, hl, k⟩ := h
    refine ⟨_, (pss_one (ps_for PassesOwn.never rfl (pi_zip (by rfl) T.z_zip (pa_cons (pv 0) (pa_cons (pv 1) pa_nil))) (pg_tup (by rfl) (pgs_cons (pg_name (i := 2) sc__law_put.nd rfl (by first | exact Or.inl rfl | exact Or.inr rfl)) (pgs_cons (pg_name (i := 3) sc__law_put.nd rfl (by first | exact Or.inl rfl | exact Or.inr rfl)) pgs_nil)))
      (pss_cons (ps_while PassesOwn.never (pt_cmpR (r := rNeD K) (op_neD hr.units) (pv 2) (pe_lst pa_nil) (nomark _))
      (pss_one (ps_expr (pe_bm0 PySem.F.plainAttrs_list PySem.F.slot_list_pop PySem.F.type_list_pop mt_pop (pv 2)))))
      (pss_one (ps_expr (pe_bm PySem.F.plainAttrs_list PySem.F.slot_list_extend PySem.F.type_list_extend mt_extend (pv 2) (pa_cons (pe_call (ok_deep1 T) (hr.mono (by decide)) (by rfl) T.m__law_deep T.F__law_deep.kp T.b__law_deep .nil pass0 (pa_cons (pv 3) pa_nil)) pa_nil))))))), ?_⟩
    refine ⟨.ref ha, rfl, .ref sa, rfl, ha, sa, [.ref h0], [.ref sr], rfl, sq_of (eB ha _ hha), ex_l eB hsa, ?_⟩
    refine RZ.for_zipL (xs := [.ref h0]) (ys := [.ref sr]) rfl (fun i σ' H' => ∃ y2 y3 cur, σ' = [some (.ref ha), some (.ref sa), y2, y3] ∧ Ex B H' ∧ H' h0 = some (.lst (vNs cur)) ∧ (i = 1 → cur = l)) ⟨none, none, cur, rfl, eB, hh0, fun z => nomatch z⟩ (fun i σ' H' ⟨_, _, _, _, e, _⟩ => ⟨sq_of (e ha _ hha), ex_l e hsa⟩) ?_ ?_
    · rintro i x y t σ' H1 hx hy ⟨y2, y3, cur, rfl, e1, hc, _⟩ nt
      have hi : i = 0 := by
        have := (List.getElem?_eq_some_iff.mp hx).1
        simp at this
        exact this
      subst hi
      cases hx
      cases hy
      have e2 : Ex H1 (upd H1 t (.tup [.ref h0, .ref sr])) := Ex.new nt
      refine ⟨t, [.ref h0, .ref sr], rfl, st_of upd_same, rfl, .ref h0, [.ref sr], rfl, .ref sr, [], rfl, rfl, ?_⟩
      refine q_while (fun n σ H' => ∃ cur, σ = [some (.ref ha), some (.ref sa), some (.ref h0), some (.ref sr)] ∧ Ex B H' ∧ H' h0 = some (.lst (vNs cur)) ∧ n = cur.length) cur.length ⟨cur, rfl, e1.trans e2, e2 h0 _ hc, rfl⟩ ?_
      rintro n σ2 H2 ⟨cu, rfl, e3, hc2, rfl⟩
      refine ⟨!cu.isEmpty, evT_to (et_test (ev_neD (K := K) (ed_var rfl (dp_N (sq_of hc2))) (en_lst ena_nil (show 0 ≤ 100000 by decide)).toD (shN _) (by decide +kernel))) (by rw [eqv_nil]), fun hb H3 e4 => ?_, fun hb H3 e4 => ?_⟩
      · have hne : cu ≠ [] := fun z => by
          rw [z] at hb
          cases hb
        have hpos : 0 < cu.length := List.length_pos_iff.mpr hne
        refine ⟨fun σ3 H4 => σ3 = [some (.ref ha), some (.ref sa), some (.ref h0), some (.ref sr)] ∧ Ex B H4 ∧ H4 h0 = some (.lst (vNs cu.dropLast)), fun σ3 H4 ⟨x1, x2, x3⟩ => ⟨cu.dropLast.length, by rw [List.length_dropLast]; omega, cu.dropLast, x1, x2, x3, rfl⟩, ?_⟩
        have hlast : (vNs cu)[(vNs cu).length - 1]? = some (vN (cu.getD (cu.length - 1) 0)) := by
          rw [vNs_len]
          exact vNs_get (getD_some (by omega))
        refine ⟨.ref h0, rfl, .inl ⟨rfl, vNs cu, sq_of (e4 h0 _ hc2)⟩, h0, vNs cu, _, rfl, rfl, e4 h0 _ hc2, hlast, rfl, Ex.mut (e3.trans e4) nB, ?_⟩
        rw [upd_same]
        unfold vNs
        rw [List.map_dropLast]
      · have hnil : cu = [] := by
          cases cu with
          | nil => rfl
          | cons a b => cases hb
        subst hnil
        refine ⟨.ref h0, rfl, .inl ⟨rfl, _, sq_of (e4 h0 _ hc2)⟩, ?_⟩
        refine (show EvL (tCall (sp_deep1 K) [] _ (tCons (tVar 3) tNil)) [some (.ref ha), some (.ref sa), some (.ref h0), some (.ref sr)] H3 (vNs l) from el_call (ea_cons (ev_var rfl) ea_nil) (sl_deep1 (ex_l (e3.trans e4) hsr) hl)) H3 (Ex.refl H3) _ fun p H4 np e5 hp => ?_
        refine ⟨h0, p, [], vNs l, rfl, rfl, e5 h0 _ (e4 h0 _ hc2), hp, sz_of (by rw [vNs_len]; show 0 + l.length ≤ 100000; omega), _, _, l, rfl, Ex.mut ((e3.trans e4).trans e5) nB, upd_same, fun _ => rfl⟩
    · rintro σ' H1 ⟨y2, y3, cur, rfl, e1, hc, h1⟩
      have := h1 rfl
      subst this
      exact k H1 e1 hc
/-! what is told, twice -/
def sp_two : Sp := fun vs H Q _ => ∃ x : V, vs = [x] ∧ ∀ t H2, H t = none → Ex H H2 → H2 t = some (.tup [x, x]) → Q (.ref t) H2
theorem ok__law_two (T : Tx K mg) : FnOk P w K mg base CX0 1 T.f__law_two T.d__law_two ["_law_found"] sp_two := by
  refine T.F__law_two.ok sc__law_two (fun vs H Q E h => ?_) (fun cdv A outer s H vs Q E hr h => ?_)
  · obtain ⟨x, rfl, _⟩ := h
    rfl
  · obtain ⟨x, rfl, k⟩ := h
    refine ⟨_, (pss_one (ps_ret (pe_tup (pa_cons (pv 0) (pa_cons (pv 0) pa_nil))))), ?_⟩
    exact s_retU (xs := [x, x]) (eu_tup (ea_cons (ev_var rfl) (ea_cons (ev_var rfl) ea_nil)) (show 2 ≤ 100000 by decide)) fun t H1 nt e1 ht => k t H1 nt e1 ht
def sp_cmp8 (T : Tx K mg) : Sp := fun vs H Q _ => ∃ (r : Addr) (R : List Nat) (one other : Nat), vs = [.ref r, vN one, vN other] ∧ SqL K H r (vNs R) ∧ RowOk R ∧ one < R.length ∧ other < R.length ∧
  ∀ t p q H2, Ex H H2 → H t = none → H q = none → H2 t = some (.tup [.ref p, .ref q]) → H2 p = some (.lst [.bl (isMeet (cmpA R one other)), .bl (shB R one other (cmpA R one other))]) → H2 q = some (.lst []) → Q (.ref t) H2
theorem isi_ans {T : Tx K mg} {H : Hp} {σ : L2.St} {f : Addr} {an : Ans} {ta : TE} (h : Ev ta σ H (.ref f)) (hf : AnsAt T H f an) : Ev (tCB (rIsi K) (tCons ta (tCons (tC (.ref T.a_Meet)) tNil))) σ H (.bl (isMeet an)) := by
  obtain ⟨dx, hf⟩ := hf
  cases an with
  | meet z => exact ev_isiO h hf T.ty_Meet T.ki_Meet_Meet
  | apart m t => exact ev_isiO h hf T.ty_Apart T.ki_Apart_Meet
section
variable {σ : L2.St} {H : Hp} {ta te tb : TE} {z : V} {D : Ends}
theorem ev_methL {a C dx : Addr} {fs : List (Str × V)} {m : Str} {sp : Sp} {dvs vs xs : List V} {E : XK} {tr : TA} (h : Ev ta σ H (.ref a)) (ho : H a = some (.ins C dx fs)) (hm : fs.lookup m = none) (hl : EvL te σ H xs) (hr : EvA tr σ H vs) (hs : ∀ p H1, Ex H H1 → H1 p = some (.lst xs) → SpV sp (.ref a :: ((.ref p :: vs) ++ dvs)) H1 z) :
    Ev (tMeth C m sp dvs E ta (tCons te tr)) σ H z := fun H1 e Q q =>
  h H1 e _ fun H2 e2 => ⟨a, dx, fs, rfl, e2 a _ (e a _ ho), hm, hl H2 (e.trans e2) _ fun p H3 np e3 hp => hr H3 ((e.trans e2).trans e3) _ fun H4 e4 => hs p H4 (((e.trans e2).trans e3).trans e4) (e4 p _ hp) H4 (Ex.refl H4) Q (fun H5 e5 => q H5 (((e2.trans e3).trans e4).trans e5)) E⟩
theorem ev_showsL {T : Tx K mg} {f : Addr} {an : Ans} {row : List Nat} {one other : Nat} {tr : TA} {E1 E2 : XK} (hf : AnsAt T H f an) (ok : RowOk row) (h1 : one < row.length) (h2 : other < row.length) (h : Ev ta σ H (.ref f)) (hl : EvL te σ H (vNs row)) (hr : EvA tr σ H [vN one, vN other]) :
    Ev (fun σ H Q => tMeth T.a_Meet "shows" (sp_shM T) [] E1 ta (tCons te tr) σ H Q ∨ tMeth T.a_Apart "shows" (sp_shA T) [] E2 ta (tCons te tr) σ H Q) σ H (.bl (shB row one other an)) := by
  cases an with
  | meet z =>
    obtain ⟨dx, q⟩ := hf
    exact ev_orL (ev_methL h q rfl hl hr fun p H1 e hp => sv_shM ⟨dx, e f _ q⟩ (sq_of hp) ok h1 h2)
  | apart m t =>
    obtain ⟨dx, q⟩ := hf
    exact ev_orR (ev_methL h q rfl hl hr fun p H1 e hp => sv_shA ⟨dx, e f _ q⟩ (sq_of hp) ok h1 h2)
theorem s_retLL {xs ys : List V} (h1 : EvL ta σ H xs) (h2 : EvL tb σ H ys) (k : ∀ t p q H2, Ex H H2 → H t = none → H q = none → H2 t = some (.tup [.ref p, .ref q]) → H2 p = some (.lst xs) → H2 q = some (.lst ys) → D.rt (.ref t) H2) : tRet (tTup (tCons ta (tCons tb tNil))) D σ H :=
  h1 H (Ex.refl H) _ fun p H1 np e1 hp => h2 H1 e1 _ fun q H2 nq e2 hq => ⟨sz_of (show 2 ≤ 100000 by decide), fun t ht => k t p q _ ((e1.trans e2).trans (Ex.new ht)) (fresh_back (e1.trans e2) ht) (fresh_back e1 nq) upd_same (Ex.new ht p _ (e2 p _ hp)) (Ex.new ht q _ hq)⟩
end
theorem ok__law_compared (T : Tx K mg) : FnOk P w K mg base CX0 4 T.f__law_compared T.d__law_compared ["_law_row", "_law_one", "_law_other"] (sp_cmp8 T) := by
  refine T.F__law_compared.ok sc__law_compared (fun vs H Q E h => ?_) (fun cdv A outer s H vs Q E hr h => ?_)
  · obtain ⟨r, R, one, other, rfl, _⟩ := h
    rfl
  · obtain ⟨r, R, one, other, rfl, hR, ok, h1, h2, k⟩ := h
    refine ⟨_, (pss_cons (ps_set (i := 3) sc__law_compared.nd rfl (by first | exact Or.inl rfl | exact Or.inr rfl) (pe_call (ok_compared T) hr (by rfl) T.m_compared T.F_compared.kp T.b_compared .nil pass0 (pa_cons (pv 0) (pa_cons (pv 1) (pa_cons (pv 2) pa_nil)))))
      (pss_one (ps_ret (pe_tup (pa_cons (pe_lst (pa_cons (pe_callB (r := rIsi K) call_isi (by rfl) T.z_isinstance (by decide +kernel) (pa_cons (pv 3) (pa_cons (pe_glob (v := .ref T.a_Meet) (by rfl) T.m_Meet rfl) pa_nil))) (pa_cons (pe_or2 (pe_meth (pv 3) T.cl_Meet T.me_Meet_shows (ok_Meet_shows T) (hr.mono (by decide)) T.b_Meet_shows .nil pass0 (pa_cons (pe_callTy (r := Evl.rListS K) call_list_of (by rfl) T.z_list (by decide +kernel) (pa_cons (pv 0) pa_nil)) (pa_cons (pv 1) (pa_cons (pv 2) pa_nil)))) (pe_meth (pv 3) T.cl_Apart T.me_Apart_shows (ok_Apart_shows T) (hr.mono (by decide)) T.b_Apart_shows .nil pass0 (pa_cons (pe_callTy (r := Evl.rListS K) call_list_of (by rfl) T.z_list (by decide +kernel) (pa_cons (pv 0) pa_nil)) (pa_cons (pv 1) (pa_cons (pv 2) pa_nil))))) pa_nil))) (pa_cons (pe_lst pa_nil) pa_nil)))))), ?_⟩
    refine q_asgO (eo_call (ea_cons (ev_var rfl) (ea_cons (ev_var rfl) (ea_cons (ev_var rfl) ea_nil))) (so_compared (T := T) hR ok h1 h2)) fun f dx H1 nf e1 hf => ?_
    have hans : AnsAt T H1 f (cmpA R one other) := ⟨dx, hf⟩
    generalize cmpA R one other = an at *
    refine s_retLL (xs := [.bl (isMeet an), .bl (shB R one other an)]) (ys := []) (el_lst (ea_cons (isi_ans (ev_var rfl) hans) (ea_cons (ev_showsL hans ok h1 h2 (ev_var rfl) (el_list (K := K) (ev_var rfl) (ex_l e1 hR)) (ea_cons (ev_var rfl) (ea_cons (ev_var rfl) ea_nil))) ea_nil)) (show 2 ≤ 100000 by decide)) (el_lst ea_nil (show 0 ≤ 100000 by decide)) fun t p q H2 e2 nt nq ht hp hq => k t p q H2 (e1.trans e2) (fresh_back e1 nt) (fresh_back e1 nq) ht hp hq
/-! the lambdas -/
def frL : List Str := ["_law_one", "_law_other", "_law_here"]
structure Row8 (R : List Nat) : Prop where
  ok : RowOk R
  len : R.length = 8
theorem AnsAt.exw {T : Tx K mg} {H H' : Hp} {f : Addr} {an : Ans} (h : AnsAt T H f an) (e : ExW H H') : AnsAt T H' f an := h.elim fun dx q => ⟨dx, e f _ q (fun _ z => nomatch z) fun _ _ z => nomatch z⟩
structure Slots8 (T : Tx K mg) (H : Hp) (σ0 : L2.St) (one other : Nat) (f0 : Addr) (an : Ans) : Prop where
  sOne : slotAt σ0 5 = some (vN one)
  sOther : slotAt σ0 6 = some (vN other)
  sHere : slotAt σ0 7 = some (.ref f0)
  here : AnsAt T H f0 an
  one4 : one < 4
  other4 : other < 4
theorem Slots8.ex {T : Tx K mg} {H H' : Hp} {σ0 : L2.St} {one other : Nat} {f0 : Addr} {an : Ans} (h : Slots8 T H σ0 one other f0 an) (e : Ex H H') : Slots8 T H' σ0 one other f0 an := ⟨h.sOne, h.sOther, h.sHere, h.here.ex e, h.one4, h.other4⟩
def optD : Option Nat → PyData
  | some n => .int (n : Int)
  | none => .none
/-- what each lambda tells -/
def told (an : Ans) (i : Nat) (R : List Nat) (one other : Nat) : PyData := match i with
  | 0 => .list ((way R one).map fun n : Nat => PyData.int (n : Int))
  | 1 => .list [.int ((lastOf R one : Nat) : Int)]
  | 2 => .list (endD (lastsL R 4))
  | 3 => .list [.bool (isMeet (cmpA R one other)), .bool (shB R one other (cmpA R one other))]
  | 4 => .list [optD (runBy R 4)]
  | _ => .list [.bool (shB R one other an)]
def scD : PyData → Bool
  | .int _ => true
  | .bool _ => true
  | .none => true
  | _ => false
def stD : PyData → Bool
  | .tuple ds => ds.all scD
  | d => scD d
theorem sc_of {H : Hp} {x : V} {d : PyData} (h : Dp K H x d) (s : scD d = true) : Sc x := by
  cases h with
  | non => exact .inr (.inr rfl)
  | bl b => exact .inr (.inl ⟨b, rfl⟩)
  | int i => exact .inl ⟨i, rfl⟩
  | str x => cases s
  | lst _ _ => cases s
  | tup _ _ => cases s
theorem sc_all {H : Hp} : ∀ {xs : List V} {ds : List PyData}, DpAll K H xs ds → ds.all scD = true → ∀ x ∈ xs, Sc x
  | _, _, .nil, _, x, hx => nomatch hx
  | _, _, .cons h r, hs, x, hx => by
    rw [List.all_cons, Bool.and_eq_true] at hs
    rcases List.mem_cons.mp hx with rfl | hx
    · exact sc_of h hs.1
    · exact sc_all r hs.2 x hx
theorem stay_of {H : Hp} {x : V} {d : PyData} (h : Dp K H x d) (s : stD d = true) : Stay K H x := by
  cases h with
  | non => exact .inl (.inr (.inr rfl))
  | bl b => exact .inl (.inr (.inl ⟨b, rfl⟩))
  | int i => exact .inl (.inl ⟨i, rfl⟩)
  | str x => cases s
  | lst _ _ => cases s
  | tup h r => exact .inr ⟨_, _, rfl, h, sc_all r s⟩
theorem stay_all {H : Hp} : ∀ {xs : List V} {ds : List PyData}, DpAll K H xs ds → (∀ d ∈ ds, stD d = true) → ∀ x ∈ xs, Stay K H x
  | _, _, .nil, _, x, hx => nomatch hx
  | _, _, .cons h r, hs, x, hx => by
    rcases List.mem_cons.mp hx with rfl | hx
    · exact stay_of h (hs _ List.mem_cons_self)
    · exact stay_all r (fun d hd => hs d (List.mem_cons_of_mem _ hd)) x hx
/-- behind a lambda: the pair it tells; what of it is spoilt is new -/
def Post8 (K : PySem.W.Frag) (d : PyData) (H : Hp) (Q : VK) : Prop := ∀ t fx tl ys H2, Ex H H2 → H t = none → H tl = none → H2 t = some (.tup [.ref fx, .ref tl]) → Dp K H2 (.ref fx) d → H2 tl = some (.lst ys) → ys.length ≤ 1000 → (∀ y ∈ ys, Stay K H2 y) → Q (.ref t) H2
theorem Post8.ex {d : PyData} {H H' : Hp} {Q : VK} (h : Post8 K d H Q) (e : Ex H H') : Post8 K d H' Q := fun t fx tl ys H2 e2 nt nl => h t fx tl ys H2 (e.trans e2) (fresh_back e nt) (fresh_back e nl)
section
variable {σ : L2.St} {H : Hp} {Q : VK} {E : XK} {te : TE} {ta : TA} {ds : List PyData} {cs : Lent}
theorem em_of {xs : List V} (h : EvL te σ H xs) (hd : ∀ H1, DpAll K H1 xs ds) : EvM K te σ H ds := fun H1 e Q q => h H1 e Q fun p H2 np e2 hp => q p xs H2 e2 np hp (hd _)
theorem x_two (h : EvM K te σ H ds) (k : ∀ t p xs H2, Ex H H2 → H t = none → H p = none → H2 t = some (.tup [.ref p, .ref p]) → H2 p = some (.lst xs) → DpAll K H2 xs ds → Q (.ref t) H2) : tCall sp_two [] E (tCons te tNil) σ H Q :=
  h H (Ex.refl H) _ fun p xs H1 e1 np hp hx => ⟨.ref p, rfl, fun t H2 nt e2 ht => k t p xs H2 (e1.trans e2) (fresh_back e1 nt) np ht (e2 p _ hp) (DpAll.ex ((new_ex H H1).trans e2) hx)⟩
theorem x_call {sp : Sp} {vs : List V} (h : EvA ta σ H vs) (hs : ∀ H1, Ex H H1 → sp (vs ++ []) H1 Q E) : tCall sp [] E ta σ H Q := h H (Ex.refl H) _ hs
theorem back_none {H' : Hp} {b : Addr} {o : HO} (un : Unheld cs H') (e : backH cs H b = none) (h : H' b = some o) : H b = none := by
  rw [back_out (un.off h)] at e
  exact e
theorem fin8 (li : LentIn cs H) (k : Post8 K (.list ds) H Q) (st : ∀ d ∈ ds, stD d = true) (hl : ds.length ≤ 1000) : ∀ t p xs H2, Ex (backH cs H) H2 → backH cs H t = none → backH cs H p = none → H2 t = some (.tup [.ref p, .ref p]) → H2 p = some (.lst xs) → DpAll K H2 xs ds → Unheld cs H2 → Q (.ref t) (lendH cs H2) := by
  intro t p xs H2 e nt np ht hp hx un
  have el := ex_lend un
  exact k t p p xs _ (ex_gave li e) (back_none un nt ht) (back_none un np hp) (el t _ ht) (Dp.ex el (.lst (sq_of hp) hx)) (el p _ hp) (by rw [dpAll_len hx]; exact hl) (stay_all (DpAll.ex el hx) st)
theorem fin8c {a b : Bool} {H1 : Hp} (li : LentIn cs H) (k : Post8 K (.list [.bool a, .bool b]) H Q) (e1 : Ex (backH cs H) H1) : ∀ t p q H2, Ex H1 H2 → H1 t = none → H1 q = none → H2 t = some (.tup [.ref p, .ref q]) → H2 p = some (.lst [.bl a, .bl b]) → H2 q = some (.lst []) → Unheld cs H2 → Q (.ref t) (lendH cs H2) := by
  intro t p q H2 e nt nq ht hp hq un
  have el := ex_lend un
  exact k t p q [] _ (ex_gave li (e1.trans e)) (back_none un (fresh_back e1 nt) ht) (back_none un (fresh_back e1 nq) hq) (el t _ ht) (Dp.ex el (.lst (sq_of hp) (.cons (.bl a) (.cons (.bl b) .nil)))) (el q _ hq) (show 0 ≤ 1000 by decide) fun y hy => nomatch hy
theorem dp_opt (o : Option Nat) : Dp K H (optV o) (optD o) := by
  cases o with
  | none => exact .non
  | some n => exact .int _
theorem st_opt (o : Option Nat) : stD (optD o) = true := by cases o <;> rfl
theorem st_N {l : List Nat} {d : PyData} (h : d ∈ l.map fun n : Nat => PyData.int (n : Int)) : stD d = true := by
  obtain ⟨n, _, rfl⟩ := List.mem_map.mp h
  rfl
theorem st_end {l : List Nat} {d : PyData} (h : d ∈ endD l) : stD d = true := by
  obtain ⟨n, _, rfl⟩ := List.mem_map.mp h
  rfl
theorem end_len {R : List Nat} {m : Nat} : (endD (lastsL R m)).length ≤ 60 := by
  unfold endD riseL
  rw [List.length_map]
  have := List.length_filter_le (fun n => decide (n ∈ lastsL R m)) (List.range 60)
  rw [List.length_range] at this
  exact this
end
theorem lam_0 (T : Tx K mg) {A : Around} {outer : List Env} {s : Shared} {H : Hp} {f c h r : Addr} {R : List Nat} {us : List Value} {Q : VK} {E : XK} {cells : List (Str × Addr)} {σ0 : L2.St} {one other : Nat} {an : Ans} {hf0 : Addr} (hr : Room 5 A) (e0 : Env0 P w K mg base A outer s H) (rel : Vals [.ref h] us) (hf : H f = some (LamO f (lamF q_law (lamA lx_0) (lamS lx_0) cells c) (lamB lx_0))) (hc : H c = some (CodeO c q_law)) (hh : HeldC cells frL N_law σ0 H) (sl : Slots8 T H σ0 one other hf0 an) (h8 : Row8 R) (hH : SqL K H h [.ref r]) (hR : SqL K H r (vNs R)) (k : Post8 K (told an 0 R one other) H Q) :
    codeAny (model P w) A (.call (.ref f) ⟨us, []⟩) (CR (L2.CX P w) outer P w H s Q E) s := by
  have h8l1 : one < R.length := by rw [h8.len]; have := sl.one4; omega
  have h8l2 : other < R.length := by rw [h8.len]; have := sl.other4; omega
  have h8l4 : 4 ≤ R.length := by rw [h8.len]; decide
  exact lam_runU (N := ["_law_some", "_law_one"]) (ps := ["_law_some"]) (fr := ["_law_one"]) (js := [5]) (nscope_by (sc := lamS lx_0) (by decide +kernel)) (fun pm ctv us hl => match us, hl with | [_], _ => rfl) rfl (by decide) rfl hr e0 hf hc hh rel rfl fun cs li hr => ⟨_, (pe_call (ok__law_two T) (hr.mono (by decide)) (by rfl) T.m__law_two T.F__law_two.kp T.b__law_two .nil pass0 (pa_cons (pe_call (ok_way T) (hr.mono (by decide)) (by rfl) T.m_way T.F_way.kp T.b_way .nil pass0 (pa_cons (pe_ix (r := rIxL K) ix_list (pv 0) pe_int (fun _ _ => rfl)) (pa_cons (pv 1) pa_nil))) pa_nil)), by
    have hH1 := exw_l (exw_back li) hH
    have hR1 := exw_l (exw_back li) hR
    exact x_two (em_of (el_call (ea_cons (ev_op (ev_var rfl) ev_c (rv_ixL (K := K) hH1 (atI_nat (j := 0) rfl))) (ea_cons (ev_var (congrArg some sl.sOne)) ea_nil)) (sl_way_from (K := K) (p := one) hR1 h8.ok h8l1)) fun _ => dpAll_N _) (fin8 li k (fun d hd => st_N hd) (by rw [List.length_map]; have := way_len R one; rw [h8.len] at this; omega))⟩
theorem lam_1 (T : Tx K mg) {A : Around} {outer : List Env} {s : Shared} {H : Hp} {f c h r : Addr} {R : List Nat} {us : List Value} {Q : VK} {E : XK} {cells : List (Str × Addr)} {σ0 : L2.St} {one other : Nat} {an : Ans} {hf0 : Addr} (hr : Room 5 A) (e0 : Env0 P w K mg base A outer s H) (rel : Vals [.ref h] us) (hf : H f = some (LamO f (lamF q_law (lamA lx_1) (lamS lx_1) cells c) (lamB lx_1))) (hc : H c = some (CodeO c q_law)) (hh : HeldC cells frL N_law σ0 H) (sl : Slots8 T H σ0 one other hf0 an) (h8 : Row8 R) (hH : SqL K H h [.ref r]) (hR : SqL K H r (vNs R)) (k : Post8 K (told an 1 R one other) H Q) :
    codeAny (model P w) A (.call (.ref f) ⟨us, []⟩) (CR (L2.CX P w) outer P w H s Q E) s := by
  have h8l1 : one < R.length := by rw [h8.len]; have := sl.one4; omega
  have h8l2 : other < R.length := by rw [h8.len]; have := sl.other4; omega
  have h8l4 : 4 ≤ R.length := by rw [h8.len]; decide
  exact lam_runU (N := ["_law_this", "_law_one"]) (ps := ["_law_this"]) (fr := ["_law_one"]) (js := [5]) (nscope_by (sc := lamS lx_1) (by decide +kernel)) (fun pm ctv us hl => match us, hl with | [_], _ => rfl) rfl (by decide) rfl hr e0 hf hc hh rel rfl fun cs li hr => ⟨_, (pe_call (ok__law_two T) (hr.mono (by decide)) (by rfl) T.m__law_two T.F__law_two.kp T.b__law_two .nil pass0 (pa_cons (pe_lst (pa_cons (pe_call (ok_last T) (hr.mono (by decide)) (by rfl) T.m_last T.F_last.kp T.b_last .nil pass0 (pa_cons (pe_ix (r := rIxL K) ix_list (pv 0) pe_int (fun _ _ => rfl)) (pa_cons (pv 1) pa_nil))) pa_nil)) pa_nil)), by
    have hH1 := exw_l (exw_back li) hH
    have hR1 := exw_l (exw_back li) hR
    exact x_two (em_of (el_lst (ea_cons (ev_call (ea_cons (ev_op (ev_var rfl) ev_c (rv_ixL (K := K) hH1 (atI_nat (j := 0) rfl))) (ea_cons (ev_var (congrArg some sl.sOne)) ea_nil)) (sv_last (K := K) (p := one) hR1 h8.ok h8l1)) ea_nil) (show 1 ≤ 100000 by decide)) fun _ => .cons (.int _) .nil) (fin8 li k (fun d hd => by rw [List.mem_singleton.mp hd]; rfl) (show 1 ≤ 1000 by decide))⟩
theorem lam_2 (T : Tx K mg) {A : Around} {outer : List Env} {s : Shared} {H : Hp} {f c h r : Addr} {R : List Nat} {us : List Value} {Q : VK} {E : XK} {cells : List (Str × Addr)} {σ0 : L2.St} {one other : Nat} {an : Ans} {hf0 : Addr} (hr : Room 5 A) (e0 : Env0 P w K mg base A outer s H) (rel : Vals [.ref h] us) (hf : H f = some (LamO f (lamF q_law (lamA lx_2) (lamS lx_2) cells c) (lamB lx_2))) (hc : H c = some (CodeO c q_law)) (hh : HeldC cells frL N_law σ0 H) (sl : Slots8 T H σ0 one other hf0 an) (h8 : Row8 R) (hH : SqL K H h [.ref r]) (hR : SqL K H r (vNs R)) (k : Post8 K (told an 2 R one other) H Q) :
    codeAny (model P w) A (.call (.ref f) ⟨us, []⟩) (CR (L2.CX P w) outer P w H s Q E) s := by
  have h8l1 : one < R.length := by rw [h8.len]; have := sl.one4; omega
  have h8l2 : other < R.length := by rw [h8.len]; have := sl.other4; omega
  have h8l4 : 4 ≤ R.length := by rw [h8.len]; decide
  exact lam_runU (N := ["_law_some"]) (ps := ["_law_some"]) (fr := []) (js := []) (nscope_by (sc := lamS lx_2) (by decide +kernel)) (fun pm ctv us hl => match us, hl with | [_], _ => rfl) rfl (by decide) rfl hr e0 hf hc hh rel rfl fun cs li hr => ⟨_, (pe_call (ok__law_two T) (hr.mono (by decide)) (by rfl) T.m__law_two T.F__law_two.kp T.b__law_two .nil pass0 (pa_cons (pe_call (ok_endings T) (hr.mono (by decide)) (by rfl) T.m_endings T.F_endings.kp T.b_endings .nil pass0 (pa_cons (pe_ix (r := rIxL K) ix_list (pv 0) pe_int (fun _ _ => rfl)) (pa_cons pe_int pa_nil))) pa_nil)), by
    have hH1 := exw_l (exw_back li) hH
    have hR1 := exw_l (exw_back li) hR
    exact x_two (em_call (ea_cons (ev_op (ev_var rfl) ev_c (rv_ixL (K := K) hH1 (atI_nat (j := 0) rfl))) (ea_cons ev_c ea_nil)) (sm_endings (K := K) (many := 4) hR1 h8.ok (by decide) h8l4)) (fin8 li k (fun d hd => st_end hd) (Nat.le_trans end_len (by decide)))⟩
theorem lam_3 (T : Tx K mg) {A : Around} {outer : List Env} {s : Shared} {H : Hp} {f c h r : Addr} {R : List Nat} {us : List Value} {Q : VK} {E : XK} {cells : List (Str × Addr)} {σ0 : L2.St} {one other : Nat} {an : Ans} {hf0 : Addr} (hr : Room 5 A) (e0 : Env0 P w K mg base A outer s H) (rel : Vals [.ref h] us) (hf : H f = some (LamO f (lamF q_law (lamA lx_3) (lamS lx_3) cells c) (lamB lx_3))) (hc : H c = some (CodeO c q_law)) (hh : HeldC cells frL N_law σ0 H) (sl : Slots8 T H σ0 one other hf0 an) (h8 : Row8 R) (hH : SqL K H h [.ref r]) (hR : SqL K H r (vNs R)) (k : Post8 K (told an 3 R one other) H Q) :
    codeAny (model P w) A (.call (.ref f) ⟨us, []⟩) (CR (L2.CX P w) outer P w H s Q E) s := by
  have h8l1 : one < R.length := by rw [h8.len]; have := sl.one4; omega
  have h8l2 : other < R.length := by rw [h8.len]; have := sl.other4; omega
  have h8l4 : 4 ≤ R.length := by rw [h8.len]; decide
  exact lam_runU (N := ["_law_this", "_law_one", "_law_other"]) (ps := ["_law_this"]) (fr := ["_law_one", "_law_other"]) (js := [5, 6]) (nscope_by (sc := lamS lx_3) (by decide +kernel)) (fun pm ctv us hl => match us, hl with | [_], _ => rfl) rfl (by decide) rfl hr e0 hf hc hh rel rfl fun cs li hr => ⟨_, (pe_call (ok__law_compared T) hr (by rfl) T.m__law_compared T.F__law_compared.kp T.b__law_compared .nil pass0 (pa_cons (pe_ix (r := rIxL K) ix_list (pv 0) pe_int (fun _ _ => rfl)) (pa_cons (pv 1) (pa_cons (pv 2) pa_nil)))), by
    have hH1 := exw_l (exw_back li) hH
    have hR1 := exw_l (exw_back li) hR
    exact x_call (ea_cons (ev_op (ev_var rfl) ev_c (rv_ixL (K := K) hH1 (atI_nat (j := 0) rfl))) (ea_cons (ev_var (congrArg some sl.sOne)) (ea_cons (ev_var (congrArg some sl.sOther)) ea_nil))) fun H1 e1 => ⟨r, R, one, other, rfl, ex_l e1 hR1, h8.ok, h8l1, h8l2, fin8c li k e1⟩⟩
theorem lam_4 (T : Tx K mg) {A : Around} {outer : List Env} {s : Shared} {H : Hp} {f c h r : Addr} {R : List Nat} {us : List Value} {Q : VK} {E : XK} {cells : List (Str × Addr)} {σ0 : L2.St} {one other : Nat} {an : Ans} {hf0 : Addr} (hr : Room 5 A) (e0 : Env0 P w K mg base A outer s H) (rel : Vals [.ref h] us) (hf : H f = some (LamO f (lamF q_law (lamA lx_4) (lamS lx_4) cells c) (lamB lx_4))) (hc : H c = some (CodeO c q_law)) (hh : HeldC cells frL N_law σ0 H) (sl : Slots8 T H σ0 one other hf0 an) (h8 : Row8 R) (hH : SqL K H h [.ref r]) (hR : SqL K H r (vNs R)) (k : Post8 K (told an 4 R one other) H Q) :
    codeAny (model P w) A (.call (.ref f) ⟨us, []⟩) (CR (L2.CX P w) outer P w H s Q E) s := by
  have h8l1 : one < R.length := by rw [h8.len]; have := sl.one4; omega
  have h8l2 : other < R.length := by rw [h8.len]; have := sl.other4; omega
  have h8l4 : 4 ≤ R.length := by rw [h8.len]; decide
  exact lam_runU (N := ["_law_some"]) (ps := ["_law_some"]) (fr := []) (js := []) (nscope_by (sc := lamS lx_4) (by decide +kernel)) (fun pm ctv us hl => match us, hl with | [_], _ => rfl) rfl (by decide) rfl hr e0 hf hc hh rel rfl fun cs li hr => ⟨_, (pe_call (ok__law_two T) (hr.mono (by decide)) (by rfl) T.m__law_two T.F__law_two.kp T.b__law_two .nil pass0 (pa_cons (pe_lst (pa_cons (pe_call (ok_run_by T) (hr.mono (by decide)) (by rfl) T.m_run_by T.F_run_by.kp T.b_run_by .nil pass0 (pa_cons (pe_ix (r := rIxL K) ix_list (pv 0) pe_int (fun _ _ => rfl)) (pa_cons pe_int pa_nil))) pa_nil)) pa_nil)), by
    have hH1 := exw_l (exw_back li) hH
    have hR1 := exw_l (exw_back li) hR
    exact x_two (em_of (el_lst (ea_cons (ev_call (ea_cons (ev_op (ev_var rfl) ev_c (rv_ixL (K := K) hH1 (atI_nat (j := 0) rfl))) (ea_cons ev_c ea_nil)) (sv_run_by (K := K) (many := 4) hR1 h8.ok (by decide) h8l4)) ea_nil) (show 1 ≤ 100000 by decide)) fun _ => .cons (dp_opt _) .nil) (fin8 li k (fun d hd => by rw [List.mem_singleton.mp hd]; exact st_opt _) (show 1 ≤ 1000 by decide))⟩
theorem lam_5 (T : Tx K mg) {A : Around} {outer : List Env} {s : Shared} {H : Hp} {f c h r : Addr} {R : List Nat} {us : List Value} {Q : VK} {E : XK} {cells : List (Str × Addr)} {σ0 : L2.St} {one other : Nat} {an : Ans} {hf0 : Addr} (hr : Room 5 A) (e0 : Env0 P w K mg base A outer s H) (rel : Vals [.ref h] us) (hf : H f = some (LamO f (lamF q_law (lamA lx_5) (lamS lx_5) cells c) (lamB lx_5))) (hc : H c = some (CodeO c q_law)) (hh : HeldC cells frL N_law σ0 H) (sl : Slots8 T H σ0 one other hf0 an) (h8 : Row8 R) (hH : SqL K H h [.ref r]) (hR : SqL K H r (vNs R)) (k : Post8 K (told an 5 R one other) H Q) :
    codeAny (model P w) A (.call (.ref f) ⟨us, []⟩) (CR (L2.CX P w) outer P w H s Q E) s := by
  have h8l1 : one < R.length := by rw [h8.len]; have := sl.one4; omega
  have h8l2 : other < R.length := by rw [h8.len]; have := sl.other4; omega
  have h8l4 : 4 ≤ R.length := by rw [h8.len]; decide
  exact lam_runU (N := ["_law_some", "_law_one", "_law_other", "_law_here"]) (ps := ["_law_some"]) (fr := ["_law_one", "_law_other", "_law_here"]) (js := [5, 6, 7]) (nscope_by (sc := lamS lx_5) (by decide +kernel)) (fun pm ctv us hl => match us, hl with | [_], _ => rfl) rfl (by decide) rfl hr e0 hf hc hh rel rfl fun cs li hr => ⟨_, (pe_call (ok__law_two T) (hr.mono (by decide)) (by rfl) T.m__law_two T.F__law_two.kp T.b__law_two .nil pass0 (pa_cons (pe_lst (pa_cons (pe_or2 (pe_meth (pv 3) T.cl_Meet T.me_Meet_shows (ok_Meet_shows T) (hr.mono (by decide)) T.b_Meet_shows .nil pass0 (pa_cons (pe_ix (r := rIxL K) ix_list (pv 0) pe_int (fun _ _ => rfl)) (pa_cons (pv 1) (pa_cons (pv 2) pa_nil)))) (pe_meth (pv 3) T.cl_Apart T.me_Apart_shows (ok_Apart_shows T) (hr.mono (by decide)) T.b_Apart_shows .nil pass0 (pa_cons (pe_ix (r := rIxL K) ix_list (pv 0) pe_int (fun _ _ => rfl)) (pa_cons (pv 1) (pa_cons (pv 2) pa_nil))))) pa_nil)) pa_nil)), by
    have hH1 := exw_l (exw_back li) hH
    have hR1 := exw_l (exw_back li) hR
    exact x_two (em_of (el_lst (ea_cons (ev_shows (T := T) (sl.here.exw (exw_back li)) hR1 h8.ok h8l1 h8l2 (ev_var (congrArg some sl.sHere)) (ea_cons (ev_op (ev_var rfl) ev_c (rv_ixL (K := K) hH1 (atI_nat (j := 0) rfl))) (ea_cons (ev_var (congrArg some sl.sOne)) (ea_cons (ev_var (congrArg some sl.sOther)) ea_nil)))) ea_nil) (show 1 ≤ 100000 by decide)) fun _ => .cons (.bl _) .nil) (fin8 li k (fun d hd => by rw [List.mem_singleton.mp hd]; rfl) (show 1 ≤ 1000 by decide))⟩
end

/-! ### the law: each door -/
section
variable {P : Program} {w : World} {K : PySem.W.Frag} {mg : Str → Option Value} {base : Heap}
/-- a lambda of the law, with what its cells hold; D: what it tells of a row -/
def Door (T : Tx K mg) (H : Hp) (f : Addr) (D : List Nat → PyData) : Prop := ∃ (i : Nat) (cells : List (Str × Addr)) (σ0 : L2.St) (c : Addr) (one other : Nat) (f0 : Addr) (an : Ans), i < 6 ∧ H f = some (LamO f (lamF (lamQ i) (lamA (lamX i)) (lamS (lamX i)) cells c) (lamB (lamX i))) ∧ H c = some (CodeO c (lamQ i)) ∧
  HeldC cells frL (lamN i) σ0 H ∧ Slots8 T H σ0 one other f0 an ∧ ∀ R, D R = told an i R one other
theorem Door.ex {T : Tx K mg} {H H' : Hp} {f : Addr} {D : List Nat → PyData} (h : Door T H f D) (e : Ex H H') : Door T H' f D := by
  obtain ⟨i, cells, σ0, c, one, other, f0, an, hi, hf, hc, hh, sl, hD⟩ := h
  exact ⟨i, cells, σ0, c, one, other, f0, an, hi, e f _ hf, e c _ hc, hh.ex e, sl.ex e, hD⟩
theorem Door.lam {T : Tx K mg} {H : Hp} {f : Addr} {D : List Nat → PyData} (h : Door T H f D) : IsLam H f := by
  obtain ⟨i, cells, σ0, c, one, other, f0, an, hi, hf, _⟩ := h
  exact ⟨_, _, hf⟩
theorem good_b (a : Bool) : Good (.list [.bool a]) := by
  constructor
  all_goals cases a <;> decide +kernel
theorem good_b2 (a b : Bool) : Good (.list [.bool a, .bool b]) := by
  constructor
  all_goals cases a <;> cases b <;> decide +kernel
theorem good_told {an : Ans} {i : Nat} {R : List Nat} {one other : Nat} (h8 : Row8 R) (h1 : one < 4) (h2 : other < 4) : Good (told an i R one other) ∧ ∃ ds, told an i R one other = .list ds := by
  have hl := h8.len
  match i with
  | 0 => exact ⟨good_N (l := way R one) (fun n hn => by have := way_lt (row := R) (p := one) (by omega) n hn; omega) (by have := way_len R one; omega), _, rfl⟩
  | 1 => exact ⟨good_N (l := [lastOf R one]) (fun n hn => by
      rw [List.mem_singleton.mp hn]
      have h3 : lastOf R one ∈ way R one := by
        rw [way_split R one]
        exact List.mem_append_right _ (List.mem_singleton.mpr rfl)
      have := way_lt (row := R) (p := one) (by omega) _ h3
      omega) (by show 1 ≤ 40000; decide), _, rfl⟩
  | 2 => exact ⟨good_end (by omega) (by omega), _, rfl⟩
  | 3 => exact ⟨good_b2 _ _, _, rfl⟩
  | 4 =>
    refine ⟨?_, _, rfl⟩
    show Good (.list [optD (runBy R 4)])
    cases hr : runBy R 4 with
    | none =>
      constructor
      all_goals decide +kernel
    | some n =>
      have hn : n ∈ runL R 4 := List.mem_of_head? hr
      have := runL_lt (row := R) (k := 4) (by omega) n hn
      exact good_N (l := [n]) (fun m hm => by rw [List.mem_singleton.mp hm]; omega) (by show 1 ≤ 40000; decide)
  | n + 5 => exact ⟨good_b _, _, rfl⟩
theorem Door.good {T : Tx K mg} {H : Hp} {f : Addr} {D : List Nat → PyData} (h : Door T H f D) {R : List Nat} (h8 : Row8 R) : Good (D R) ∧ ∃ ds, D R = .list ds := by
  obtain ⟨i, cells, σ0, c, one, other, f0, an, hi, hf, hc, hh, sl, hD⟩ := h
  rw [hD]
  exact good_told h8 sl.one4 sl.other4
def Asks8 (T : Tx K mg) : Addr → Sp := fun f vs H Q _ => ∃ (h r : Addr) (R : List Nat) (D : List Nat → PyData), vs = [.ref h] ∧ Door T H f D ∧ Row8 R ∧ SqL K H h [.ref r] ∧ SqL K H r (vNs R) ∧ Post8 K (D R) H Q
theorem lam_all (T : Tx K mg) : LamRun P w K mg base 5 (Asks8 T) := by
  intro A outer s H f us vs Q E hr e0 rel hA
  obtain ⟨h, r, R, D, rfl, ⟨i, cells, σ0, c, one, other, f0, an, hi, hf, hc, hh, sl, hD⟩, h8, hH, hR, k⟩ := hA
  rw [hD] at k
  by_cases h0 : i = 0
  · subst h0
    exact lam_0 T hr e0 rel hf hc hh sl h8 hH hR k
  by_cases h1 : i = 1
  · subst h1
    exact lam_1 T hr e0 rel hf hc hh sl h8 hH hR k
  by_cases h2 : i = 2
  · subst h2
    exact lam_2 T hr e0 rel hf hc hh sl h8 hH hR k
  by_cases h3 : i = 3
  · subst h3
    exact lam_3 T hr e0 rel hf hc hh sl h8 hH hR k
  by_cases h4 : i = 4
  · subst h4
    exact lam_4 T hr e0 rel hf hc hh sl h8 hH hR k
  by_cases h5 : i = 5
  · subst h5
    exact lam_5 T hr e0 rel hf hc hh sl h8 hH hR k
  omega
section
variable {T : Tx K mg} {σ : L2.St} {H : Hp} {Q : VK} {i : Nat} {f h r : Addr} {R : List Nat} {D : List Nat → PyData} {te : TE}
theorem x_ask (h0 : σ[i]? = some (some (.ref f))) (d : Door T H f D) (he : Ev te σ H (.ref h)) (hH : SqL K H h [.ref r]) (hR : SqL K H r (vNs R)) (h8 : Row8 R) (k : Post8 K (D R) H Q) : tCallF i (Asks8 T) (fun _ _ _ _ => False) (tCons te tNil) σ H Q :=
  x_callF h0 d.lam (ea_cons he ea_nil) fun H1 e => ⟨h, r, R, D, rfl, d.ex e, h8, ex_l e hH, ex_l e hR, k.ex e⟩
theorem post_fst {d : PyData} (q : ∀ v H2, Ex H H2 → Dp K H2 v d → Q v H2) : Post8 K d H fun x H1 => (tC (.int 0)) σ H1 fun y H2 => rIxT K x y H2 Q := fun t fx tl ys H2 e2 _ _ ht hd _ _ _ => ⟨t, [.ref fx, .ref tl], 0, .ref fx, rfl, rfl, st_of ht, rfl, q (.ref fx) H2 e2 hd⟩
/-- ask(handed)[0] -/
theorem ed_ask (h0 : σ[i]? = some (some (.ref f))) (d : Door T H f D) (he : Ev te σ H (.ref h)) (hH : SqL K H h [.ref r]) (hR : SqL K H r (vNs R)) (h8 : Row8 R) : EvD K (tOp (rIxT K) (tCallF i (Asks8 T) (fun _ _ _ _ => False) (tCons te tNil)) (tC (.int 0))) σ H (D R) := fun H1 e Q q =>
  x_ask h0 (d.ex e) (he.mono e) (ex_l e hH) (ex_l e hR) h8 (post_fst q)
/-- ask(copy)[0] -/
theorem ed_askN (h0 : σ[i]? = some (some (.ref f))) (d : Door T H f D) (he : EvR te σ H [R]) (h8 : Row8 R) : EvD K (tOp (rIxT K) (tCallF i (Asks8 T) (fun _ _ _ _ => False) (tCons te tNil)) (tC (.int 0))) σ H (D R) := fun H1 e Q q =>
  ⟨f, h0, (d.ex e).lam, he H1 e _ fun p xs H2 e2 np hp hrs => by
    obtain ⟨a, ha1, ha2⟩ := hrs.2 0 R rfl
    have hxs : xs = [.ref a] := by
      have hl := hrs.1
      match xs, hl, ha1 with
      | [x], _, z => rw [Option.some.inj z]
    have hp2 : H2 p = some (.lst [.ref a]) := by rw [← hxs]; exact hp
    exact ⟨(d.ex (e.trans e2)).lam, p, a, R, D, rfl, d.ex (e.trans e2), h8, sq_of hp2, sq_of (new_ex H1 H2 a _ ha2), post_fst fun v H3 e3 hd => q v H3 (e2.trans e3) hd⟩⟩
end
theorem dp_lists {H : Hp} {a r : Addr} {R : List Nat} (h1 : SqL K H a [.ref r]) (h2 : SqL K H r (vNs R)) : Dp K H (.ref a) (.list [pdN R]) := .lst h1 (.cons (dp_N h2) .nil)
theorem sh_lists {R : List Nat} : SeqAt.shaped (.list [pdN R]) = true ∧ PyData.eqv (.list [pdN R]) (.list [pdN R]) = true := by
  obtain ⟨h1, h2⟩ := layN R
  have hl : (PyData.list [pdN R]).canLay0 = true := by
    show PyData.canLayAll0 [pdN R] = true
    rw [PyData.canLayAll0]
    have e : (pdN R).canLay0 = true := h1
    rw [e]
    rfl
  refine ⟨?_, SeqAt.eqv_refl _ hl⟩
  show ((PyData.list [pdN R]).canLay0 && decide ((PyData.list [pdN R]).depth ≤ 64)) = true
  have hd : (PyData.list [pdN R]).depth ≤ 64 := by
    have e : (pdN R).depth ≤ 1 := by
      show (PyData.list _).depth ≤ 1
      rw [PyData.depth, h2]
      decide
    rw [PyData.depth, PyData.depthAll, PyData.depthAll]
    omega
  rw [hl, decide_eq_true hd]
  rfl
/-- H without what stands at a -/
def delH (H : Hp) (a : Addr) : Hp := fun b => if b = a then none else H b
theorem del_at {H : Hp} {a : Addr} : delH H a a = none := if_pos rfl
theorem del_ne {H : Hp} {a b : Addr} (h : b ≠ a) : delH H a b = H b := if_neg h
theorem del_ex {H : Hp} {a : Addr} : Ex (delH H a) H := fun b o h => by
  by_cases z : b = a
  · rw [z, del_at] at h
    cases h
  · rw [del_ne z] at h
    exact h
theorem ex_del {H0 H : Hp} {a : Addr} (e : Ex H0 H) (n : H0 a = none) : Ex H0 (delH H a) := fun b o h => by
  rw [del_ne (ne_of_none h n)]
  exact e b o h
theorem str_same (x : Str) : (!decide (V.str x = V.str x)) = false := by rw [decide_eq_true rfl]; rfl
/-- for x in ((a, b), (c, d)) -/
theorem q_for2 {σ : L2.St} {H : Hp} {ta tb : TE} {g : TG} {tu tz : TS} {D : Ends} {x1 y1 x2 y2 : V} (h1 : EvU ta σ H [x1, y1]) (h2 : EvU tb σ H [x2, y2])
    (k : ∀ t1 t2 to H1, Ex H H1 → H1 t1 = some (.tup [x1, y1]) → H1 t2 = some (.tup [x2, y2]) → H1 to = some (.tup [.ref t1, .ref t2]) → ∃ Pv : Nat → L2.St → Hp → Prop, Pv 0 σ H1 ∧ (∀ i σ' H', i ≤ 2 → Pv i σ' H' → SqT K H' to [.ref t1, .ref t2]) ∧
      (∀ i x σ' H', ([.ref t1, .ref t2] : List V)[i]? = some x → Pv i σ' H' → g x σ' H' fun σ2 H2 => tu { D with nx := Pv (i + 1), ct := Pv (i + 1), bk := tz D } σ2 H2) ∧ ∀ σ' H', Pv 2 σ' H' → tz D σ' H') :
    tSeq (tFor (iTup K (tTup (tCons ta (tCons tb tNil)))) g tu) tz D σ H :=
  h1 H (Ex.refl H) _ fun t1 H1 n1 e1 ht1 => h2 H1 e1 _ fun t2 H2 n2 e2 ht2 => ⟨sz_of (show 2 ≤ 100000 by decide), fun to nto => by
    obtain ⟨Pv, p0, p1, p2, p3⟩ := k t1 t2 to _ ((e1.trans e2).trans (Ex.new nto)) (Ex.new nto t1 _ (e2 t1 _ ht1)) (Ex.new nto t2 _ ht2) upd_same
    exact ⟨to, rfl, ⟨_, st_of upd_same⟩, for_tup (D := { D with nx := tz D }) (xs := [.ref t1, .ref t2]) Pv p0 p1 p2 p3⟩⟩
def sp_door (T : Tx K mg) : Sp := fun vs H Q _ => ∃ (f la ro oa le : Addr) (R1 R2 : List Nat) (D : List Nat → PyData), vs = [.ref f, .ref la, .ref oa] ∧ Door T H f D ∧ SqL K H la [.ref ro] ∧ SqL K H ro (vNs R1) ∧ SqL K H oa [.ref le] ∧ SqL K H le (vNs R2) ∧ Row8 R1 ∧ Row8 R2 ∧ RetV (.bl true) H Q
theorem ok__law_door_right (T : Tx K mg) : FnG P w K mg base CX0 7 T.f__law_door_right T.d__law_door_right ["_law_ask", "_law_lists", "_law_others"] (sp_door T) := by
  refine Fun.okG T.F__law_door_right sc__law_door_right (fun vs H Q E h => ?_) (fun cdv A outer s H vs Q E hgd hr h => ?_)
  · obtain ⟨f, la, ro, oa, le, R1, R2, D, rfl, _⟩ := h
    rfl
  · obtain ⟨f, la, ro, oa, le, R1, R2, D, rfl, hD, hla, hro, hoa, hle, h1, h2, k⟩ := h
    obtain ⟨g1, ds1, l1⟩ := hD.good h1
    obtain ⟨g2, ds2, l2⟩ := hD.good h2
    have n1 : R1.length ≤ 100 := by rw [h1.len]; decide
    have n2 : R2.length ≤ 100 := by rw [h2.len]; decide
    obtain ⟨s1, q1⟩ := sh_lists (R := R1)
    refine ⟨_, (pss_cons (ps_set (i := 3) sc__law_door_right.nd rfl (by first | exact Or.inl rfl | exact Or.inr rfl) (pe_call (ok__law_deep T) (hr.mono (by decide)) (by rfl) T.m__law_deep T.F__law_deep.kp T.b__law_deep .nil pass0 (pa_cons (pv 1) pa_nil)))
      (pss_cons (ps_asg (pe_callF (i := 0) (lam_all T) (hr.mono (by decide)) (by rfl) (by first | exact Or.inl rfl | exact Or.inr (Or.inl rfl)) (fun σ => pass_none) (pa_cons (pv 3) pa_nil)) (pg_tup (by rfl) (pgs_cons (pg_name (i := 4) sc__law_door_right.nd rfl (by first | exact Or.inl rfl | exact Or.inr rfl)) (pgs_cons (pg_name (i := 5) sc__law_door_right.nd rfl (by first | exact Or.inl rfl | exact Or.inr rfl)) pgs_nil))))
      (pss_cons (ps_par (i := 6) (j := 7) (by rfl) sc__law_door_right.nd rfl rfl (by decide) rfl rfl (pa_cons (pe_callTy (r := rStrD K) (call_strD (by exact hgd) hr.units) (by rfl) T.z_str (by decide +kernel) (pa_cons (pv 4) pa_nil)) (pa_cons (pe_callTy (r := rStrD K) (call_strD (by exact hgd) hr.units) (by rfl) T.z_str (by decide +kernel) (pa_cons (pe_ix (r := rIxT K) ix_tup (pe_callF (i := 0) (lam_all T) (hr.mono (by decide)) (by rfl) (by first | exact Or.inl rfl | exact Or.inr (Or.inl rfl)) (fun σ => pass_none) (pa_cons (pe_call (ok__law_deep T) (hr.mono (by decide)) (by rfl) T.m__law_deep T.F__law_deep.kp T.b__law_deep .nil pass0 (pa_cons (pv 2) pa_nil)) pa_nil)) pe_int (fun _ _ => rfl)) pa_nil)) pa_nil)) (by rfl))
      (pss_cons (ps_if (pt_cmpR (r := rNeD K) (op_neD hr.units) (pv 3) (pv 1) (nomark _)) (pss_one (ps_ret pe_bl)) pss_nil)
      (pss_cons (ps_expr (pe_call (ok__law_spoilt T) (hr.mono (by decide)) (by rfl) T.m__law_spoilt T.F__law_spoilt.kp T.b__law_spoilt .nil pass0 (pa_cons (pv 5) pa_nil)))
      (pss_cons (ps_if (PW.pt (pw_or (pt_cmpR op_ne (pe_callTy (r := rStrD K) (call_strD (by exact hgd) hr.units) (by rfl) T.z_str (by decide +kernel) (pa_cons (pe_ix (r := rIxT K) ix_tup (pe_callF (i := 0) (lam_all T) (hr.mono (by decide)) (by rfl) (by first | exact Or.inl rfl | exact Or.inr (Or.inl rfl)) (fun σ => pass_none) (pa_cons (pv 3) pa_nil)) pe_int (fun _ _ => rfl)) pa_nil)) (pv 6) (nomark _)) (pw_or1 (pt_cmpR (r := rNeD K) (op_neD hr.units) (pv 3) (pv 1) (nomark _))))) (pss_one (ps_ret pe_bl)) pss_nil)
      (pss_cons (ps_for PassesOwn.never rfl (pi_tup (pe_tup (pa_cons (pe_tup (pa_cons (pv 2) (pa_cons (pv 7) pa_nil))) (pa_cons (pe_tup (pa_cons (pv 1) (pa_cons (pv 6) pa_nil))) pa_nil)))) (pg_tup (by rfl) (pgs_cons (pg_name (i := 8) sc__law_door_right.nd rfl (by first | exact Or.inl rfl | exact Or.inr rfl)) (pgs_cons (pg_name (i := 9) sc__law_door_right.nd rfl (by first | exact Or.inl rfl | exact Or.inr rfl)) pgs_nil)))
      (pss_cons (ps_expr (pe_call (ok__law_put T) (hr.mono (by decide)) (by rfl) T.m__law_put T.F__law_put.kp T.b__law_put .nil pass0 (pa_cons (pv 3) (pa_cons (pv 8) pa_nil))))
      (pss_one (ps_if (PW.pt (pw_or (pt_cmpR op_ne (pe_callTy (r := rStrD K) (call_strD (by exact hgd) hr.units) (by rfl) T.z_str (by decide +kernel) (pa_cons (pe_ix (r := rIxT K) ix_tup (pe_callF (i := 0) (lam_all T) (hr.mono (by decide)) (by rfl) (by first | exact Or.inl rfl | exact Or.inr (Or.inl rfl)) (fun σ => pass_none) (pa_cons (pv 3) pa_nil)) pe_int (fun _ _ => rfl)) pa_nil)) (pv 9) (nomark _)) (pw_or1 (pt_cmpR (r := rNeD K) (op_neD hr.units) (pv 3) (pv 8) (nomark _))))) (pss_one (ps_ret pe_bl)) pss_nil))))
      (pss_one (ps_ret pe_bl))))))))), ?_⟩
    refine q_asgR (er_call (ea_cons (ev_var rfl) ea_nil) (sr_deep2 hla hro n1)) fun ha xs H1 e1 nha hha hrs => ?_
    obtain ⟨h0, hx0, hh0⟩ := hrs.2 0 R1 rfl
    have hxs : xs = [.ref h0] := by
      have hl := hrs.1
      match xs, hl, hx0 with
      | [x], _, z => rw [Option.some.inj z]
    subst hxs
    have nh0 : H h0 = none := by
      cases z : H h0 with
      | none => rfl
      | some o =>
        rw [new_old z] at hh0
        cases hh0
    have hh1 : H1 h0 = some (.lst (vNs R1)) := new_ex H H1 h0 _ hh0
    have n0a : ha ≠ h0 := fun z => by
      rw [z, hh1] at hha
      have := HO.lst.inj (Option.some.inj hha)
      have hlen := congrArg List.length this
      rw [vNs_len, h1.len] at hlen
      cases hlen
    -- the first answer
    refine x_ask (K := K) rfl (hD.ex e1) (ev_var rfl) (sq_of hha) (sq_of hh1) h1 fun t fx tl ys H2 e2 nt ntl ht hd htl hyl hy => ?_
    refine ⟨t, [.ref fx, .ref tl], rfl, st_of ht, rfl, .ref fx, [.ref tl], rfl, .ref tl, [], rfl, rfl, ?_⟩
    have e02 := e1.trans e2
    refine q_par (x := .str (D R1).shown) (y := .str (D R2).shown) (ea_cons (ev_strD (K := K) (ed_var rfl hd) (.inl ⟨ds1, l1⟩) g1) (ea_cons (ev_strD (K := K) (ed_askN (T := T) rfl (hD.ex e02) (er_call (ea_cons (ev_var rfl) ea_nil) (sr_deep2 (ex_l e02 hoa) (ex_l e02 hle) n2)) h2) (.inl ⟨ds2, l2⟩) g2) ea_nil)) fun H3 e3 => ?_
    have e13 := e2.trans e3
    have e03 := e1.trans e13
    refine q_when (b := false) (evT_to (et_test (ev_neD (K := K) (ed_var rfl (dp_lists (sq_of (e13 ha _ hha)) (sq_of (e13 h0 _ hh1)))) (ed_var rfl (dp_lists (ex_l e03 hla) (ex_l e03 hro))) s1 s1)) (by rw [q1]; rfl)) (fun z => nomatch z) fun _ H4 e4 => ?_
    -- what was told is spoilt
    have e24 := e3.trans e4
    refine ⟨.ref tl, rfl, tl, ys, rfl, e24 tl _ htl, hyl, fun y hy2 => (hy y hy2).ex e24, fun H5 zs e5 => ?_⟩
    have e15 : Ex H1 (upd H5 tl (.lst zs)) := Ex.mut ((e2.trans e24).trans e5) ntl
    have e05 := e1.trans e15
    generalize upd H5 tl (.lst zs) = H6 at *
    have hha6 := e15 ha _ hha
    have hh6 := e15 h0 _ hh1
    refine q_when (b := false) (evT_to (et_or (et_test (ev_op (ev_strD (K := K) (ed_ask (T := T) rfl (hD.ex e05) (ev_var rfl) (sq_of hha6) (sq_of hh6) h1) (.inl ⟨ds1, l1⟩) g1) (ev_var rfl) (rv_ne rfl))) fun _ =>
      et_test (ev_neD (K := K) (ed_var rfl (dp_lists (sq_of hha6) (sq_of hh6))) (ed_var rfl (dp_lists (ex_l e05 hla) (ex_l e05 hro))) s1 s1)) (by rw [str_same, q1]; rfl)) (fun z => nomatch z) fun _ H7 e7 => ?_
    have e17 := e15.trans e7
    -- changed in place, and back
    refine q_for2 (K := K) (x1 := .ref oa) (y1 := .str (D R2).shown) (x2 := .ref la) (y2 := .str (D R1).shown) (eu_tup (ea_cons (ev_var rfl) (ea_cons (ev_var rfl) ea_nil)) (show 2 ≤ 100000 by decide)) (eu_tup (ea_cons (ev_var rfl) (ea_cons (ev_var rfl) ea_nil)) (show 2 ≤ 100000 by decide)) fun t1 t2 to Ha e79 ht1' ht2' hto => ?_
    have e1a := e17.trans e79
    have hh_a := e1a h0 _ hh1
    have eB : Ex H (delH Ha h0) := ex_del (e1.trans e1a) nh0
    have hhaB : delH Ha h0 ha = some (.lst [.ref h0]) := by rw [del_ne n0a]; exact e1a ha _ hha
    have neT : ∀ {b : Addr} {xs : List V}, Ha b = some (.tup xs) → b ≠ h0 := fun {b xs} z y => by
      rw [y, hh_a] at z
      cases z
    have toB : delH Ha h0 to = some (.tup [.ref t1, .ref t2]) := by rw [del_ne (neT hto)]; exact hto
    have t1B : delH Ha h0 t1 = some (.tup [.ref oa, .str (D R2).shown]) := by rw [del_ne (neT ht1')]; exact ht1'
    have t2B : delH Ha h0 t2 = some (.tup [.ref la, .str (D R1).shown]) := by rw [del_ne (neT ht2')]; exact ht2'
    refine ⟨fun i σ' H' => ∃ y8 y9 cur, σ' = [some (.ref f), some (.ref la), some (.ref oa), some (.ref ha), some (.ref fx), some (.ref tl), some (.str (D R1).shown), some (.str (D R2).shown), y8, y9] ∧ Ex (delH Ha h0) H' ∧ H' h0 = some (.lst (vNs cur)), ⟨_, _, R1, rfl, del_ex, hh_a⟩, (fun i σ' H' _ ⟨_, _, _, _, e, _⟩ => st_of (e to _ toB)), ?_, ?_⟩
    · rintro i x σ' H' hi ⟨y8, y9, cur, rfl, e', hc⟩
      obtain ⟨sa, sr, tt, R, rfl, htt, hsa, hsr, h8⟩ : ∃ (sa sr tt : Addr) (R : List Nat), x = .ref tt ∧ delH Ha h0 tt = some (.tup [.ref sa, .str (D R).shown]) ∧ SqL K H sa [.ref sr] ∧ SqL K H sr (vNs R) ∧ Row8 R := by
        match i, hi with
        | 0, hi => exact ⟨oa, le, t1, R2, (Option.some.inj hi).symm, t1B, hoa, hle, h2⟩
        | 1, hi => exact ⟨la, ro, t2, R1, (Option.some.inj hi).symm, t2B, hla, hro, h1⟩
        | n + 2, hi => simp at hi
      obtain ⟨g, ds, l⟩ := hD.good h8
      obtain ⟨s2, q2⟩ := sh_lists (R := R)
      have nR : R.length ≤ 100 := by rw [h8.len]; decide
      refine ⟨tt, [.ref sa, .str (D R).shown], rfl, st_of (e' tt _ htt), rfl, .ref sa, [.str (D R).shown], rfl, .str (D R).shown, [], rfl, rfl, ?_⟩
      refine ⟨.ref ha, rfl, .ref sa, rfl, delH Ha h0, ha, h0, sa, sr, cur, R, rfl, e', del_at, hhaB, hc, ex_l eB hsa, ex_l eB hsr, nR, fun Hb eb hb => ?_⟩
      have e0b := eB.trans eb
      refine s_when (b := false) (evT_to (et_or (et_test (ev_op (ev_strD (K := K) (ed_ask (T := T) rfl (hD.ex e0b) (ev_var rfl) (sq_of (eb ha _ hhaB)) (sq_of hb) h8) (.inl ⟨ds, l⟩) g) (ev_var rfl) (rv_ne rfl))) fun _ =>
        et_test (ev_neD (K := K) (ed_var rfl (dp_lists (sq_of (eb ha _ hhaB)) (sq_of hb))) (ed_var rfl (dp_lists (ex_l e0b hsa) (ex_l e0b hsr))) s2 s2)) (by rw [str_same, q2]; rfl)) (fun z => nomatch z) fun _ Hc ec => ⟨_, _, R, rfl, eb.trans ec, ec h0 _ hb⟩
    · rintro σ' H' ⟨y8, y9, cur, rfl, e', hc⟩
      exact s_ret ev_c fun Hb eb => k Hb ((eB.trans e').trans eb)
theorem sv_door {T : Tx K mg} {H : Hp} {f la ro oa le : Addr} {R1 R2 : List Nat} {D : List Nat → PyData} (hD : Door T H f D) (h1 : SqL K H la [.ref ro]) (h2 : SqL K H ro (vNs R1)) (h3 : SqL K H oa [.ref le]) (h4 : SqL K H le (vNs R2)) (h5 : Row8 R1) (h6 : Row8 R2) : SpV (sp_door T) ([.ref f, .ref la, .ref oa] ++ []) H (.bl true) :=
  fun H1 e Q q E => ⟨f, la, ro, oa, le, R1, R2, D, rfl, hD.ex e, ex_l e h1, ex_l e h2, ex_l e h3, ex_l e h4, h5, h6, q⟩
def sp_doors (T : Tx K mg) : Sp := fun vs H Q _ => ∃ (p la ro oa le : Addr) (asks : List V) (R1 R2 : List Nat), vs = [.ref p, .ref la, .ref oa] ∧ SqL K H p asks ∧ asks.length ≤ 100 ∧ (∀ x ∈ asks, ∃ (f : Addr) (D : List Nat → PyData), x = .ref f ∧ Door T H f D) ∧ SqL K H la [.ref ro] ∧ SqL K H ro (vNs R1) ∧ SqL K H oa [.ref le] ∧ SqL K H le (vNs R2) ∧ Row8 R1 ∧ Row8 R2 ∧ RetV (.bl true) H Q
theorem ok__law_doors_right (T : Tx K mg) : FnG P w K mg base CX0 8 T.f__law_doors_right T.d__law_doors_right ["_law_asks", "_law_lists", "_law_others"] (sp_doors T) := by
  refine Fun.okG T.F__law_doors_right sc__law_doors_right (fun vs H Q E h => ?_) (fun cdv A outer s H vs Q E hgd hr h => ?_)
  · obtain ⟨p, la, ro, oa, le, asks, R1, R2, rfl, _⟩ := h
    rfl
  · obtain ⟨p, la, ro, oa, le, asks, R1, R2, rfl, hp, hn, hA, hla, hro, hoa, hle, h1, h2, k⟩ := h
    refine ⟨_, (pss_one (ps_ret (pe_callB (r := rAll K) (cr_all rfl) (by rfl) T.z_all (by decide +kernel) (pa_cons (pe_lc (own := [("_law_ask", 3)]) (by rfl) sc__law_doors_right.nd (pi_list (pv 0)) (blkOk_by (own := [("_law_ask", 3)]) (N := ["_law_asks", "_law_lists", "_law_others", "_law_ask"]) (sc := defScope s__law_doors_right) (by decide +kernel)) (fun _ _ _ _ _ => (pg_name (i := 3) sc__law_doors_right.nd rfl (by first | exact Or.inl rfl | exact Or.inr rfl))) (fun _ _ _ _ _ => pts_nil) (fun _ _ _ _ _ => (pe_callG (ok__law_door_right T) (by exact hgd) hr (by rfl) T.m__law_door_right T.F__law_door_right.kp T.b__law_door_right (pa_cons (pv 3) (pa_cons (pv 1) (pa_cons (pv 2) pa_nil)))))) pa_nil)))), ?_⟩
    refine s_ret (v := .bl true) (ev_to (ev_allN (K := K) (bs := asks.map fun _ => true) (el_to (el_mapL (K := K) (fun _ => V.bl true) (ev_var rfl) hp (by omega) fun x hx H1 e1 => ?_) (by rw [List.map_map]; rfl))) ?_) fun H1 e1 => k H1 e1
    · obtain ⟨f, D, rfl, hD⟩ := hA x hx
      exact ev_call (ea_cons (ev_var rfl) (ea_cons (ev_var rfl) (ea_cons (ev_var rfl) ea_nil))) (sv_door (hD.ex e1) (ex_l e1 hla) (ex_l e1 hro) (ex_l e1 hoa) (ex_l e1 hle) h1 h2)
    · rw [List.all_map]
      simp
end

/-! ### the law: all of it -/
section
variable {P : Program} {w : World} {K : PySem.W.Frag} {mg : Str → Option Value} {base : Heap}
def kd (cells : List (Str × Addr)) (i : Nat) : LamK := (lamF (lamQ i) (lamA (lamX i)) (lamS (lamX i)) cells, lamB (lamX i))
def rowA : List Nat := [2, 1, 3, 1, 2, 1, 4, 2]
def rowB : List Nat := [2, 3, 3, 1, 1, 1, 4, 2]
theorem ok8A : Row8 rowA := ⟨⟨by decide, by decide, by decide, by decide⟩, rfl⟩
theorem ok8B : Row8 rowB := ⟨⟨by decide, by decide, by decide, by decide⟩, rfl⟩
theorem mem_sum : ∀ {l : List Nat} {n : Nat}, n ∈ l → n ≤ l.sum
  | [], _, h => nomatch h
  | m :: r, n, h => by
    rw [List.sum_cons]
    rcases List.mem_cons.mp h with rfl | h
    · omega
    · have := mem_sum h
      omega
theorem good_meet : Good (pdN (meetL 3 6 2)) := good_N (fun n hn => by
    have h1 := mem_sum hn
    have h2 := meetL_sum_le (c := 3) (m := 6) (far := 2) (by decide)
    have h3 : (3 : Nat) ^ 6 < 10 ^ 6 := by decide
    omega) (by
    have : (meetL 3 6 2).length = 6 := by
      unfold meetL
      rw [List.length_map, List.length_range]
    omega)
section
variable {T : Tx K mg} {σ : L2.St} {H : Hp} {Q : VK} {E : XK} {ta : TA}
theorem x_num {c : Int} {k m : Nat} (h : EvA ta σ H [.int c, vN k, vN m]) (hm : 0 < m) (hk : k ≤ 1000) (hc : Builtin.Int.intBits c ≤ 1048577) (q : ∀ n, n < m → ∀ H1, Ex H H1 → Q (vN n) H1) : tCall sp_number8 [] E ta σ H Q :=
  h H (Ex.refl H) _ fun H1 e1 => ⟨c, k, m, rfl, hm, hk, hc, fun n hn H2 e2 => q n hn H2 (e1.trans e2)⟩
theorem hm_L : (T.tp_law, q_law) ∈ tabsT T := List.mem_singleton.mpr rfl
theorem hu_L : ∀ p ∈ tabsT T, p.1 = T.tp_law → p.2 = q_law := fun p hp e => by rw [List.mem_singleton.mp hp]
/-- a lambda of the law is a door -/
theorem door_of {cells : List (Str × Addr)} {one other : Nat} {f0 : Addr} {an : Ans} {v : V} {i : Nat} (hi : i < 6) (hw : LamW (kd cells i) H v) (hh : HeldC cells frL N_law σ H) (sl : Slots8 T H σ one other f0 an) : ∃ (f : Addr) (D : List Nat → PyData), v = .ref f ∧ Door T H f D := by
  obtain ⟨f, c, rfl, hf, hc⟩ := hw
  have hN : ∀ i, i < 6 → lamN i = N_law := by decide
  exact ⟨f, fun R => told an i R one other, rfl, i, cells, σ, c, one, other, f0, an, hi, hf, hc, by rw [hN i hi]; exact hh, sl, fun R => rfl⟩
end
def sp_law (T : Tx K mg) : Sp := fun vs H Q _ => ∃ (a : Addr) (ns : List Int), vs = [.ref a] ∧ SqL K H a (ns.map V.int) ∧ ns.length ≤ 63 ∧ (∀ z ∈ ns, Builtin.Int.intBits z ≤ 1048576) ∧ Tabs (tabsT T) H ∧ ∀ H', Q (.bl true) H'
theorem ok_law (T : Tx K mg) (tb_law : TabB base mg T.tc_law T.tp_law) : FnG P w K mg base CX0 9 T.f_law T.d_law ["_law_script"] (sp_law T) := by
  have hm_law := hm_L (T := T)
  have hu_law := hu_L (T := T)
  refine Fun.okT T.F_law T.hc_law sc_law (fun vs H Q E h => ?_) (fun A outer s H vs Q E hgd hr h => ?_)
  · obtain ⟨a, ns, rfl, _⟩ := h
    rfl
  · obtain ⟨a, ns, rfl, hS, hlen, hB, hT, q⟩ := h
    refine ⟨_, (pss_cons (ps_par (i := 1) (j := 2) (by rfl) sc_law.nd rfl rfl (by decide) rfl rfl (pa_cons (pe_lst (pa_cons pe_int (pa_cons pe_int (pa_cons pe_int (pa_cons pe_int (pa_cons pe_int (pa_cons pe_int (pa_cons pe_int (pa_cons pe_int pa_nil))))))))) (pa_cons (pe_lst (pa_cons pe_int (pa_cons pe_int (pa_cons pe_int (pa_cons pe_int (pa_cons pe_int (pa_cons pe_int (pa_cons pe_int (pa_cons pe_int pa_nil))))))))) pa_nil)) (by rfl))
      (pss_cons (ps_for PassesOwn.never rfl (pi_range1 (by rfl) T.z_range (pa_cons pe_int pa_nil)) (pg_name (i := 3) sc_law.nd rfl (by first | exact Or.inl rfl | exact Or.inr rfl))
      (pss_cons (ps_set (i := 4) sc_law.nd rfl (by first | exact Or.inl rfl | exact Or.inr rfl) (pe_call (ok__law_cell_at T) (hr.mono (by decide)) (by rfl) T.m__law_cell_at T.F__law_cell_at.kp T.b__law_cell_at .nil pass0 (pa_cons (pv 0) (pa_cons (pv 3) pa_nil))))
      (pss_cons (ps_asg (pe_tup (pa_cons (pe_call (ok__law_number T) (hr.mono (by decide)) (by rfl) T.m__law_number T.F__law_number.kp T.b__law_number .nil pass0 (pa_cons (pv 4) (pa_cons (pe_op op_add (pv 3) pe_int) (pa_cons pe_int pa_nil)))) (pa_cons (pe_call (ok__law_number T) (hr.mono (by decide)) (by rfl) T.m__law_number T.F__law_number.kp T.b__law_number .nil pass0 (pa_cons (pv 4) (pa_cons (pe_op op_add (pv 3) pe_int) (pa_cons pe_int pa_nil)))) pa_nil))) (pg_tup (by rfl) (pgs_cons (pg_name (i := 5) sc_law.nd rfl (by first | exact Or.inl rfl | exact Or.inr rfl)) (pgs_cons (pg_name (i := 6) sc_law.nd rfl (by first | exact Or.inl rfl | exact Or.inr rfl)) pgs_nil))))
      (pss_cons (ps_set (i := 7) sc_law.nd rfl (by first | exact Or.inl rfl | exact Or.inr rfl) (pe_call (ok_compared T) (hr.mono (by decide)) (by rfl) T.m_compared T.F_compared.kp T.b_compared .nil pass0 (pa_cons (pv 1) (pa_cons (pv 5) (pa_cons (pv 6) pa_nil)))))
      (pss_cons (ps_set (i := 8) sc_law.nd rfl (by first | exact Or.inl rfl | exact Or.inr rfl) (pe_lst (pa_cons (show PE _ _ (tLamN (tabsT T) (lamF _ (lamA lx_0) (lamS lx_0) _) (lamB lx_0)) from pe_lam tb_law rfl hm_law hu_law rfl (ndef_free (sc := defScope s_law) (nsc := lamS lx_0) (fr := []) (by decide +kernel))) (pa_cons (show PE _ _ (tLamN (tabsT T) (lamF _ (lamA lx_1) (lamS lx_1) _) (lamB lx_1)) from pe_lam tb_law rfl hm_law hu_law rfl (ndef_free (sc := defScope s_law) (nsc := lamS lx_1) (fr := []) (by decide +kernel))) pa_nil))))
      (pss_cons (ps_set (i := 8) sc_law.nd rfl (by first | exact Or.inl rfl | exact Or.inr rfl) (pe_op op_cat (pv 8) (pe_lst (pa_cons (show PE _ _ (tLamN (tabsT T) (lamF _ (lamA lx_2) (lamS lx_2) _) (lamB lx_2)) from pe_lam tb_law rfl hm_law hu_law rfl (ndef_free (sc := defScope s_law) (nsc := lamS lx_2) (fr := []) (by decide +kernel))) (pa_cons (show PE _ _ (tLamN (tabsT T) (lamF _ (lamA lx_3) (lamS lx_3) _) (lamB lx_3)) from pe_lam tb_law rfl hm_law hu_law rfl (ndef_free (sc := defScope s_law) (nsc := lamS lx_3) (fr := []) (by decide +kernel))) pa_nil)))))
      (pss_cons (ps_set (i := 8) sc_law.nd rfl (by first | exact Or.inl rfl | exact Or.inr rfl) (pe_op op_cat (pv 8) (pe_lst (pa_cons (show PE _ _ (tLamN (tabsT T) (lamF _ (lamA lx_4) (lamS lx_4) _) (lamB lx_4)) from pe_lam tb_law rfl hm_law hu_law rfl (ndef_free (sc := defScope s_law) (nsc := lamS lx_4) (fr := []) (by decide +kernel))) pa_nil))))
      (pss_cons (ps_set (i := 8) sc_law.nd rfl (by first | exact Or.inl rfl | exact Or.inr rfl) (pe_op op_cat (pv 8) (pe_lst (pa_cons (show PE _ _ (tLamN (tabsT T) (lamF _ (lamA lx_5) (lamS lx_5) _) (lamB lx_5)) from pe_lam tb_law rfl hm_law hu_law rfl (ndef_free (sc := defScope s_law) (nsc := lamS lx_5) (fr := []) (by decide +kernel))) pa_nil))))
      (pss_one (ps_if (pt_not (pt_val (pe_callC (fr := frL) (ok__law_doors_right T) (by exact hgd) hr (by rfl) T.m__law_doors_right T.F__law_doors_right.kp T.b__law_doors_right (fun _ => rfl) (kinds_of (sc := defScope s_law) (by decide +kernel)) (pa_cons (pv 8) (pa_cons (pe_lst (pa_cons (pv 1) pa_nil)) (pa_cons (pe_lst (pa_cons (pv 2) pa_nil)) pa_nil)))))) (pss_one (ps_ret pe_bl)) pss_nil))))))))))
      (pss_cons (ps_set (i := 9) sc_law.nd rfl (by first | exact Or.inl rfl | exact Or.inr rfl) (pe_call (ok_meetings T) (hr.mono (by decide)) (by rfl) T.m_meetings T.F_meetings.kp T.b_meetings .nil pass0 (pa_cons pe_int (pa_cons pe_int (pa_cons pe_int pa_nil)))))
      (pss_cons (ps_set (i := 10) sc_law.nd rfl (by first | exact Or.inl rfl | exact Or.inr rfl) (pe_callTy (r := rStrD K) (call_strD (by exact hgd) hr.units) (by rfl) T.z_str (by decide +kernel) (pa_cons (pv 9) pa_nil)))
      (pss_cons (ps_expr (pe_call (ok__law_spoilt T) (hr.mono (by decide)) (by rfl) T.m__law_spoilt T.F__law_spoilt.kp T.b__law_spoilt .nil pass0 (pa_cons (pv 9) pa_nil)))
      (pss_one (ps_ret (pe_cmpR op_eq (pe_callTy (r := rStrD K) (call_strD (by exact hgd) hr.units) (by rfl) T.z_str (by decide +kernel) (pa_cons (pe_call (ok_meetings T) (hr.mono (by decide)) (by rfl) T.m_meetings T.F_meetings.kp T.b_meetings .nil pass0 (pa_cons pe_int (pa_cons pe_int (pa_cons pe_int pa_nil)))) pa_nil)) (pv 10) (nomark _))))))))), ?_⟩
    have l8 : ∀ {x0 x1 x2 x3 x4 x5 x6 x7 : V} {σ : L2.St} {H : Hp}, EvL (tLst (tCons (tC x0) (tCons (tC x1) (tCons (tC x2) (tCons (tC x3) (tCons (tC x4) (tCons (tC x5) (tCons (tC x6) (tCons (tC x7) tNil))))))))) σ H [x0, x1, x2, x3, x4, x5, x6, x7] := el_lst (ea_cons ev_c (ea_cons ev_c (ea_cons ev_c (ea_cons ev_c (ea_cons ev_c (ea_cons ev_c (ea_cons ev_c (ea_cons ev_c ea_nil)))))))) (show 8 ≤ 100000 by decide)
    refine q_parLL (xs := vNs rowA) (ys := vNs rowB) l8 l8 fun ro le H1 nro nle nrl e1 hro hle => ?_
    refine q_forR1 (n := 2) (ea_cons ev_c ea_nil) ⟨by decide, by decide⟩ (fun i σ' H' => ∃ y3 y4 y5 y6 y7 y8, σ' = [some (.ref a), some (.ref ro), some (.ref le), y3, y4, y5, y6, y7, y8, none, none] ∧ ExtM H1 H' ∧ Tabs (tabsT T) H') (fun H2 e2 => ⟨none, none, none, none, none, none, rfl, ExtM.of e2, hT.ext (e1.trans e2)⟩) ?_ ?_
    · rintro i σ' H2 hi ⟨y3, y4, y5, y6, y7, y8, rfl, e2, T2⟩
      have hS2 : SqL K H2 a (ns.map V.int) := exw_l ((ExW.of e1).trans (ExW.ofN e2.1)) hS
      have ro2 := e2.1 ro _ hro lst_tbl
      have le2 := e2.1 le _ hle lst_tbl
      refine q_asg (v := .int (cellAt ns i)) (ev_call (ea_cons (ev_var rfl) (ea_cons (ev_var rfl) ea_nil)) (sv_cell_at (k := i) hS2)) fun H3 e3 => ?_
      have hcb : Builtin.Int.intBits (cellAt ns i) ≤ 1048577 := Nat.le_succ_of_le (cell_bits hB i)
      have plus : ∀ {c : Nat} {σ : L2.St} {H : Hp}, σ[3]? = some (some (.int (i : Int))) → Ev (tOp (rI0 fun i j => .int (i + j)) (tVar 3) (tC (vN c))) σ H (vN (i + c)) := fun {c σ H} h => ev_to (ev_op (ev_var h) ev_c rv_I0) (by
        show V.int _ = V.int _
        rw [Int.natCast_add])
      refine x_num (k := i + 1) (m := 4) (ea_cons (ev_var rfl) (ea_cons (plus rfl) (ea_cons ev_c ea_nil))) (by decide) (by omega) hcb fun one hone H4 e4 => x_num (k := i + 2) (m := 4) (ea_cons (ev_var rfl) (ea_cons (plus rfl) (ea_cons ev_c ea_nil))) (by decide) (by omega) hcb fun other hother H5 e5 => ⟨sz_of (show 2 ≤ 100000 by decide), fun tu ntu => ?_⟩
      refine ⟨tu, [vN one, vN other], rfl, st_of upd_same, rfl, vN one, [vN other], rfl, vN other, [], rfl, rfl, ?_⟩
      have e26 : Ex H2 (upd H5 tu (.tup [vN one, vN other])) := ((e3.trans e4).trans e5).trans (Ex.new ntu)
      generalize upd H5 tu (.tup [vN one, vN other]) = H6 at *
      have h1 : one < rowA.length := by show one < 8; omega
      have h2 : other < rowA.length := by show other < 8; omega
      refine q_asgO (eo_call (ea_cons (ev_var rfl) (ea_cons (ev_var rfl) (ea_cons (ev_var rfl) ea_nil))) (so_compared (T := T) (K := K) (sq_of (e26 ro _ ro2)) ok8A.ok h1 h2)) fun f0 dx H7 nf0 e7 hf0 => ?_
      have hans : AnsAt T H7 f0 (cmpA rowA one other) := ⟨dx, hf0⟩
      generalize cmpA rowA one other = an at *
      have e27 := e26.trans e7
      have T7 : Tabs (tabsT T) H7 := T2.ext e27
      refine q_asgLn T7 (lm_cons (lm_cons lm_nil)) (show 2 ≤ 1000 by decide) fun p1 vs1 H8 np1 e8 T8 hp1 hl1 => ?_
      refine q_asgLm T8 (ll_cat (ll_var rfl hp1 hl1) (ll_lst (lm_cons (lm_cons lm_nil)) (show 2 ≤ 1000 by decide)) (show 4 ≤ 1000 by decide)) fun p2 vs2 H9 e9 T9 hp2 hl2 => ?_
      refine q_asgLm T9 (ll_cat (ll_var rfl hp2 hl2) (ll_lst (lm_cons lm_nil) (show 1 ≤ 1000 by decide)) (show 5 ≤ 1000 by decide)) fun p3 vs3 H10 e10 T10 hp3 hl3 => ?_
      refine q_asgLm T10 (ll_cat (ll_var rfl hp3 hl3) (ll_lst (lm_cons lm_nil) (show 1 ≤ 1000 by decide)) (show 6 ≤ 1000 by decide)) fun p4 vs4 H11 e11 T11 hp4 hl4 => ?_
      have e711 := ((e8.trans e9).trans e10).trans e11
      have e211 := (ExtM.of e27).trans e711
      have ro11 := e211.1 ro _ ro2 lst_tbl
      have le11 := e211.1 le _ le2 lst_tbl
      have an11 := hans.exw (ExW.ofN e711.1)
      refine ⟨.ref p4, rfl, ?_⟩
      refine (show EvL (tLst (tCons (tVar 1) tNil)) _ H11 [.ref ro] from el_lst (ea_cons (ev_var rfl) ea_nil) (show 1 ≤ 100000 by decide)) H11 (Ex.refl H11) _ fun la H12 nla e12 hla => ?_
      refine (show EvL (tLst (tCons (tVar 2) tNil)) _ H12 [.ref le] from el_lst (ea_cons (ev_var rfl) ea_nil) (show 1 ≤ 100000 by decide)) H12 (Ex.refl H12) _ fun oa H13 noa e13 hoa => ?_
      intro cs un hh
      have el := ex_lend un
      have e1e := (e12.trans e13).trans el
      refine ⟨p4, la, ro, oa, le, vs4, rowA, rowB, rfl, sq_of (e1e p4 _ hp4), by rw [hl4.1]; show 6 ≤ 100; decide, fun x hx => ?_, sq_of (el la _ (e13 la _ hla)), sq_of (e1e ro _ ro11), sq_of (el oa _ hoa), sq_of (e1e le _ le11), ok8A, ok8B, fun H14 e14 => ?_⟩
      · obtain ⟨kk, hk, hw⟩ := hl4.2 x hx
        have hk2 : kk ∈ [0, 1, 2, 3, 4, 5].map (kd _) := hk
        obtain ⟨j, hj, rfl⟩ := List.mem_map.mp hk2
        exact door_of (by simp only [List.mem_cons, List.not_mem_nil, or_false] at hj; omega) (hw.exw (ExW.of e1e)) hh ⟨rfl, rfl, rfl, an11.ex e1e, hone, hother⟩
      · refine ⟨true, rfl, _, _, _, _, _, _, rfl, (e2.trans e211).trans (ExtM.of ((e12.trans e13).trans (ex_took un e14))), T11.ext ((e12.trans e13).trans (ex_took un e14))⟩
    · rintro σ' H2 ⟨y3, y4, y5, y6, y7, y8, rfl, e2, T2⟩
      have ok : ShOk 3 6 2 := ⟨by decide, by decide, by decide, by decide, by decide⟩
      have gm := good_meet
      have sm : ∀ {σ : L2.St} {H : Hp} {E : XK}, EvL (tCall sp_meetings [] E (tCons (tC (.int 3)) (tCons (tC (.int 6)) (tCons (tC (.int 2)) tNil)))) σ H (vNs (meetL 3 6 2)) := el_call (ea_cons ev_c (ea_cons ev_c (ea_cons ev_c ea_nil))) (sl_meetings ok)
      have hl6 : (meetL 3 6 2).length ≤ 1000 := by
        unfold meetL
        rw [List.length_map, List.length_range]
        decide
      generalize meetL 3 6 2 = ml at *
      refine q_asgL (xs := vNs ml) sm fun fo H3 nfo e3 hfo => ?_
      refine q_asg (v := .str (pdN ml).shown) (ev_strD (K := K) (ed_var rfl (dp_N (sq_of hfo))) (.inl ⟨_, rfl⟩) gm) fun H4 e4 => ?_
      refine ⟨.ref fo, rfl, fo, vNs ml, rfl, e4 fo _ hfo, by rw [vNs_len]; exact hl6, fun y hy => ?_, fun H5 zs e5 => ?_⟩
      · obtain ⟨n, _, rfl⟩ := List.mem_map.mp hy
        exact .inl (.inl ⟨_, rfl⟩)
      · exact s_ret (v := .bl true) (ev_to (ev_op (ev_strD (K := K) (en_Ns (sm (E := E0))).toD (.inl ⟨_, rfl⟩) gm) (ev_var rfl) (rv_eq rfl)) (by rw [decide_eq_true rfl])) fun H6 _ => q H6
end

theorem all_mk {l : PySem.W.OpenLaw} {q : Program} {w : World} {K : PySem.W.Frag} {h : Heap} {mg : Str → Option Value} {fa : Addr} (X : K.In h) (G : h.Ns mainGlobals mg) (hfa : mg "law" = some (.ref fa)) (TA : TabAt K q h)
    {A_Answer : Addr} (g_Answer : PySem.W.nsIn K mainGlobals "Answer" = some (some (.ref A_Answer)))
    {A_Meet : Addr} (g_Meet : PySem.W.nsIn K mainGlobals "Meet" = some (some (.ref A_Meet)))
    {A_Apart : Addr} (g_Apart : PySem.W.nsIn K mainGlobals "Apart" = some (some (.ref A_Apart)))
    (pg_Meet : PySem.W.plainGet K A_Meet Str.empty = true)
    (hd_Meet : PySem.W.hasDictIn K A_Meet = true)
    (po_Meet : PySem.W.plainOver K A_Meet = true)
    (sa_Meet : PySem.W.findIn K (.ref A_Meet) "__setattr__" = some (some (.builtin "object.__setattr__")))
    (mk_Meet : PySem.W.makesIn K A_Meet = true)
    (kp_Meet : PySem.W.keepIn K (.ref A_Meet) = true)
    (ca_Meet : PySem.W.findIn K (.ref A_Meet) "__class__" = some (some (.builtin "object.__class__")))
    (mo_Meet : PySem.W.mroIn K A_Meet (.type "object") = some true)
    (na_Meet_place : PySem.W.findIn K (.ref A_Meet) "place" = some none)
    (pg_Apart : PySem.W.plainGet K A_Apart Str.empty = true)
    (hd_Apart : PySem.W.hasDictIn K A_Apart = true)
    (po_Apart : PySem.W.plainOver K A_Apart = true)
    (sa_Apart : PySem.W.findIn K (.ref A_Apart) "__setattr__" = some (some (.builtin "object.__setattr__")))
    (mk_Apart : PySem.W.makesIn K A_Apart = true)
    (kp_Apart : PySem.W.keepIn K (.ref A_Apart) = true)
    (ca_Apart : PySem.W.findIn K (.ref A_Apart) "__class__" = some (some (.builtin "object.__class__")))
    (mo_Apart : PySem.W.mroIn K A_Apart (.type "object") = some true)
    (na_Apart_mine : PySem.W.findIn K (.ref A_Apart) "mine" = some none)
    (na_Apart_theirs : PySem.W.findIn K (.ref A_Apart) "theirs" = some none)
    (cg : PySem.W.specialIn K (.builtin "object.__class__") "__get__" = some (some (.builtin "getset_descriptor.__get__"))) (ct : PySem.W.takesIn K (.builtin "object.__class__") = some true)
    {f_is_whole : Addr} {od0 an0 : Option Addr} {sl0 : Array (Option Value)} {oc0 kV0 dc0 pm0 ct0 : Value} {cd0 : Value}
    (a0 : PySem.W.nsIn K mainGlobals "is_whole" = some (some (.ref f_is_whole)))
    (l0 : K.lookup f_is_whole = some ⟨oc0, od0, .func (PySem.W.fnOf "is_whole" "is_whole" (defArgs s_is_whole) (defBody s_is_whole) (defScope s_is_whole) .none kV0 dc0 pm0 an0 cd0 ct0), sl0⟩)
    (c0 : PySem.W.codeIn K cd0 "is_whole" = true) (k0 : PySem.W.keepIn K (.ref f_is_whole) = true)
    {f_check_row : Addr} {od1 an1 : Option Addr} {sl1 : Array (Option Value)} {oc1 kV1 dc1 pm1 ct1 : Value} {cd1 : Value}
    (a1 : PySem.W.nsIn K mainGlobals "check_row" = some (some (.ref f_check_row)))
    (l1 : K.lookup f_check_row = some ⟨oc1, od1, .func (PySem.W.fnOf "check_row" "check_row" (defArgs s_check_row) (defBody s_check_row) (defScope s_check_row) .none kV1 dc1 pm1 an1 cd1 ct1), sl1⟩)
    (c1 : PySem.W.codeIn K cd1 "check_row" = true) (k1 : PySem.W.keepIn K (.ref f_check_row) = true)
    {f_check_place : Addr} {od2 an2 : Option Addr} {sl2 : Array (Option Value)} {oc2 kV2 dc2 pm2 ct2 : Value} {cd2 : Value}
    (a2 : PySem.W.nsIn K mainGlobals "check_place" = some (some (.ref f_check_place)))
    (l2 : K.lookup f_check_place = some ⟨oc2, od2, .func (PySem.W.fnOf "check_place" "check_place" (defArgs s_check_place) (defBody s_check_place) (defScope s_check_place) .none kV2 dc2 pm2 an2 cd2 ct2), sl2⟩)
    (c2 : PySem.W.codeIn K cd2 "check_place" = true) (k2 : PySem.W.keepIn K (.ref f_check_place) = true)
    {f_check_count : Addr} {od3 an3 : Option Addr} {sl3 : Array (Option Value)} {oc3 kV3 dc3 pm3 ct3 : Value} {cd3 : Value}
    (a3 : PySem.W.nsIn K mainGlobals "check_count" = some (some (.ref f_check_count)))
    (l3 : K.lookup f_check_count = some ⟨oc3, od3, .func (PySem.W.fnOf "check_count" "check_count" (defArgs s_check_count) (defBody s_check_count) (defScope s_check_count) .none kV3 dc3 pm3 an3 cd3 ct3), sl3⟩)
    (c3 : PySem.W.codeIn K cd3 "check_count" = true) (k3 : PySem.W.keepIn K (.ref f_check_count) = true)
    {f_way_from : Addr} {od4 an4 : Option Addr} {sl4 : Array (Option Value)} {oc4 kV4 dc4 pm4 ct4 : Value} {cd4 : Value}
    (a4 : PySem.W.nsIn K mainGlobals "way_from" = some (some (.ref f_way_from)))
    (l4 : K.lookup f_way_from = some ⟨oc4, od4, .func (PySem.W.fnOf "way_from" "way_from" (defArgs s_way_from) (defBody s_way_from) (defScope s_way_from) .none kV4 dc4 pm4 an4 cd4 ct4), sl4⟩)
    (c4 : PySem.W.codeIn K cd4 "way_from" = true) (k4 : PySem.W.keepIn K (.ref f_way_from) = true)
    {f_way : Addr} {od5 an5 : Option Addr} {sl5 : Array (Option Value)} {oc5 kV5 dc5 pm5 ct5 : Value} {cd5 : Value}
    (a5 : PySem.W.nsIn K mainGlobals "way" = some (some (.ref f_way)))
    (l5 : K.lookup f_way = some ⟨oc5, od5, .func (PySem.W.fnOf "way" "way" (defArgs s_way) (defBody s_way) (defScope s_way) .none kV5 dc5 pm5 an5 cd5 ct5), sl5⟩)
    (c5 : PySem.W.codeIn K cd5 "way" = true) (k5 : PySem.W.keepIn K (.ref f_way) = true)
    {f_last : Addr} {od6 an6 : Option Addr} {sl6 : Array (Option Value)} {oc6 kV6 dc6 pm6 ct6 : Value} {cd6 : Value}
    (a6 : PySem.W.nsIn K mainGlobals "last" = some (some (.ref f_last)))
    (l6 : K.lookup f_last = some ⟨oc6, od6, .func (PySem.W.fnOf "last" "last" (defArgs s_last) (defBody s_last) (defScope s_last) .none kV6 dc6 pm6 an6 cd6 ct6), sl6⟩)
    (c6 : PySem.W.codeIn K cd6 "last" = true) (k6 : PySem.W.keepIn K (.ref f_last) = true)
    {f_endings : Addr} {od7 an7 : Option Addr} {sl7 : Array (Option Value)} {oc7 kV7 dc7 pm7 ct7 : Value} {cd7 : Value}
    (a7 : PySem.W.nsIn K mainGlobals "endings" = some (some (.ref f_endings)))
    (l7 : K.lookup f_endings = some ⟨oc7, od7, .func (PySem.W.fnOf "endings" "endings" (defArgs s_endings) (defBody s_endings) (defScope s_endings) .none kV7 dc7 pm7 an7 cd7 ct7), sl7⟩)
    (c7 : PySem.W.codeIn K cd7 "endings" = true) (k7 : PySem.W.keepIn K (.ref f_endings) = true)
    {f_first_common : Addr} {od8 an8 : Option Addr} {sl8 : Array (Option Value)} {oc8 kV8 dc8 pm8 ct8 : Value} {cd8 : Value}
    (a8 : PySem.W.nsIn K mainGlobals "first_common" = some (some (.ref f_first_common)))
    (l8 : K.lookup f_first_common = some ⟨oc8, od8, .func (PySem.W.fnOf "first_common" "first_common" (defArgs s_first_common) (defBody s_first_common) (defScope s_first_common) .none kV8 dc8 pm8 an8 cd8 ct8), sl8⟩)
    (c8 : PySem.W.codeIn K cd8 "first_common" = true) (k8 : PySem.W.keepIn K (.ref f_first_common) = true)
    {f_compared : Addr} {od9 an9 : Option Addr} {sl9 : Array (Option Value)} {oc9 kV9 dc9 pm9 ct9 : Value} {cd9 : Value}
    (a9 : PySem.W.nsIn K mainGlobals "compared" = some (some (.ref f_compared)))
    (l9 : K.lookup f_compared = some ⟨oc9, od9, .func (PySem.W.fnOf "compared" "compared" (defArgs s_compared) (defBody s_compared) (defScope s_compared) .none kV9 dc9 pm9 an9 cd9 ct9), sl9⟩)
    (c9 : PySem.W.codeIn K cd9 "compared" = true) (k9 : PySem.W.keepIn K (.ref f_compared) = true)
    {f_run_by : Addr} {od10 an10 : Option Addr} {sl10 : Array (Option Value)} {oc10 kV10 dc10 pm10 ct10 : Value} {cd10 : Value}
    (a10 : PySem.W.nsIn K mainGlobals "run_by" = some (some (.ref f_run_by)))
    (l10 : K.lookup f_run_by = some ⟨oc10, od10, .func (PySem.W.fnOf "run_by" "run_by" (defArgs s_run_by) (defBody s_run_by) (defScope s_run_by) .none kV10 dc10 pm10 an10 cd10 ct10), sl10⟩)
    (c10 : PySem.W.codeIn K cd10 "run_by" = true) (k10 : PySem.W.keepIn K (.ref f_run_by) = true)
    {f_check_far : Addr} {od11 an11 : Option Addr} {sl11 : Array (Option Value)} {oc11 kV11 dc11 pm11 ct11 : Value} {cd11 : Value}
    (a11 : PySem.W.nsIn K mainGlobals "check_far" = some (some (.ref f_check_far)))
    (l11 : K.lookup f_check_far = some ⟨oc11, od11, .func (PySem.W.fnOf "check_far" "check_far" (defArgs s_check_far) (defBody s_check_far) (defScope s_check_far) .none kV11 dc11 pm11 an11 cd11 ct11), sl11⟩)
    (c11 : PySem.W.codeIn K cd11 "check_far" = true) (k11 : PySem.W.keepIn K (.ref f_check_far) = true)
    {f_power : Addr} {od12 an12 : Option Addr} {sl12 : Array (Option Value)} {oc12 kV12 dc12 pm12 ct12 : Value} {cd12 : Value}
    (a12 : PySem.W.nsIn K mainGlobals "power" = some (some (.ref f_power)))
    (l12 : K.lookup f_power = some ⟨oc12, od12, .func (PySem.W.fnOf "power" "power" (defArgs s_power) (defBody s_power) (defScope s_power) .none kV12 dc12 pm12 an12 cd12 ct12), sl12⟩)
    (c12 : PySem.W.codeIn K cd12 "power" = true) (k12 : PySem.W.keepIn K (.ref f_power) = true)
    {f_states : Addr} {od13 an13 : Option Addr} {sl13 : Array (Option Value)} {oc13 kV13 dc13 pm13 ct13 : Value} {cd13 : Value}
    (a13 : PySem.W.nsIn K mainGlobals "states" = some (some (.ref f_states)))
    (l13 : K.lookup f_states = some ⟨oc13, od13, .func (PySem.W.fnOf "states" "states" (defArgs s_states) (defBody s_states) (defScope s_states) .none kV13 dc13 pm13 an13 cd13 ct13), sl13⟩)
    (c13 : PySem.W.codeIn K cd13 "states" = true) (k13 : PySem.W.keepIn K (.ref f_states) = true)
    {f_meetings_of : Addr} {od14 an14 : Option Addr} {sl14 : Array (Option Value)} {oc14 kV14 dc14 pm14 ct14 : Value} {cd14 : Value}
    (a14 : PySem.W.nsIn K mainGlobals "meetings_of" = some (some (.ref f_meetings_of)))
    (l14 : K.lookup f_meetings_of = some ⟨oc14, od14, .func (PySem.W.fnOf "meetings_of" "meetings_of" (defArgs s_meetings_of) (defBody s_meetings_of) (defScope s_meetings_of) .none kV14 dc14 pm14 an14 cd14 ct14), sl14⟩)
    (c14 : PySem.W.codeIn K cd14 "meetings_of" = true) (k14 : PySem.W.keepIn K (.ref f_meetings_of) = true)
    {f_check_all : Addr} {od15 an15 : Option Addr} {sl15 : Array (Option Value)} {oc15 kV15 dc15 pm15 ct15 : Value} {cd15 : Value}
    (a15 : PySem.W.nsIn K mainGlobals "check_all" = some (some (.ref f_check_all)))
    (l15 : K.lookup f_check_all = some ⟨oc15, od15, .func (PySem.W.fnOf "check_all" "check_all" (defArgs s_check_all) (defBody s_check_all) (defScope s_check_all) .none kV15 dc15 pm15 an15 cd15 ct15), sl15⟩)
    (c15 : PySem.W.codeIn K cd15 "check_all" = true) (k15 : PySem.W.keepIn K (.ref f_check_all) = true)
    {f_meetings : Addr} {od16 an16 : Option Addr} {sl16 : Array (Option Value)} {oc16 kV16 dc16 pm16 ct16 : Value} {cd16 : Value}
    (a16 : PySem.W.nsIn K mainGlobals "meetings" = some (some (.ref f_meetings)))
    (l16 : K.lookup f_meetings = some ⟨oc16, od16, .func (PySem.W.fnOf "meetings" "meetings" (defArgs s_meetings) (defBody s_meetings) (defScope s_meetings) .none kV16 dc16 pm16 an16 cd16 ct16), sl16⟩)
    (c16 : PySem.W.codeIn K cd16 "meetings" = true) (k16 : PySem.W.keepIn K (.ref f_meetings) = true)
    {f__law_cell_at : Addr} {od17 an17 : Option Addr} {sl17 : Array (Option Value)} {oc17 kV17 dc17 pm17 ct17 : Value} {cd17 : Value}
    (a17 : PySem.W.nsIn K mainGlobals "_law_cell_at" = some (some (.ref f__law_cell_at)))
    (l17 : K.lookup f__law_cell_at = some ⟨oc17, od17, .func (PySem.W.fnOf "_law_cell_at" "_law_cell_at" (defArgs s__law_cell_at) (defBody s__law_cell_at) (defScope s__law_cell_at) .none kV17 dc17 pm17 an17 cd17 ct17), sl17⟩)
    (c17 : PySem.W.codeIn K cd17 "_law_cell_at" = true) (k17 : PySem.W.keepIn K (.ref f__law_cell_at) = true)
    {f__law_draw : Addr} {od18 an18 : Option Addr} {sl18 : Array (Option Value)} {oc18 kV18 dc18 pm18 ct18 : Value} {cd18 : Value}
    (a18 : PySem.W.nsIn K mainGlobals "_law_draw" = some (some (.ref f__law_draw)))
    (l18 : K.lookup f__law_draw = some ⟨oc18, od18, .func (PySem.W.fnOf "_law_draw" "_law_draw" (defArgs s__law_draw) (defBody s__law_draw) (defScope s__law_draw) .none kV18 dc18 pm18 an18 cd18 ct18), sl18⟩)
    (c18 : PySem.W.codeIn K cd18 "_law_draw" = true) (k18 : PySem.W.keepIn K (.ref f__law_draw) = true)
    {f__law_number : Addr} {od19 an19 : Option Addr} {sl19 : Array (Option Value)} {oc19 kV19 dc19 pm19 ct19 : Value} {cd19 : Value}
    (a19 : PySem.W.nsIn K mainGlobals "_law_number" = some (some (.ref f__law_number)))
    (l19 : K.lookup f__law_number = some ⟨oc19, od19, .func (PySem.W.fnOf "_law_number" "_law_number" (defArgs s__law_number) (defBody s__law_number) (defScope s__law_number) .none kV19 dc19 pm19 an19 cd19 ct19), sl19⟩)
    (c19 : PySem.W.codeIn K cd19 "_law_number" = true) (k19 : PySem.W.keepIn K (.ref f__law_number) = true)
    {f__law_deep : Addr} {od20 an20 : Option Addr} {sl20 : Array (Option Value)} {oc20 kV20 dc20 pm20 ct20 : Value} {cd20 : Value}
    (a20 : PySem.W.nsIn K mainGlobals "_law_deep" = some (some (.ref f__law_deep)))
    (l20 : K.lookup f__law_deep = some ⟨oc20, od20, .func (PySem.W.fnOf "_law_deep" "_law_deep" (defArgs s__law_deep) (defBody s__law_deep) (defScope s__law_deep) .none kV20 dc20 pm20 an20 cd20 ct20), sl20⟩)
    (c20 : PySem.W.codeIn K cd20 "_law_deep" = true) (k20 : PySem.W.keepIn K (.ref f__law_deep) = true)
    {f__law_spoilt : Addr} {od21 an21 : Option Addr} {sl21 : Array (Option Value)} {oc21 kV21 dc21 pm21 ct21 : Value} {cd21 : Value}
    (a21 : PySem.W.nsIn K mainGlobals "_law_spoilt" = some (some (.ref f__law_spoilt)))
    (l21 : K.lookup f__law_spoilt = some ⟨oc21, od21, .func (PySem.W.fnOf "_law_spoilt" "_law_spoilt" (defArgs s__law_spoilt) (defBody s__law_spoilt) (defScope s__law_spoilt) .none kV21 dc21 pm21 an21 cd21 ct21), sl21⟩)
    (c21 : PySem.W.codeIn K cd21 "_law_spoilt" = true) (k21 : PySem.W.keepIn K (.ref f__law_spoilt) = true)
    {f__law_put : Addr} {od22 an22 : Option Addr} {sl22 : Array (Option Value)} {oc22 kV22 dc22 pm22 ct22 : Value} {cd22 : Value}
    (a22 : PySem.W.nsIn K mainGlobals "_law_put" = some (some (.ref f__law_put)))
    (l22 : K.lookup f__law_put = some ⟨oc22, od22, .func (PySem.W.fnOf "_law_put" "_law_put" (defArgs s__law_put) (defBody s__law_put) (defScope s__law_put) .none kV22 dc22 pm22 an22 cd22 ct22), sl22⟩)
    (c22 : PySem.W.codeIn K cd22 "_law_put" = true) (k22 : PySem.W.keepIn K (.ref f__law_put) = true)
    {f__law_door_right : Addr} {od23 an23 : Option Addr} {sl23 : Array (Option Value)} {oc23 kV23 dc23 pm23 ct23 : Value} {cd23 : Value}
    (a23 : PySem.W.nsIn K mainGlobals "_law_door_right" = some (some (.ref f__law_door_right)))
    (l23 : K.lookup f__law_door_right = some ⟨oc23, od23, .func (PySem.W.fnOf "_law_door_right" "_law_door_right" (defArgs s__law_door_right) (defBody s__law_door_right) (defScope s__law_door_right) .none kV23 dc23 pm23 an23 cd23 ct23), sl23⟩)
    (c23 : PySem.W.codeIn K cd23 "_law_door_right" = true) (k23 : PySem.W.keepIn K (.ref f__law_door_right) = true)
    {f__law_two : Addr} {od24 an24 : Option Addr} {sl24 : Array (Option Value)} {oc24 kV24 dc24 pm24 ct24 : Value} {cd24 : Value}
    (a24 : PySem.W.nsIn K mainGlobals "_law_two" = some (some (.ref f__law_two)))
    (l24 : K.lookup f__law_two = some ⟨oc24, od24, .func (PySem.W.fnOf "_law_two" "_law_two" (defArgs s__law_two) (defBody s__law_two) (defScope s__law_two) .none kV24 dc24 pm24 an24 cd24 ct24), sl24⟩)
    (c24 : PySem.W.codeIn K cd24 "_law_two" = true) (k24 : PySem.W.keepIn K (.ref f__law_two) = true)
    {f__law_doors_right : Addr} {od25 an25 : Option Addr} {sl25 : Array (Option Value)} {oc25 kV25 dc25 pm25 ct25 : Value} {cd25 : Value}
    (a25 : PySem.W.nsIn K mainGlobals "_law_doors_right" = some (some (.ref f__law_doors_right)))
    (l25 : K.lookup f__law_doors_right = some ⟨oc25, od25, .func (PySem.W.fnOf "_law_doors_right" "_law_doors_right" (defArgs s__law_doors_right) (defBody s__law_doors_right) (defScope s__law_doors_right) .none kV25 dc25 pm25 an25 cd25 ct25), sl25⟩)
    (c25 : PySem.W.codeIn K cd25 "_law_doors_right" = true) (k25 : PySem.W.keepIn K (.ref f__law_doors_right) = true)
    {f__law_compared : Addr} {od26 an26 : Option Addr} {sl26 : Array (Option Value)} {oc26 kV26 dc26 pm26 ct26 : Value} {cd26 : Value}
    (a26 : PySem.W.nsIn K mainGlobals "_law_compared" = some (some (.ref f__law_compared)))
    (l26 : K.lookup f__law_compared = some ⟨oc26, od26, .func (PySem.W.fnOf "_law_compared" "_law_compared" (defArgs s__law_compared) (defBody s__law_compared) (defScope s__law_compared) .none kV26 dc26 pm26 an26 cd26 ct26), sl26⟩)
    (c26 : PySem.W.codeIn K cd26 "_law_compared" = true) (k26 : PySem.W.keepIn K (.ref f__law_compared) = true)
    {f_law : Addr} {od27 an27 : Option Addr} {sl27 : Array (Option Value)} {oc27 kV27 dc27 pm27 ct27 : Value}
    (a27 : PySem.W.nsIn K mainGlobals "law" = some (some (.ref f_law)))
    {tc_law : Addr}
    (l27 : K.lookup f_law = some ⟨oc27, od27, .func (PySem.W.fnOf "law" "law" (defArgs s_law) (defBody s_law) (defScope s_law) .none kV27 dc27 pm27 an27 (.ref tc_law) ct27), sl27⟩)
    (c27 : PySem.W.codeIn K (.ref tc_law) "law" = true) (k27 : PySem.W.keepIn K (.ref f_law) = true)
    {te_law : Value} {td_law : Option Addr} {tv_law : Array Value} {ts_law : Array (Option Value)} (tl_law : K.lookup tc_law = some ⟨te_law, td_law, .fields tv_law, ts_law⟩) {tp_law : Addr} (tq_law : tv_law[11]? = some (.ref tp_law)) (to_law : (K.lookup tp_law).isNone = true) (tr_law : ((recsOf q).any fun e => e.name == ("law" : Str)) = true)
    {f_Meet_init : Addr} {od28 an28 : Option Addr} {sl28 : Array (Option Value)} {oc28 kV28 dc28 pm28 ct28 : Value} {cd28 : Value}
    (a28 : PySem.W.findIn K (.ref A_Meet) "__init__" = some (some (.ref f_Meet_init)))
    (l28 : K.lookup f_Meet_init = some ⟨oc28, od28, .func (PySem.W.fnOf "__init__" "Meet.__init__" (defArgs s_Meet_init) (defBody s_Meet_init) (defScope s_Meet_init) .none kV28 dc28 pm28 an28 cd28 ct28), sl28⟩)
    (c28 : PySem.W.codeIn K cd28 "Meet.__init__" = true) (k28 : PySem.W.keepIn K (.ref f_Meet_init) = true)
    {f_Meet_shows : Addr} {od29 an29 : Option Addr} {sl29 : Array (Option Value)} {oc29 kV29 dc29 pm29 ct29 : Value} {cd29 : Value}
    (a29 : PySem.W.findIn K (.ref A_Meet) "shows" = some (some (.ref f_Meet_shows)))
    (l29 : K.lookup f_Meet_shows = some ⟨oc29, od29, .func (PySem.W.fnOf "shows" "Meet.shows" (defArgs s_Meet_shows) (defBody s_Meet_shows) (defScope s_Meet_shows) .none kV29 dc29 pm29 an29 cd29 ct29), sl29⟩)
    (c29 : PySem.W.codeIn K cd29 "Meet.shows" = true) (k29 : PySem.W.keepIn K (.ref f_Meet_shows) = true)
    {f_Apart_init : Addr} {od30 an30 : Option Addr} {sl30 : Array (Option Value)} {oc30 kV30 dc30 pm30 ct30 : Value} {cd30 : Value}
    (a30 : PySem.W.findIn K (.ref A_Apart) "__init__" = some (some (.ref f_Apart_init)))
    (l30 : K.lookup f_Apart_init = some ⟨oc30, od30, .func (PySem.W.fnOf "__init__" "Apart.__init__" (defArgs s_Apart_init) (defBody s_Apart_init) (defScope s_Apart_init) .none kV30 dc30 pm30 an30 cd30 ct30), sl30⟩)
    (c30 : PySem.W.codeIn K cd30 "Apart.__init__" = true) (k30 : PySem.W.keepIn K (.ref f_Apart_init) = true)
    {f_Apart_shows : Addr} {od31 an31 : Option Addr} {sl31 : Array (Option Value)} {oc31 kV31 dc31 pm31 ct31 : Value} {cd31 : Value}
    (a31 : PySem.W.findIn K (.ref A_Apart) "shows" = some (some (.ref f_Apart_shows)))
    (l31 : K.lookup f_Apart_shows = some ⟨oc31, od31, .func (PySem.W.fnOf "shows" "Apart.shows" (defArgs s_Apart_shows) (defBody s_Apart_shows) (defScope s_Apart_shows) .none kV31 dc31 pm31 an31 cd31 ct31), sl31⟩)
    (c31 : PySem.W.codeIn K cd31 "Apart.shows" = true) (k31 : PySem.W.keepIn K (.ref f_Apart_shows) = true)
    {t_LONGEST : Tok} (h_LONGEST : PySem.W.nsIn K mainGlobals "LONGEST" = some (some (.int 60 t_LONGEST)))
    {t_GREATEST : Tok} (h_GREATEST : PySem.W.nsIn K mainGlobals "GREATEST" = some (some (.int 20 t_GREATEST)))
    (z_abs : PySem.W.nsIn K mainGlobals "abs" = some none)
    (z_all : PySem.W.nsIn K mainGlobals "all" = some none)
    (z_bool : PySem.W.nsIn K mainGlobals "bool" = some none)
    (z_int : PySem.W.nsIn K mainGlobals "int" = some none)
    (z_isinstance : PySem.W.nsIn K mainGlobals "isinstance" = some none)
    (z_len : PySem.W.nsIn K mainGlobals "len" = some none)
    (z_list : PySem.W.nsIn K mainGlobals "list" = some none)
    (z_min : PySem.W.nsIn K mainGlobals "min" = some none)
    (z_range : PySem.W.nsIn K mainGlobals "range" = some none)
    (z_sorted : PySem.W.nsIn K mainGlobals "sorted" = some none)
    (z_str : PySem.W.nsIn K mainGlobals "str" = some none)
    (z_tuple : PySem.W.nsIn K mainGlobals "tuple" = some none)
    (z_zip : PySem.W.nsIn K mainGlobals "zip" = some none)
    (fn28 : PySem.W.isFn K (.ref f_Meet_init) = true)
    (fn29 : PySem.W.isFn K (.ref f_Meet_shows) = true)
    (fn30 : PySem.W.isFn K (.ref f_Apart_init) = true)
    (fn31 : PySem.W.isFn K (.ref f_Apart_shows) = true)
    (ic_Meet : PySem.W.isClsIn K A_Meet = true) (tc_Meet : PySem.W.typeIn K (.ref A_Meet) = some (.type "type"))
    (su_Meet_Meet : PySem.W.subIn K (.ref A_Meet) (.ref A_Meet) = some true)
    (ic_Apart : PySem.W.isClsIn K A_Apart = true) (tc_Apart : PySem.W.typeIn K (.ref A_Apart) = some (.type "type"))
    (su_Apart_Meet : PySem.W.subIn K (.ref A_Apart) (.ref A_Meet) = some false)
    (su_Apart_Apart : PySem.W.subIn K (.ref A_Apart) (.ref A_Apart) = some true)
    : ∃ (fd : FuncData) (tb : List (Addr × Addr)) (sp : Sp), (∀ (s : Shared) (u : Value), BindsTo s fd ⟨[u], []⟩ [("_law_script", u)]) ∧ (∀ p ∈ tb, h.get? p.2 = some { cls := .none, data := .fields #[] }) ∧ (∀ p ∈ tb, K.lookup p.2 = none) ∧ (∀ p ∈ tb, PySem.W.CodeHd h p.1 p.2) ∧
      (∀ (H : Hp) (a : Addr) (ns : List Int), ns.length ≤ 63 → (∀ z ∈ ns, Builtin.Int.intBits z ≤ 1048576) → (∀ p ∈ tb, H p.2 = some (.tbl #[])) → SqL K H a (ns.map V.int) → sp [.ref a] H (fun v _ => v = .bl true) fun _ _ _ => False) ∧
      ∀ bs : Heap, K.In bs → bs.Ns mainGlobals mg → (∀ p ∈ tb, TabB bs mg p.1 p.2) → FnG l.prog w K mg bs CX0 9 fa fd ["_law_script"] sp := by
  have e := hfa.symm.trans (PySem.W.mg_of X G a27)
  cases e
  have F0 := fun_mk (st := s_is_whole) l0 c0 k0
  have b0 := F0.binds (ps := ["thing"]) fun _ _ _ _ _ _ us hl => match us, hl with | [_], _ => rfl
  have F1 := fun_mk (st := s_check_row) l1 c1 k1
  have b1 := F1.binds (ps := ["row"]) fun _ _ _ _ _ _ us hl => match us, hl with | [_], _ => rfl
  have F2 := fun_mk (st := s_check_place) l2 c2 k2
  have b2 := F2.binds (ps := ["row", "place"]) fun _ _ _ _ _ _ us hl => match us, hl with | [_, _], _ => rfl
  have F3 := fun_mk (st := s_check_count) l3 c3 k3
  have b3 := F3.binds (ps := ["count", "least", "most"]) fun _ _ _ _ _ _ us hl => match us, hl with | [_, _, _], _ => rfl
  have F4 := fun_mk (st := s_way_from) l4 c4 k4
  have b4 := F4.binds (ps := ["row", "place"]) fun _ _ _ _ _ _ us hl => match us, hl with | [_, _], _ => rfl
  have F5 := fun_mk (st := s_way) l5 c5 k5
  have b5 := F5.binds (ps := ["row", "place"]) fun _ _ _ _ _ _ us hl => match us, hl with | [_, _], _ => rfl
  have F6 := fun_mk (st := s_last) l6 c6 k6
  have b6 := F6.binds (ps := ["row", "place"]) fun _ _ _ _ _ _ us hl => match us, hl with | [_, _], _ => rfl
  have F7 := fun_mk (st := s_endings) l7 c7 k7
  have b7 := F7.binds (ps := ["row", "many"]) fun _ _ _ _ _ _ us hl => match us, hl with | [_, _], _ => rfl
  have F8 := fun_mk (st := s_first_common) l8 c8 k8
  have b8 := F8.binds (ps := ["row", "one", "other"]) fun _ _ _ _ _ _ us hl => match us, hl with | [_, _, _], _ => rfl
  have F9 := fun_mk (st := s_compared) l9 c9 k9
  have b9 := F9.binds (ps := ["row", "one", "other"]) fun _ _ _ _ _ _ us hl => match us, hl with | [_, _, _], _ => rfl
  have F10 := fun_mk (st := s_run_by) l10 c10 k10
  have b10 := F10.binds (ps := ["row", "many"]) fun _ _ _ _ _ _ us hl => match us, hl with | [_, _], _ => rfl
  have F11 := fun_mk (st := s_check_far) l11 c11 k11
  have b11 := F11.binds (ps := ["many", "far"]) fun _ _ _ _ _ _ us hl => match us, hl with | [_, _], _ => rfl
  have F12 := fun_mk (st := s_power) l12 c12 k12
  have b12 := F12.binds (ps := ["number", "many"]) fun _ _ _ _ _ _ us hl => match us, hl with | [_, _], _ => rfl
  have F13 := fun_mk (st := s_states) l13 c13 k13
  have b13 := F13.binds (ps := ["cards", "many", "far"]) fun _ _ _ _ _ _ us hl => match us, hl with | [_, _, _], _ => rfl
  have F14 := fun_mk (st := s_meetings_of) l14 c14 k14
  have b14 := F14.binds (ps := ["cards", "many", "far"]) fun _ _ _ _ _ _ us hl => match us, hl with | [_, _, _], _ => rfl
  have F15 := fun_mk (st := s_check_all) l15 c15 k15
  have b15 := F15.binds (ps := ["cards", "many", "far"]) fun _ _ _ _ _ _ us hl => match us, hl with | [_, _, _], _ => rfl
  have F16 := fun_mk (st := s_meetings) l16 c16 k16
  have b16 := F16.binds (ps := ["cards", "many", "far"]) fun _ _ _ _ _ _ us hl => match us, hl with | [_, _, _], _ => rfl
  have F17 := fun_mk (st := s__law_cell_at) l17 c17 k17
  have b17 := F17.binds (ps := ["_law_script", "_law_k"]) fun _ _ _ _ _ _ us hl => match us, hl with | [_, _], _ => rfl
  have F18 := fun_mk (st := s__law_draw) l18 c18 k18
  have b18 := F18.binds (ps := ["_law_cell", "_law_k", "_law_most"]) fun _ _ _ _ _ _ us hl => match us, hl with | [_, _, _], _ => rfl
  have F19 := fun_mk (st := s__law_number) l19 c19 k19
  have b19 := F19.binds (ps := ["_law_cell", "_law_k", "_law_limit"]) fun _ _ _ _ _ _ us hl => match us, hl with | [_, _, _], _ => rfl
  have F20 := fun_mk (st := s__law_deep) l20 c20 k20
  have b20 := F20.binds (ps := ["_law_thing"]) fun _ _ _ _ _ _ us hl => match us, hl with | [_], _ => rfl
  have F21 := fun_mk (st := s__law_spoilt) l21 c21 k21
  have b21 := F21.binds (ps := ["_law_found"]) fun _ _ _ _ _ _ us hl => match us, hl with | [_], _ => rfl
  have F22 := fun_mk (st := s__law_put) l22 c22 k22
  have b22 := F22.binds (ps := ["_law_handed", "_law_some"]) fun _ _ _ _ _ _ us hl => match us, hl with | [_, _], _ => rfl
  have F23 := fun_mk (st := s__law_door_right) l23 c23 k23
  have b23 := F23.binds (ps := ["_law_ask", "_law_lists", "_law_others"]) fun _ _ _ _ _ _ us hl => match us, hl with | [_, _, _], _ => rfl
  have F24 := fun_mk (st := s__law_two) l24 c24 k24
  have b24 := F24.binds (ps := ["_law_found"]) fun _ _ _ _ _ _ us hl => match us, hl with | [_], _ => rfl
  have F25 := fun_mk (st := s__law_doors_right) l25 c25 k25
  have b25 := F25.binds (ps := ["_law_asks", "_law_lists", "_law_others"]) fun _ _ _ _ _ _ us hl => match us, hl with | [_, _, _], _ => rfl
  have F26 := fun_mk (st := s__law_compared) l26 c26 k26
  have b26 := F26.binds (ps := ["_law_row", "_law_one", "_law_other"]) fun _ _ _ _ _ _ us hl => match us, hl with | [_, _, _], _ => rfl
  have ti_law := TA "law" _ _ tr_law (tabIn_of a27 l27 rfl tl_law tq_law)
  have F27 := fun_mk (st := s_law) l27 c27 k27
  have b27 := F27.binds (ps := ["_law_script"]) fun _ _ _ _ _ _ us hl => match us, hl with | [_], _ => rfl
  have F28 := fun_mk (st := s_Meet_init) l28 c28 k28
  have b28 := F28.binds (ps := ["self", "place"]) fun _ _ _ _ _ _ us hl => match us, hl with | [_, _], _ => rfl
  have F29 := fun_mk (st := s_Meet_shows) l29 c29 k29
  have b29 := F29.binds (ps := ["self", "row", "one", "other"]) fun _ _ _ _ _ _ us hl => match us, hl with | [_, _, _, _], _ => rfl
  have F30 := fun_mk (st := s_Apart_init) l30 c30 k30
  have b30 := F30.binds (ps := ["self", "mine", "theirs"]) fun _ _ _ _ _ _ us hl => match us, hl with | [_, _, _], _ => rfl
  have F31 := fun_mk (st := s_Apart_shows) l31 c31 k31
  have b31 := F31.binds (ps := ["self", "row", "one", "other"]) fun _ _ _ _ _ _ us hl => match us, hl with | [_, _, _, _], _ => rfl
  let T : Tx K mg := { f_is_whole := f_is_whole, d_is_whole := _, F_is_whole := F0, b_is_whole := b0, m_is_whole := PySem.W.mg_of X G a0, f_check_row := f_check_row, d_check_row := _, F_check_row := F1, b_check_row := b1, m_check_row := PySem.W.mg_of X G a1, f_check_place := f_check_place, d_check_place := _, F_check_place := F2, b_check_place := b2, m_check_place := PySem.W.mg_of X G a2, f_check_count := f_check_count, d_check_count := _, F_check_count := F3, b_check_count := b3, m_check_count := PySem.W.mg_of X G a3, f_way_from := f_way_from, d_way_from := _, F_way_from := F4, b_way_from := b4, m_way_from := PySem.W.mg_of X G a4, f_way := f_way, d_way := _, F_way := F5, b_way := b5, m_way := PySem.W.mg_of X G a5, f_last := f_last, d_last := _, F_last := F6, b_last := b6, m_last := PySem.W.mg_of X G a6, f_endings := f_endings, d_endings := _, F_endings := F7, b_endings := b7, m_endings := PySem.W.mg_of X G a7, f_first_common := f_first_common, d_first_common := _, F_first_common := F8, b_first_common := b8, m_first_common := PySem.W.mg_of X G a8, f_compared := f_compared, d_compared := _, F_compared := F9, b_compared := b9, m_compared := PySem.W.mg_of X G a9, f_run_by := f_run_by, d_run_by := _, F_run_by := F10, b_run_by := b10, m_run_by := PySem.W.mg_of X G a10, f_check_far := f_check_far, d_check_far := _, F_check_far := F11, b_check_far := b11, m_check_far := PySem.W.mg_of X G a11, f_power := f_power, d_power := _, F_power := F12, b_power := b12, m_power := PySem.W.mg_of X G a12, f_states := f_states, d_states := _, F_states := F13, b_states := b13, m_states := PySem.W.mg_of X G a13, f_meetings_of := f_meetings_of, d_meetings_of := _, F_meetings_of := F14, b_meetings_of := b14, m_meetings_of := PySem.W.mg_of X G a14, f_check_all := f_check_all, d_check_all := _, F_check_all := F15, b_check_all := b15, m_check_all := PySem.W.mg_of X G a15, f_meetings := f_meetings, d_meetings := _, F_meetings := F16, b_meetings := b16, m_meetings := PySem.W.mg_of X G a16, f__law_cell_at := f__law_cell_at, d__law_cell_at := _, F__law_cell_at := F17, b__law_cell_at := b17, m__law_cell_at := PySem.W.mg_of X G a17, f__law_draw := f__law_draw, d__law_draw := _, F__law_draw := F18, b__law_draw := b18, m__law_draw := PySem.W.mg_of X G a18, f__law_number := f__law_number, d__law_number := _, F__law_number := F19, b__law_number := b19, m__law_number := PySem.W.mg_of X G a19, f__law_deep := f__law_deep, d__law_deep := _, F__law_deep := F20, b__law_deep := b20, m__law_deep := PySem.W.mg_of X G a20, f__law_spoilt := f__law_spoilt, d__law_spoilt := _, F__law_spoilt := F21, b__law_spoilt := b21, m__law_spoilt := PySem.W.mg_of X G a21, f__law_put := f__law_put, d__law_put := _, F__law_put := F22, b__law_put := b22, m__law_put := PySem.W.mg_of X G a22, f__law_door_right := f__law_door_right, d__law_door_right := _, F__law_door_right := F23, b__law_door_right := b23, m__law_door_right := PySem.W.mg_of X G a23, f__law_two := f__law_two, d__law_two := _, F__law_two := F24, b__law_two := b24, m__law_two := PySem.W.mg_of X G a24, f__law_doors_right := f__law_doors_right, d__law_doors_right := _, F__law_doors_right := F25, b__law_doors_right := b25, m__law_doors_right := PySem.W.mg_of X G a25, f__law_compared := f__law_compared, d__law_compared := _, F__law_compared := F26, b__law_compared := b26, m__law_compared := PySem.W.mg_of X G a26, tc_law := tc_law, tp_law := tp_law, hc_law := rfl, f_law := fa, d_law := _, F_law := F27, b_law := b27, m_law := PySem.W.mg_of X G a27, f_Meet_init := f_Meet_init, d_Meet_init := _, F_Meet_init := F28, b_Meet_init := b28, f_Meet_shows := f_Meet_shows, d_Meet_shows := _, F_Meet_shows := F29, b_Meet_shows := b29, f_Apart_init := f_Apart_init, d_Apart_init := _, F_Apart_init := F30, b_Apart_init := b30, f_Apart_shows := f_Apart_shows, d_Apart_shows := _, F_Apart_shows := F31, b_Apart_shows := b31, c_LONGEST := ⟨t_LONGEST, PySem.W.mg_of X G h_LONGEST⟩, c_GREATEST := ⟨t_GREATEST, PySem.W.mg_of X G h_GREATEST⟩, z_abs := PySem.W.mg_none_of X G z_abs, z_all := PySem.W.mg_none_of X G z_all, z_bool := PySem.W.mg_none_of X G z_bool, z_int := PySem.W.mg_none_of X G z_int, z_isinstance := PySem.W.mg_none_of X G z_isinstance, z_len := PySem.W.mg_none_of X G z_len, z_list := PySem.W.mg_none_of X G z_list, z_min := PySem.W.mg_none_of X G z_min, z_range := PySem.W.mg_none_of X G z_range, z_sorted := PySem.W.mg_none_of X G z_sorted, z_str := PySem.W.mg_none_of X G z_str, z_tuple := PySem.W.mg_none_of X G z_tuple, z_zip := PySem.W.mg_none_of X G z_zip, a_Answer := A_Answer, m_Answer := PySem.W.mg_of X G g_Answer, a_Meet := A_Meet, m_Meet := PySem.W.mg_of X G g_Meet, a_Apart := A_Apart, m_Apart := PySem.W.mg_of X G g_Apart, n_Meet_place := na_Meet_place, n_Apart_mine := na_Apart_mine, n_Apart_theirs := na_Apart_theirs, k_Meet := ⟨mk_Meet, a28, fn28, kp_Meet⟩, me_Meet_shows := ⟨a29, fn29, k29⟩, k_Apart := ⟨mk_Apart, a30, fn30, kp_Apart⟩, me_Apart_shows := ⟨a31, fn31, k31⟩, cl_Meet := ⟨pg_Meet, hd_Meet, po_Meet, sa_Meet⟩, ty_Meet := fun H1 a dx fs e => .ins e ⟨pg_Meet, hd_Meet, po_Meet, sa_Meet⟩ ca_Meet cg ct mo_Meet, cl_Apart := ⟨pg_Apart, hd_Apart, po_Apart, sa_Apart⟩, ty_Apart := fun H1 a dx fs e => .ins e ⟨pg_Apart, hd_Apart, po_Apart, sa_Apart⟩ ca_Apart cg ct mo_Apart, ki_Meet_Meet := kit_true ic_Meet tc_Meet su_Meet_Meet, ki_Apart_Meet := kit_false ic_Meet tc_Meet su_Apart_Meet su_Apart_Apart }
  refine ⟨_, [(tc_law, tp_law)], sp_law T, fun s u => .of_eq rfl, (fun p hp => by
    simp only [List.mem_cons, List.not_mem_nil, or_false] at hp
    rcases hp with rfl
    · exact ti_law.2), (fun p hp => by
    simp only [List.mem_cons, List.not_mem_nil, or_false] at hp
    rcases hp with rfl
    · exact Option.isNone_iff_eq_none.mp to_law), (fun p hp => by
    simp only [List.mem_cons, List.not_mem_nil, or_false] at hp
    rcases hp with rfl
    · exact ti_law.1), fun H a ns h1 h2 h3 h4 => ⟨a, ns, rfl, h4, h1, h2, (fun p hp => by
    simp only [tabsT, List.mem_cons, List.not_mem_nil, or_false] at hp
    rcases hp with rfl
    · exact TabS.nil (h3 (tc_law, tp_law) (by simp))), fun _ => rfl⟩, fun bs _ _ TBs => ok_law T (TBs (tc_law, tp_law) (by simp))⟩
end Rt
open PySem PySem.W PyProof.Rows
set_option maxRecDepth 100000 in
set_option maxHeartbeats 0 in
theorem PySem.Challenge.cw_runtogether_k08_whole_anew_holds : PySem.Challenge.rw_runtogether_k08_whole_anew.Holds := by
  w_on; o_law; k_head; (case hw => w_witness2)
  k_fill
  refine Rt.walk_ofT (l := PySem.Challenge.rw_runtogether_k08_whole_anew) (n := 63) (k := 9) (x := "_law_script") rfl (by decide) rfl ⟨rfl, by decide, by decide⟩ (fun w h Y => PySem.W.km_in_of Y) ?F
  case F =>
    intro w mg fa h KX G hmg TA
    refine' Rt.all_mk KX G hmg TA ?g_Answer ?g_Meet ?g_Apart ?pg_Meet ?hd_Meet ?po_Meet ?sa_Meet ?mk_Meet ?kp_Meet ?ca_Meet ?mo_Meet ?na_Meet_place ?pg_Apart ?hd_Apart ?po_Apart ?sa_Apart ?mk_Apart ?kp_Apart ?ca_Apart ?mo_Apart ?na_Apart_mine ?na_Apart_theirs ?cg ?ct ?a0 ?l0 ?c0 ?k0 ?a1 ?l1 ?c1 ?k1 ?a2 ?l2 ?c2 ?k2 ?a3 ?l3 ?c3 ?k3 ?a4 ?l4 ?c4 ?k4 ?a5 ?l5 ?c5 ?k5 ?a6 ?l6 ?c6 ?k6 ?a7 ?l7 ?c7 ?k7 ?a8 ?l8 ?c8 ?k8 ?a9 ?l9 ?c9 ?k9 ?a10 ?l10 ?c10 ?k10 ?a11 ?l11 ?c11 ?k11 ?a12 ?l12 ?c12 ?k12 ?a13 ?l13 ?c13 ?k13 ?a14 ?l14 ?c14 ?k14 ?a15 ?l15 ?c15 ?k15 ?a16 ?l16 ?c16 ?k16 ?a17 ?l17 ?c17 ?k17 ?a18 ?l18 ?c18 ?k18 ?a19 ?l19 ?c19 ?k19 ?a20 ?l20 ?c20 ?k20 ?a21 ?l21 ?c21 ?k21 ?a22 ?l22 ?c22 ?k22 ?a23 ?l23 ?c23 ?k23 ?a24 ?l24 ?c24 ?k24 ?a25 ?l25 ?c25 ?k25 ?a26 ?l26 ?c26 ?k26 ?a27 ?l27 ?c27 ?k27 ?tl_law ?tq_law ?to_law ?tr_law ?a28 ?l28 ?c28 ?k28 ?a29 ?l29 ?c29 ?k29 ?a30 ?l30 ?c30 ?k30 ?a31 ?l31 ?c31 ?k31 ?h_LONGEST ?h_GREATEST ?z_abs ?z_all ?z_bool ?z_int ?z_isinstance ?z_len ?z_list ?z_min ?z_range ?z_sorted ?z_str ?z_tuple ?z_zip ?fn28 ?fn29 ?fn30 ?fn31 ?ic_Meet ?tc_Meet ?su_Meet_Meet ?ic_Apart ?tc_Apart ?su_Apart_Meet ?su_Apart_Apart
    (case g_Answer => k_is); (case g_Meet => k_is); (case g_Apart => k_is); (case pg_Meet => k_is); (case hd_Meet => k_is); (case po_Meet => k_is); (case sa_Meet => k_is); (case mk_Meet => k_is); (case kp_Meet => k_is); (case ca_Meet => k_is); (case mo_Meet => k_is); (case na_Meet_place => k_is); (case pg_Apart => k_is); (case hd_Apart => k_is); (case po_Apart => k_is); (case sa_Apart => k_is); (case mk_Apart => k_is); (case kp_Apart => k_is); (case ca_Apart => k_is); (case mo_Apart => k_is); (case na_Apart_mine => k_is); (case na_Apart_theirs => k_is); (case cg => k_is); (case ct => k_is); (case a0 => k_is); (case l0 => k_is); (case c0 => k_is); (case k0 => k_is); (case a1 => k_is); (case l1 => k_is); (case c1 => k_is); (case k1 => k_is); (case a2 => k_is); (case l2 => k_is); (case c2 => k_is); (case k2 => k_is); (case a3 => k_is); (case l3 => k_is); (case c3 => k_is); (case k3 => k_is); (case a4 => k_is); (case l4 => k_is); (case c4 => k_is); (case k4 => k_is); (case a5 => k_is); (case l5 => k_is); (case c5 => k_is); (case k5 => k_is); (case a6 => k_is); (case l6 => k_is); (case c6 => k_is); (case k6 => k_is); (case a7 => k_is); (case l7 => k_is); (case c7 => k_is); (case k7 => k_is); (case a8 => k_is); (case l8 => k_is); (case c8 => k_is); (case k8 => k_is); (case a9 => k_is); (case l9 => k_is); (case c9 => k_is); (case k9 => k_is); (case a10 => k_is); (case l10 => k_is); (case c10 => k_is); (case k10 => k_is); (case a11 => k_is); (case l11 => k_is); (case c11 => k_is); (case k11 => k_is); (case a12 => k_is); (case l12 => k_is); (case c12 => k_is); (case k12 => k_is); (case a13 => k_is); (case l13 => k_is); (case c13 => k_is); (case k13 => k_is); (case a14 => k_is); (case l14 => k_is); (case c14 => k_is); (case k14 => k_is); (case a15 => k_is); (case l15 => k_is); (case c15 => k_is); (case k15 => k_is); (case a16 => k_is); (case l16 => k_is); (case c16 => k_is); (case k16 => k_is); (case a17 => k_is); (case l17 => k_is); (case c17 => k_is); (case k17 => k_is); (case a18 => k_is); (case l18 => k_is); (case c18 => k_is); (case k18 => k_is); (case a19 => k_is); (case l19 => k_is); (case c19 => k_is); (case k19 => k_is); (case a20 => k_is); (case l20 => k_is); (case c20 => k_is); (case k20 => k_is); (case a21 => k_is); (case l21 => k_is); (case c21 => k_is); (case k21 => k_is); (case a22 => k_is); (case l22 => k_is); (case c22 => k_is); (case k22 => k_is); (case a23 => k_is); (case l23 => k_is); (case c23 => k_is); (case k23 => k_is); (case a24 => k_is); (case l24 => k_is); (case c24 => k_is); (case k24 => k_is); (case a25 => k_is); (case l25 => k_is); (case c25 => k_is); (case k25 => k_is); (case a26 => k_is); (case l26 => k_is); (case c26 => k_is); (case k26 => k_is); (case a27 => k_is); (case l27 => k_is); (case c27 => k_is); (case k27 => k_is); (case tl_law => k_is); (case tq_law => rfl); (case to_law => first | kernel_rfl | rfl); (case tr_law => decide +kernel); (case a28 => k_is); (case l28 => k_is); (case c28 => k_is); (case k28 => k_is); (case a29 => k_is); (case l29 => k_is); (case c29 => k_is); (case k29 => k_is); (case a30 => k_is); (case l30 => k_is); (case c30 => k_is); (case k30 => k_is); (case a31 => k_is); (case l31 => k_is); (case c31 => k_is); (case k31 => k_is); (case h_LONGEST => k_is); (case h_GREATEST => k_is); (case z_abs => k_is); (case z_all => k_is); (case z_bool => k_is); (case z_int => k_is); (case z_isinstance => k_is); (case z_len => k_is); (case z_list => k_is); (case z_min => k_is); (case z_range => k_is); (case z_sorted => k_is); (case z_str => k_is); (case z_tuple => k_is); (case z_zip => k_is); (case fn28 => k_is); (case fn29 => k_is); (case fn30 => k_is); (case fn31 => k_is); (case ic_Meet => k_is); (case tc_Meet => k_is); (case su_Meet_Meet => first | k_is | rfl); (case ic_Apart => k_is); (case tc_Apart => k_is); (case su_Apart_Meet => first | k_is | rfl); (case su_Apart_Apart => first | k_is | rfl)
