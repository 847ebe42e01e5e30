import PyProof.Rows.All
import Wide.All
import OpenK.AllK
import Wide.FinOn
import HandS.ForMost
import HandS.Evl
import HandS.Flow
import HandS.Wide
import HandS.Star
import HandS.EndBits
import HandS.ReplaceLit
import HandS.ReplaceDef
import PyProof.ReprRoads
import PyProof.Rows.CountFlat
import HandS.Walk
import PySem.Challenge.RW_pergola_k80_commands_read
import PyProof.StrLawsReplace
set_option Elab.async false
set_option linter.all false
set_option maxRecDepth 100000
namespace Pg
open PySem PySem.Spec PyProof.Rows L2

/-! ### defs that may be run only where no repr is under way (FnG), calls of them -/
structure FnG (P : Program) (w : World) (K : PySem.W.Frag) (mg : Str → Option Value) (base : Heap) (CX : CXT) (k : Nat) (f : Addr) (fd : FuncData) (ps : List Str) (sp : Sp) : Prop where
  arity : ∀ vs H Q E, sp vs H Q E → vs.length = ps.length
  go : ∀ (A : Around) (outer : List Env) (s : Shared) (H : Hp) (args : Args) (us : List Value) (vs : List V) (Q : VK) (E : XK), A.guards = some [] → Room k A →
    Env0 P w K mg base A outer s H → BindsTo s fd args (ps.zip us) → Vals vs us → sp vs H Q E → codeAny (model P w) A (.call (.ref f) args) (CR CX outer P w H s Q E) s
section
variable {P : Program} {w : World} {K : PySem.W.Frag} {mg : Str → Option Value} {base : Heap} {CX : CXT} {k : Nat} {f : Addr} {fd : FuncData} {ps : List Str} {sp : Sp}
theorem FnG.of (F : FnOk P w K mg base CX k f fd ps sp) : FnG P w K mg base CX k f fd ps sp :=
  ⟨F.len, fun A outer s H args us vs Q E _ => F.run A outer s H args us vs Q E⟩
theorem _root_.L2.Fun.okG {x qual : Str} {st : Stmt} {N : List Str} (F : Fun K x qual st f fd) (S : FnScope N ps (defScope st)) (arity : ∀ vs H Q E, sp vs H Q E → vs.length = ps.length)
    (hbody : ∀ (cdv : Value) (A : Around) (outer : List Env) (s : Shared) (H : Hp) (vs : List V) (Q : VK) (E : XK), A.guards = some [] → Room k (A.deeper (envOfC qual (defScope st) s.heap.objs.size f cdv)) → sp vs H Q E →
      ∃ t, PSs (cxOf CX P w K mg base N qual (defScope st) f cdv A outer s H E) (defBody st) t ∧ t { nx := fun _ H' => Q .non H', rt := Q } (start N vs) H) : FnG P w K mg base CX (k + 1) f fd ps sp := by
  obtain ⟨oc, od, kV, doc, pm, an, cdv, ct, osl, rfl, look, code⟩ := F.ex
  refine ⟨arity, fun A outer s H args us vs Q E guards room env bind rel want => ?_⟩
  have keep : ∀ b o, base.get? b = some o → s.heap.get? b = some o := fun b o e => (env.bs b o e).1
  refine Att.call_fn (env.mod.kin.keeps keep) (env.mod.nolimit.keeps keep) look code room.depth bind ?kinds (fun s1 entered => ?run) S.co S.gen S.kind
  case kinds =>
    refine List.all_eq_true.mpr fun y hy => ?_
    rcases S.par y.1 (List.of_mem_zip (a := y.1) (b := y.2) hy).1 with e | e
    · rw [e]; rfl
    · rw [e]; rfl
  case run =>
    obtain ⟨t, walk, reads⟩ := hbody cdv A outer s H vs Q E guards (room.deeper _) want
    have I := inv_start (CX := CX) (E := E) S room.hd env (arity _ _ _ _ want) rel entered
    refine wpAny_mono (walk.run [] s1 _ H _ I reads) (fun flow s2 done => ?_) (fun _ _ z => z)
    have close : ∀ {σ2 : L2.St} {H2 : Hp} {v : V} {u : Value}, Inv (cxOf CX P w K mg base N qual (defScope st) f cdv A outer s H E) [] σ2 H2 s2 → RelV v u → Q v H2 → CE outer P w H s Q u s2 :=
      fun J rv q => ⟨_, _, J.os, J.bare, J.base, J.hok, rv, q⟩
    cases flow with
    | next => obtain ⟨_, _, J, q⟩ := done; exact close (v := .non) J rfl q
    | ret u => obtain ⟨_, _, _, J, rv, q⟩ := done; exact close J rv q
    | brk => obtain ⟨_, _, _, q⟩ := done; exact q.elim
    | cont => obtain ⟨_, _, _, q⟩ := done; exact q.elim
end

/-- a def of the module that may be called: with its promise, its level -/
structure CallOk (P : Program) (w : World) (K : PySem.W.Frag) (mg : Str → Option Value) (base : Heap) (CX : CXT) (k : Nat) (x : Str) (ps : List Str) (sp : Sp) : Prop where
  ex : ∃ (f : Addr) (fd : FuncData), FnOk P w K mg base CX k f fd ps sp ∧ mg x = some (.ref f) ∧ PySem.W.keepIn K (.ref f) = true ∧ Binds K fd ps []
structure CallG (P : Program) (w : World) (K : PySem.W.Frag) (mg : Str → Option Value) (base : Heap) (CX : CXT) (k : Nat) (x : Str) (ps : List Str) (sp : Sp) : Prop where
  ex : ∃ (f : Addr) (fd : FuncData), FnG P w K mg base CX k f fd ps sp ∧ mg x = some (.ref f) ∧ PySem.W.keepIn K (.ref f) = true ∧ Binds K fd ps []
section
variable {X : Cx} {CX : CXT} {E : XK} {k : Nat} {x : Str} {ps : List Str} {sp : Sp} {e : Expr} {es : List Expr} {t : TA} {p pos : Pos}
theorem pe_cx (C : CallOk X.prog X.w X.K X.mg X.base CX k x ps sp) (hr : Room k X.A) (hg : Gl X x) (hx : Passes CX X E)
    (ha : PA X (e :: es) t) (hdb : (x == ("__debug__" : Str)) = false := by decide) (he : starEach (e :: es) X.env = (false, eval e X.env) :: starEach es X.env := by rfl) (hpl : (backTo pos (starEach es X.env)).any (·.1) = false := by rfl) :
    PE X (.Call (.Name x p) (e :: es) [] pos) (tCall sp [] E t) := by
  obtain ⟨f, fd, F, hm, hk, hb⟩ := C.ex
  exact pe_call F hr hg hm hk hb .nil hx ha hdb he hpl
theorem pe_c (C : CallOk X.prog X.w X.K X.mg X.base CX0 k x ps sp) (hr : Room k X.A) (hg : Gl X x)
    (ha : PA X (e :: es) t) (hdb : (x == ("__debug__" : Str)) = false := by decide) (he : starEach (e :: es) X.env = (false, eval e X.env) :: starEach es X.env := by rfl) (hpl : (backTo pos (starEach es X.env)).any (·.1) = false := by rfl) :
    PE X (.Call (.Name x p) (e :: es) [] pos) (tCall sp [] E0 t) := pe_cx C hr hg pass0 ha hdb he hpl
/-- a call of a def that wants no repr under way -/
theorem pe_cg (C : CallG X.prog X.w X.K X.mg X.base CX0 k x ps sp) (guards : X.A.guards = some []) (hr : Room k X.A) (hg : Gl X x)
    (ha : PA X (e :: es) t) (hdb : (x == ("__debug__" : Str)) = false := by decide) (he : starEach (e :: es) X.env = (false, eval e X.env) :: starEach es X.env := by rfl) (hpl : (backTo pos (starEach es X.env)).any (·.1) = false := by rfl) :
    PE X (.Call (.Name x p) (e :: es) [] pos) (tCall sp [] E0 t) := by
  obtain ⟨f, fd, F, hm, hk, hb⟩ := C.ex
  refine ⟨fun pins s σ H Q I h => wpAny_Call_Name_kw (ld_glob I hg hm ?_ hdb)⟩
  refine PySem.W.callWith_K (h₀ := X.base) I.ok.mod.kin hk (thn (ha.run pos pins s σ H _ I h) fun us s1 r => ?_) he hpl
  obtain ⟨vs, H1, I1, rel, want⟩ := r
  have nodefaults : (us ++ ([] : List Value)).length = ps.length := by
    rw [List.append_nil, ← rel.length, ← F.arity _ _ _ _ want, List.append_nil]
  have bound := hb s1 us I1.kIn nodefaults
  rw [List.append_nil] at bound want
  refine ⟨I1.kIn, wpAny_call (codeAny_mono (F.go X.A X.stack s1 H1 ⟨us, []⟩ us vs Q E0 guards hr I1.env0 bound rel want) fun res s2 got => ?_)⟩
  match res, got with
  | .ok (.ret u), got => exact I1.after got
  | .ok .next, got => exact got.elim
  | .ok .brk, got => exact got.elim
  | .ok .cont, got => exact got.elim
  | .error e, got => exact got.elim
end

theorem bt_len : bootBuiltins "len" = some (.builtin "len") := by decide +kernel
theorem bt_abs : bootBuiltins "abs" = some (.builtin "abs") := by decide +kernel
theorem bt_all : bootBuiltins "all" = some (.builtin "all") := by decide +kernel
theorem bt_any : bootBuiltins "any" = some (.builtin "any") := by decide +kernel
theorem bt_sum : bootBuiltins "sum" = some (.builtin "sum") := by decide +kernel
theorem bt_repr : bootBuiltins "repr" = some (.builtin "repr") := by decide +kernel
theorem bt_int : bootBuiltins "int" = some (.type "int") := by decide +kernel
theorem bt_str : bootBuiltins "str" = some (.type "str") := by decide +kernel
theorem bt_tuple : bootBuiltins "tuple" = some (.type "tuple") := by decide +kernel
theorem bt_list : bootBuiltins "list" = some (.type "list") := by decide +kernel

/-- count of a text in a list of texts -/
def rCntS (K : PySem.W.Frag) : V → List V → Hp → VK → Prop := fun x xs H Q => ∃ (p : Addr) (ys : List Str) (k : Str), x = .ref p ∧ xs = [.str k] ∧ SqL K H p (ys.map V.str) ∧ Q (.int (countIn (.str k) (ys.map PyData.str))) H
theorem mt_count_strs {X : Cx} : MtR X "list.count" (rCntS X.K) := by
  intro pins s σ H x xs v us Q I rx rs h
  obtain ⟨p, ys, k, rfl, rfl, hp, h⟩ := h
  cases rx
  cases rs with
  | cons r1 rs =>
    cases rs
    obtain ⟨t, rfl⟩ := r1
    obtain ⟨its, r, ⟨o, n, ho, hc, _, hd⟩, _⟩ := I.list hp
    exact count_list_strs (vs := its) ⟨o, ho, hc, n, hd⟩ (strs_of_vals r) ⟨.int _, H, I.tok _, ⟨_, rfl⟩, h⟩

/-! ### repr of data -/
def rRepr (K : PySem.W.Frag) : List V → Hp → VK → Prop := fun xs H Q => ∃ (a : Addr) (d : PyData), xs = [.ref a] ∧ Dp K H (.ref a) d ∧ d.showable = true ∧ d.hasDict = false ∧ d.depth ≤ 60 ∧ d.shown.length ≤ sizeLine ∧ Q (.str d.shown) H
theorem call_repr_data {X : Cx} {k : Nat} (guards : X.A.guards = some []) (hr : Room k X.A) : CallR X (.builtin "repr") (rRepr X.K) := by
  intro pins s σ H xs us Q I rel h
  obtain ⟨a, d, rfl, hd, shows, nodict, deep, small, h⟩ := h
  obtain ⟨u, rfl, ru⟩ := vals1 rel
  cases ru
  obtain ⟨as, reads⟩ := Dp.reads I d (.ref a) (.ref a) hd rfl
  have units := hr.units
  exact repr_of_reads' reads shows (PyData.noDict_hsm nodict) guards (by omega) (fun _ _ e => e) (fun h' u tk kept => ⟨.str d.shown, H, I.kept kept, ⟨_, rfl⟩, h⟩) small
end Pg

set_option maxRecDepth 100000
namespace Pg
open PySem PySem.Spec PyProof.Rows L2

/-! ### the end of a law's row for a law that wants no repr under way -/
section
variable {P : Program} {w : World} {K : PySem.W.Frag}
def scriptObj (vs : List Value) : Obj := { cls := .type "list", data := .seq vs.toArray }
/-- the script alone is known, if it is none of the module's own objects -/
def onlyScript (K : PySem.W.Frag) (a : Addr) (vs : List Value) (ns : List Int) : Hp := fun b => if b = a ∧ K.lookup a = none then some (.frz (scriptObj vs) (.lst (ns.map V.int))) else none
theorem onlyScript_some {a b : Addr} {vs : List Value} {ns : List Int} {u : HO} (h : onlyScript K a vs ns b = some u) : b = a ∧ K.lookup a = none ∧ u = .frz (scriptObj vs) (.lst (ns.map V.int)) := by
  unfold onlyScript at h
  split at h
  · rename_i c
    exact ⟨c.1, c.2, (Option.some.inj h).symm⟩
  · cases h
theorem onlyScript_none {a b : Addr} {vs : List Value} {ns : List Int} (h : b = a → K.lookup a ≠ none) : onlyScript K a vs ns b = none := if_neg fun c => h c.1 c.2
theorem onlyScript_only (a : Addr) (vs : List Value) (ns : List Int) : Only (onlyScript K a vs ns) := fun b => by
  cases e : onlyScript K a vs ns b with
  | none => exact .inl rfl
  | some u =>
    obtain ⟨_, _, rfl⟩ := onlyScript_some e
    exact .inr ⟨_, _, rfl⟩
theorem onlyScript_reads {h : Heap} {a : Addr} {vs : List Value} {ns : List Int} (inK : K.In h) (ha : h.get? a = some (scriptObj vs)) (hi : IntsAre vs ns) (small : ns.length ≤ sizeLine) : SqL K (onlyScript K a vs ns) a (ns.map V.int) := by
  cases e : K.lookup a with
  | none => exact .inl (.inr ⟨scriptObj vs, if_pos ⟨rfl, e⟩⟩)
  | some o =>
    obtain rfl : scriptObj vs = o := Option.some.inj (ha.symm.trans (inK a o e))
    refine .inr ⟨scriptObj vs, vs.toArray, _, e, rfl, rfl, rfl, ?_, ?_⟩
    · rw [List.size_toArray, hi.length]; exact small
    · rw [List.toList_toArray]; exact vals_ints hi
theorem onlyScript_ok {h : Heap} {a : Addr} {vs : List Value} {ns : List Int} (ha : h.get? a = some (scriptObj vs)) (hi : IntsAre vs ns) (small : ns.length ≤ sizeLine) : HOk P w (onlyScript K a vs ns) h := fun b u e => by
  obtain ⟨rfl, _, rfl⟩ := onlyScript_some e
  exact ⟨ha, by rw [List.length_map]; exact small, vs, _, vals_ints hi, ha⟩

theorem law_run {mg mb : Str → Option Value} {k : Nat} {fa a : Addr} {fd : FuncData} {x : Str} {sp : Sp} {s : Shared} {vs : List Value} {ns : List Int}
    (inK : K.In s.heap) (globals : s.heap.Ns mainGlobals mg) (blt : s.heap.Ns builtinsNs mb) (bltAre : ∀ x : Str, x ≠ "__name__" → mb x = bootBuiltins x) (nolimit : s.heap.NoLimit) (nogens : s.gens = #[])
    (ha : s.heap.get? a = some (scriptObj vs)) (hi : IntsAre vs ns) (small : ns.length ≤ sizeLine) (room : Room k callerA)
    (F : ∀ base : Heap, K.In base → base.Ns mainGlobals mg → FnG P w K mg base CX0 k fa fd [x] sp) (bind : ∀ (s : Shared) (u : Value), BindsTo s fd ⟨[u], []⟩ [(x, u)])
    (kept : ∀ H : Hp, Only H → SqL K H a (ns.map V.int) → sp [.ref a] H (fun v _ => v = .bl true) fun _ _ _ => False) :
    codeAny (model P w) callerA (.call (.ref fa) ⟨[.ref a], []⟩) (fun r s' => r = .ok (.ret (.bool true)) ∧ OldK s.heap s'.heap ∧ s'.os = s.os ∧ AllBare s'.gens) s := by
  have ok : HOk P w (onlyScript K a vs ns) s.heap := onlyScript_ok ha hi small
  have only := onlyScript_only (K := K) a vs ns
  have free : ∀ {b : Addr} {o : Obj} {es : Array DictEntry} {ep : Nat}, s.heap.get? b = some o → o.data = .dict es ep → onlyScript K a vs ns b = none := fun {b o es ep} e d => onlyScript_none fun z => by
    subst z
    obtain rfl : scriptObj vs = o := Option.some.inj (ha.symm.trans e)
    cases d
  have space : ∀ {b : Addr} {m : Str → Option Value}, s.heap.Ns b m → (hidT s.heap (onlyScript K a vs ns)).Ns b m := fun {b m} q => by
    obtain ⟨o, es, ep, e, d, rest⟩ := q
    exact ⟨o, es, ep, hidT_get e (free e d), d, rest⟩
  have inBase : K.In (hidT s.heap (onlyScript K a vs ns)) := fun b o e => hidT_get (inK b o e) (onlyScript_none fun z => by
    subst z
    rw [e]
    exact fun y => nomatch y)
  have mod : Mod K mg (hidT s.heap (onlyScript K a vs ns)) := ⟨inBase, space globals, ⟨mb, space blt, bltAre⟩, by
    obtain ⟨mc, h1, h2⟩ := nolimit
    exact ⟨mc, space h1, h2⟩⟩
  have env : Env0 P w K mg (hidT s.heap (onlyScript K a vs ns)) callerA [] s (onlyScript K a vs ns) :=
    ⟨rfl, mod, fun b o e => of_hidT e, Nat.le_of_eq (hidT_size _ _), trivial, (fun b hb => by cases hb), ok, .of_eq nogens⟩
  have run := (F _ inBase (space globals)).go callerA [] s (onlyScript K a vs ns) ⟨[.ref a], []⟩ [.ref a] [.ref a] _ _ rfl room env (bind s (.ref a)) (.cons rfl .nil) (kept _ only (onlyScript_reads inK ha hi small))
  refine codeAny_mono run fun r s' got => ?_
  match r, got with
  | .error e, got => exact got.elim
  | .ok .next, got => exact got.elim
  | .ok .brk, got => exact got.elim
  | .ok .cont, got => exact got.elim
  | .ok (.ret u), got =>
    obtain ⟨v, H2, os, bare, un, ok2, rel, q⟩ := got
    subst q
    obtain rfl : u = Value.bool true := rel
    refine ⟨rfl, OldK.of_keep fun b o e => ?_, os, bare⟩
    rcases only b with none_ | ⟨ob, xs, some_⟩
    · exact un.keep b o e none_ (by intro z; cases z) (by intro z; cases z)
    · have before := (ok b _ some_).1
      have behind := (ok2 b _ (un.frzs b ob _ some_)).1
      rw [← Option.some.inj (before.symm.trans e)]
      exact behind
end
theorem walk_ofG {l : PySem.W.OpenLaw} {n k : Nat} {q : Program} {loose : List Str} {XP : (Str → Option Value) → Heap → Prop} {YP : World → Heap → Prop} {d : DefRec} {K : Params → PySem.W.Frag} {sp : World → Sp} {x : Str}
    (most : l.most = some n) (small : n ≤ sizeLine) (plain : d.params.defaults = []) (room : Room k callerA) (inK : ∀ (w : World) (h : Heap), YP w h → (K w.params).In h)
    (F : ∀ (w : World) (mg : Str → Option Value) (fa : Addr) (h : Heap), (K w.params).In h → h.Ns mainGlobals mg → mg d.name = some (.ref fa) →
      ∃ fd : FuncData, (∀ (s : Shared) (u : Value), BindsTo s fd ⟨[u], []⟩ [(x, u)]) ∧ ∀ base : Heap, (K w.params).In base → base.Ns mainGlobals mg → FnG l.prog w (K w.params) mg base CX0 k fa fd [x] (sp w))
    (kept : ∀ (w : World) (H : Hp) (a : Addr) (ns : List Int), ns.length ≤ n → (∀ z ∈ ns, Builtin.Int.intBits z ≤ 1048576) → Only H → SqL (K w.params) H a (ns.map V.int) → sp w [.ref a] H (fun v _ => v = .bl true) fun _ _ _ => False) :
    PySem.W.WalkO q loose XP YP l.row.toRowW d [] (fun f vs => PySem.call f vs) := by
  refine Att.attach_callB most plain fun w s₀ s₁ mg mb fa o pm cd doc a vs ns G Y ho hd hcd hmg hobj hints hlen hbits hg => ?_
  obtain ⟨fd, bind, made⟩ := F w mg fa _ (inK w _ Y) G.T.g hmg
  exact law_run (inK w _ Y) G.T.g G.T.b G.T.builtins G.T.nolimit hg hobj hints (Nat.le_trans hlen small) room made bind fun H only reads => kept w H a ns hlen hbits only reads
end Pg

set_option maxRecDepth 100000
/-! Readings of defs that change nothing that stood: what evaluates to what, data, comprehensions. -/
namespace Pg
open PySem PySem.Spec PyProof.Rows L2 Evl

/-! ### data -/
section
variable {K : PySem.W.Frag} {H H' : Hp}
mutual
theorem dp_mono (e : Evl.Ex H H') : ∀ (d : PyData) (v : V), Dp K H v d → Dp K H' v d
  | .none, _, .non => .non
  | .bool b, _, .bl _ => .bl b
  | .int i, _, .int _ => .int i
  | .str x, _, .str _ => .str x
  | .list ds, _, .lst h k => .lst (ex_l e h) (dps_mono e ds _ k)
  | .tuple ds, _, .tup h k => .tup (ex_t e h) (dps_mono e ds _ k)
  | .dict _, _, h => nomatch h
theorem dps_mono (e : Evl.Ex H H') : ∀ (ds : List PyData) (vs : List V), DpAll K H vs ds → DpAll K H' vs ds
  | [], _, .nil => .nil
  | d :: ds, _, .cons h k => .cons (dp_mono e d _ h) (dps_mono e ds _ k)
end
theorem dps_append : ∀ {vs us : List V} {ds es : List PyData}, DpAll K H vs ds → DpAll K H us es → DpAll K H (vs ++ us) (ds ++ es)
  | _, _, _, _, .nil, k => k
  | _, _, _, _, .cons h t, k => .cons h (dps_append t k)
theorem dps_length : ∀ {vs : List V} {ds : List PyData}, DpAll K H vs ds → vs.length = ds.length
  | _, _, .nil => rfl
  | _, _, .cons _ t => by rw [List.length_cons, List.length_cons, dps_length t]
theorem dps_strs : ∀ ys : List Str, DpAll K H (ys.map V.str) (ys.map PyData.str)
  | [] => .nil
  | y :: ys => .cons (.str y) (dps_strs ys)
end

/-! ### evaluation to data -/
def EvD (K : PySem.W.Frag) (te : TE) (σ : L2.St) (H : Hp) (d : PyData) : Prop := ∀ H1, Evl.Ex H H1 → ∀ Q : VK, (∀ v H2, Evl.Ex H1 H2 → Dp K H2 v d → Q v H2) → te σ H1 Q
def EvDs (K : PySem.W.Frag) (ta : TA) (σ : L2.St) (H : Hp) (ds : List PyData) : Prop := ∀ H1, Evl.Ex H H1 → ∀ Q : List V → Hp → Prop, (∀ vs H2, Evl.Ex H1 H2 → DpAll K H2 vs ds → Q vs H2) → ta σ H1 Q
/-- what a promise says that hands back data -/
def RetD (K : PySem.W.Frag) (d : PyData) (H : Hp) (Q : VK) : Prop := ∀ v H', Evl.Ex H H' → Dp K H' v d → Q v H'
section
variable {K : PySem.W.Frag} {σ : L2.St} {H H' : Hp} {te ta tb : TE} {t u : TT} {v : V} {d : PyData} {ds : List PyData} {D : Ends}
theorem RetD.ex {Q : VK} (k : RetD K d H Q) (e : Evl.Ex H H') : RetD K d H' Q := fun v H2 e2 h => k v H2 (e.trans e2) h
theorem RetD.go {Q : VK} (k : RetD K d H Q) (e : Evl.Ex H H') (h : Dp K H' v d) : Q v H' := k v H' e h
theorem EvD.of (h : Ev te σ H v) (k : Dp K H v d) : EvD K te σ H d := fun H1 e Q q => h H1 e Q fun H2 e2 => q v H2 e2 (dp_mono (e.trans e2) d v k)
theorem EvD.str {x : Str} (h : Ev te σ H (.str x)) : EvD K te σ H (.str x) := .of h (.str x)
theorem EvD.int {i : Int} (h : Ev te σ H (.int i)) : EvD K te σ H (.int i) := .of h (.int i)
theorem EvD.bool {b : Bool} (h : Ev te σ H (.bl b)) : EvD K te σ H (.bool b) := .of h (.bl b)
theorem EvD.non (h : Ev te σ H .non) : EvD K te σ H .none := .of h .non
theorem EvD.var {i : Nat} (h : σ[i]? = some (some v)) (k : Dp K H v d) : EvD K (tVar i) σ H d := .of (ev_var h) k
theorem EvDs.nil : EvDs K tNil σ H [] := fun H1 _ _ q => q [] H1 (Evl.Ex.refl H1) .nil
theorem EvDs.cons {tr : TA} (h : EvD K te σ H d) (hr : EvDs K tr σ H ds) : EvDs K (tCons te tr) σ H (d :: ds) := fun H1 e Q q =>
  h H1 e _ fun v H2 e2 hd => hr H2 (e.trans e2) _ fun vs H3 e3 hds => q (v :: vs) H3 (e2.trans e3) (.cons (dp_mono e3 d v hd) hds)
theorem EvD.tup {ta : TA} (h : EvDs K ta σ H ds) (n : ds.length ≤ 100000) : EvD K (tTup ta) σ H (.tuple ds) := fun H1 e Q q =>
  h H1 e _ fun vs H2 e2 hds => ⟨sz_of (by rw [dps_length hds]; exact n), fun p hp => q (.ref p) _ (e2.trans (Evl.Ex.new hp)) (.tup (st_of upd_same) (dps_mono (Evl.Ex.new hp) ds vs hds))⟩
theorem EvD.call {sp : Sp} {E : XK} {ta : TA} {vs : List V} (h : EvA ta σ H vs) (hs : ∀ H1, Evl.Ex H H1 → ∀ Q : VK, RetD K d H1 Q → ∀ E : XK, sp vs H1 Q E) : EvD K (tCall sp [] E ta) σ H d := fun H1 e Q q =>
  h H1 e _ fun H2 e2 => by rw [List.append_nil]; exact hs H2 (e.trans e2) Q (fun v H3 e3 hd => q v H3 (e2.trans e3) hd) E
theorem s_retD (h : EvD K te σ H d) (k : RetD K d H D.rt) : tRet te D σ H := h H (Evl.Ex.refl H) _ fun v H1 e hd => k v H1 e hd
theorem q_asgD {tz : TS} {i : Nat} (h : EvD K te σ H d) (k : ∀ v H1, Evl.Ex H H1 → Dp K H1 v d → tz D (σ.set i (some v)) H1) : tSeq (tAsg te (gName i)) tz D σ H := h H (Evl.Ex.refl H) _ fun v H1 e hd => k v H1 e hd
/-- a list that stands -/
theorem EvD.tupleOf {ta : TA} {p : Addr} {vs : List V} (h : EvA ta σ H [.ref p]) (hp : SqL K H p vs) (hd : DpAll K H vs ds) :
    EvD K (tCB (fun xs H Q => ∃ p ys, xs = [.ref p] ∧ ((SqL K H p ys ∧ ∀ l, H l = none → Q (.ref l) (upd H l (.tup ys))) ∨ (SqT K H p ys ∧ Q (.ref p) H))) ta) σ H (.tuple ds) := fun H1 e Q q =>
  h H1 e _ fun H2 e2 => ⟨p, vs, rfl, .inl ⟨ex_l (e.trans e2) hp, fun l hl => q (.ref l) _ (e2.trans (Evl.Ex.new hl)) (.tup (st_of upd_same) (dps_mono ((e.trans e2).trans (Evl.Ex.new hl)) ds vs hd))⟩⟩

/-! ### built-in calls -/
theorem ev_cbv {r : List V → Hp → VK → Prop} {ta : TA} {vs : List V} (h : EvA ta σ H vs) (hr : ∀ H1, Evl.Ex H H1 → ∀ Q : VK, Q v H1 → r vs H1 Q) : Ev (tCB r ta) σ H v :=
  ev_cb h fun H1 e Q q => hr H1 e Q (q H1 (Evl.Ex.refl H1))
theorem ev_lenStr {ta : TA} {x : Str} (h : EvA ta σ H [.str x]) (n : x.length ≤ 100000) : Ev (tCB (fun xs H Q => ∃ x, xs = [.str x] ∧ x.length ≤ sizeLine ∧ Q (.int x.length) H) ta) σ H (.int (x.length : Int)) :=
  ev_cbv h fun _ _ _ q => ⟨x, rfl, sz_of n, q⟩
theorem ev_lenL {ta : TA} {p : Addr} {xs : List V} (h : EvA ta σ H [.ref p]) (hp : SqL K H p xs) : Ev (tCB (rLenS K) ta) σ H (.int (xs.length : Int)) :=
  ev_cbv h fun _ e _ q => ⟨p, xs, rfl, .inl (ex_l e hp), q⟩
theorem ev_lenEL {xs : List V} (h : EvL te σ H xs) : Ev (tCB (rLenS K) (tCons te tNil)) σ H (.int (xs.length : Int)) := ev_lenN h
theorem ev_allEL {bs : List Bool} (h : EvL te σ H (bs.map V.bl)) : Ev (tCB (rAll K) (tCons te tNil)) σ H (.bl (bs.all id)) := fun H1 e Q q =>
  h H1 e _ fun p H2 _ e2 hp => ⟨p, bs, rfl, sq_of hp, q H2 e2⟩

/-! ### comprehensions -/
theorem range_getD {α : Type} (d : α) (l : List α) : (List.range l.length).map (fun i => l.getD i d) = l := by
  refine List.ext_getElem (by rw [List.length_map, List.length_range]) fun i h1 h2 => ?_
  rw [List.getElem_map, List.getElem_range, List.getD_eq_getElem?_getD, List.getElem?_eq_getElem h2] <;> rfl
theorem given_filter {α : Type} (f : α → Bool) (g : α → V) (d : α) (l : List α) : given l.length (fun i => f (l.getD i d)) (fun i => g (l.getD i d)) = (l.filter f).map g := by
  have e := range_getD d l
  unfold given
  conv => rhs; rw [← e]
  rw [List.filter_map, List.map_map] <;> rfl
/-- over a list of ys, each standing there as g y -/
theorem el_lcM {α : Type} (d : α) {a : Addr} {ys : List α} {g : α → V} {tl : TE} {j : Nat} {vs : List Nat} (f : α → Bool) (r : α → V) (h : Ev tl σ H (.ref a)) (hx : SqL K H a (ys.map g)) (hz : ys.length ≤ 40000) (hw : ∀ x, wipe ((wipe σ vs).set j (some x)) vs = wipe σ vs)
    (ht : ∀ y H1, Evl.Ex H H1 → y ∈ ys → EvT t ((wipe σ vs).set j (some (g y))) H1 (f y)) (he : ∀ y H1, Evl.Ex H H1 → y ∈ ys → f y = true → Ev te ((wipe σ vs).set j (some (g y))) H1 (r y)) :
    EvL (tLc (iList K tl) (gName j) t te vs) σ H ((ys.filter f).map r) := by
  have key := el_lcL (K := K) (σ := σ) (H := H) (t := t) (te := te) (vs := vs) (j := j) (fun i => f (ys.getD i d)) (fun i => r (ys.getD i d)) h hx (by rw [List.length_map]; exact hz) hw
    (fun i x H1 e hi => by
      obtain ⟨y, hy, rfl⟩ := List.getElem?_map .. ▸ hi |> Option.map_eq_some_iff.mp
      have e2 : ys.getD i d = y := by rw [List.getD_eq_getElem?_getD, hy] <;> rfl
      rw [e2]
      exact ht y H1 e (List.mem_of_getElem? hy))
    (fun i x H1 e hi hf => by
      obtain ⟨y, hy, rfl⟩ := List.getElem?_map .. ▸ hi |> Option.map_eq_some_iff.mp
      have e2 : ys.getD i d = y := by rw [List.getD_eq_getElem?_getD, hy] <;> rfl
      rw [e2] at hf ⊢
      exact he y H1 e (List.mem_of_getElem? hy) hf)
  rw [List.length_map, given_filter] at key
  exact key
/-- over a text, sign by sign -/
theorem el_lcS {x : Str} {ts : TE} {j : Nat} {vs : List Nat} (f : Nat → Bool) (r : Nat → V) (h : Ev ts σ H (.str x)) (hz : x.length ≤ 40000) (hw : ∀ x, wipe ((wipe σ vs).set j (some x)) vs = wipe σ vs)
    (ht : ∀ c H1, Evl.Ex H H1 → c ∈ x.cps.toList → EvT t ((wipe σ vs).set j (some (.str ⟨#[c]⟩))) H1 (f c)) (he : ∀ c H1, Evl.Ex H H1 → c ∈ x.cps.toList → f c = true → Ev te ((wipe σ vs).set j (some (.str ⟨#[c]⟩))) H1 (r c)) :
    EvL (tLc (iStr ts) (gName j) t te vs) σ H ((x.cps.toList.filter f).map r) := fun H0 e Q q => h H0 e _ fun H1 e1 => ⟨x, rfl, fun Dl hD => by
  have hlen : x.cps.size = x.cps.toList.length := by simp
  have small : x.cps.size ≤ 40000 := hz
  refine lc_it (walk_str (z := x)) (Cw H1 (fun i => f (x.cps.toList.getD i 0)) (fun i => r (x.cps.toList.getD i 0)) Dl) ⟨hD, Evl.Ex.new hD, upd_same⟩ (fun _ _ _ _ => trivial) (fun i v Ha Hb hi p y => ?_) (fun H' p => ?_)
  · obtain ⟨rfl, c, hc, rfl⟩ := y
    have e2 : x.cps.toList.getD i 0 = c := by rw [List.getD_eq_getElem?_getD, Array.getElem?_toList, hc] <;> rfl
    have mem : c ∈ x.cps.toList := List.mem_of_getElem? (by rw [Array.getElem?_toList]; exact hc)
    refine ⟨hw _, cw_turn p (by omega) ?_ fun hf => ?_⟩
    · show EvT t _ H1 (f (x.cps.toList.getD i 0))
      rw [e2]
      exact ht c H1 (e.trans e1) mem
    · show Ev te _ H1 (r (x.cps.toList.getD i 0))
      rw [e2]
      exact he c H1 (e.trans e1) mem (by rw [← e2]; exact hf)
  · have done := p.2.2
    rw [hlen, given_filter] at done
    exact q Dl H' (fresh_back e1 p.1) (e1.trans p.2.1) done⟩
/-- one sign in a text -/
def rInSg : R2 := fun x y H Q => ∃ (c : Nat) (z : Str), x = .str ⟨#[c]⟩ ∧ y = .str z ∧ Q (.bl (decide (c ∈ z.cps.toList))) H
theorem rv_inSg {c : Nat} {z : Str} : RV rInSg (.str ⟨#[c]⟩) (.str z) H (.bl (decide (c ∈ z.cps.toList))) := rv_val fun _ _ _ q => ⟨c, z, rfl, rfl, q⟩
/-- a op b op' c -/
theorem ev_chain {r r' : R2} {tc : TE} {x y z : V} {k m : Bool} (ha : Ev ta σ H x) (hb : Ev tb σ H y) (hr : RV r x y H (.bl k)) (hc : k = true → Ev tc σ H z) (hr' : k = true → RV r' y z H (.bl m)) :
    Ev (tChain r r' ta tb tc) σ H (.bl (k && m)) := fun H1 e Q q => ha H1 e _ fun H2 e2 => hb H2 (e.trans e2) _ fun H3 e3 => hr H3 ((e.trans e2).trans e3) _ fun H4 e4 => ⟨k, rfl, by
  have all := ((e.trans e2).trans e3).trans e4
  have back := (e2.trans e3).trans e4
  cases k with
  | true =>
    show tc σ H4 _
    exact hc rfl H4 all _ fun H5 e5 => hr' rfl H5 (all.trans e5) Q fun H6 e6 => q H6 ((back.trans e5).trans e6)
  | false => exact q H4 back⟩
theorem et_yes : EvT tYes σ H true := fun H1 _ _ q => q H1 (Evl.Ex.refl H1)
/-! ### data without lists stays where lists change -/
mutual
def pureD : PyData → Bool
  | .list _ | .dict _ => false
  | .tuple ds => pureDs ds
  | _ => true
def pureDs : List PyData → Bool
  | [] => true
  | d :: ds => pureD d && pureDs ds
end
theorem sqT_upd {p a : Addr} {xs ys zs : List V} (hp : H p = some (.lst xs)) (h : SqT K H a zs) : SqT K (upd H p (.lst ys)) a zs := by
  rcases h with (h | ⟨o, h⟩) | h
  · exact .inl (.inl (by rw [upd_ne (ne_of h hp (by intro z; cases z))]; exact h))
  · exact .inl (.inr ⟨o, by rw [upd_ne (ne_of h hp (by intro z; cases z))]; exact h⟩)
  · exact .inr h
mutual
theorem dp_upd {p : Addr} {xs ys : List V} (hp : H p = some (.lst xs)) : ∀ (d : PyData) (v : V), pureD d = true → Dp K H v d → Dp K (upd H p (.lst ys)) v d
  | .none, _, _, .non => .non
  | .bool b, _, _, .bl _ => .bl b
  | .int i, _, _, .int _ => .int i
  | .str x, _, _, .str _ => .str x
  | .list _, _, hd, _ => by simp only [pureD] at hd; cases hd
  | .tuple ds, _, hd, .tup h k => .tup (sqT_upd hp h) (dps_upd hp ds _ (by simpa only [pureD] using hd) k)
  | .dict _, _, _, h => nomatch h
theorem dps_upd {p : Addr} {xs ys : List V} (hp : H p = some (.lst xs)) : ∀ (ds : List PyData) (vs : List V), pureDs ds = true → DpAll K H vs ds → DpAll K (upd H p (.lst ys)) vs ds
  | [], _, _, .nil => .nil
  | d :: ds, _, hd, .cons h k => by
    simp only [pureDs, Bool.and_eq_true] at hd
    exact .cons (dp_upd hp d _ hd.1 h) (dps_upd hp ds _ hd.2 k)
end
theorem pureDs_append : ∀ {ds es : List PyData}, pureDs ds = true → pureDs es = true → pureDs (ds ++ es) = true
  | [], _, _, h => h
  | d :: ds, es, h, k => by
    simp only [pureDs, Bool.and_eq_true] at h
    show (pureD d && pureDs (ds ++ es)) = true
    rw [h.1, pureDs_append h.2 k] <;> rfl
theorem pureDs_strs : ∀ ys : List Str, pureDs (ys.map PyData.str) = true
  | [] => rfl
  | y :: ys => by
    show (pureD (.str y) && pureDs (ys.map PyData.str)) = true
    rw [pureDs_strs ys] <;> rfl

/-! ### statements -/
/-- xs.append(e), e data -/
theorem s_appD {l : Addr} {xs : List V} (hl : H l = some (.lst xs)) (ha : Ev ta σ H (.ref l)) (h : EvD K te σ H d) (hz : xs.length < 100000)
    (k : ∀ v H1, Evl.Ex H H1 → Dp K H1 v d → H1 l = some (.lst xs) → D.nx σ (upd H1 l (.lst (xs ++ [v])))) : tDrop (tBM K "list" rAppend ta (tCons te tNil)) D σ H := ha H (Evl.Ex.refl H) _ fun H1 e1 =>
  ⟨Or.inl ⟨rfl, xs, sq_of (e1 l _ hl)⟩, h H1 e1 _ fun v H2 e2 hd => ⟨l, xs, v, rfl, rfl, e2 l _ (e1 l _ hl), sz_lt hz, k v H2 (e1.trans e2) hd (e2 l _ (e1 l _ hl))⟩⟩
theorem s_forR3 {tu : TS} {ta : TA} {j : Nat} {lo m c : Int} {n : Nat} (h : EvA ta σ H [.int lo, .int m, .int c]) (hn : RgC lo m c n) (Pv : Nat → L2.St → Hp → Prop) (h0 : ∀ H1, Evl.Ex H H1 → Pv 0 σ H1)
    (hs : ∀ (i : Nat) σ' H', i < n → Pv i σ' H' → tu { D with nx := Pv (i + 1), ct := Pv (i + 1), bk := D.nx } (σ'.set j (some (.int (lo + (i : Nat) * c)))) H') (hd : ∀ σ' H', Pv n σ' H' → D.nx σ' H') : tFor (iRng3 ta) (gName j) tu D σ H :=
  h H (Evl.Ex.refl H) _ fun H1 e => ⟨lo, m, c, n, rfl, hn, for_rangeC Pv (h0 H1 e) hs hd⟩
theorem rs2 (m : Nat) : Builtin.Range.rangeSize 0 (m : Int) 2 = (((m + 1) / 2 : Nat) : Int) := by
  unfold Builtin.Range.rangeSize
  rw [if_pos (by decide)]
  by_cases z : (0 : Int) < (m : Int)
  · rw [if_pos z]
    omega
  · rw [if_neg z]
    omega
/-- range(0, m, 2) -/
theorem rg2 {m : Nat} (h : m ≤ 10000) : RgC 0 (m : Int) 2 ((m + 1) / 2) := by
  refine ⟨by decide, by decide, ?_, rs2 m⟩
  unfold Builtin.Range.small
  rw [rs2]
  unfold Builtin.Range.rangeFitsLong
  have big : (20000 : Int) ≤ 2 ^ 63 := by decide
  generalize (2 : Int) ^ 63 = B at big ⊢
  rw [if_pos (by decide)]
  simp only [Bool.and_eq_true, Bool.or_eq_true, decide_eq_true_eq, beq_iff_eq]
  omega
/-! ### slices, methods, stars -/
theorem cutV_take (xs : List V) (n : Nat) : cutV xs none (some (n : Int)) = xs.take n := by
  unfold cutV
  rw [HT.sIx_none, HT.sIx_nat, List.drop_zero, Nat.sub_zero]
  by_cases h : n ≤ xs.length
  · rw [Nat.min_eq_left h]
  · rw [Nat.min_eq_right (by omega), List.take_length, List.take_of_length_le (by omega)]
theorem cutV_drop (xs : List V) (n : Nat) : cutV xs (some (n : Int)) none = xs.drop n := by
  unfold cutV
  rw [HT.sIx_none, HT.sIx_nat]
  by_cases h : n ≤ xs.length
  · rw [Nat.min_eq_left h, List.take_of_length_le (by rw [List.length_drop]; omega)]
  · rw [Nat.min_eq_right (by omega), List.drop_length, List.take_nil, List.drop_eq_nil_of_le (by omega)]
theorem el_take {p : Addr} {xs : List V} {n : Nat} (h : Ev te σ H (.ref p)) (hb : Ev tb σ H (.int (n : Int))) (hp : SqL K H p xs) : EvL (tSl (rSlL K) te tNoPart (tPart tb)) σ H (xs.take n) := by
  have := el_sl h eo_none (eo_some hb) hp
  rw [cutV_take] at this
  exact this
theorem el_drop {p : Addr} {xs : List V} {n : Nat} (h : Ev te σ H (.ref p)) (hb : Ev tb σ H (.int (n : Int))) (hp : SqL K H p xs) : EvL (tSl (rSlL K) te (tPart tb) tNoPart) σ H (xs.drop n) := by
  have := el_sl h (eo_some hb) eo_none hp
  rw [cutV_drop] at this
  exact this
/-- a text from a place on -/
theorem ev_dropS {x : Str} {n : Nat} (h : Ev te σ H (.str x)) (hb : Ev tb σ H (.int (n : Int))) (hx : x.length ≤ 100000) : Ev (tSl rSlS te (tPart tb) tNoPart) σ H (.str (cutS x (some (n : Int)) none)) := fun H1 e Q q =>
  h H1 e _ fun H2 e2 => hb H2 (e.trans e2) _ fun H3 e3 => ⟨(n : Int), rfl, ⟨x, rfl, sz_of hx, q H3 (e2.trans e3)⟩⟩
theorem tl_dropS (x : Str) (n : Nat) : TL.tl (cutS x (some (n : Int)) none) = (TL.tl x).drop n := by
  show ((x.cps.toList.drop (HT.sIx x.length 0 (some (n : Int)))).take (HT.sIx x.length x.length none - HT.sIx x.length 0 (some (n : Int)))) = x.cps.toList.drop n
  have e : x.length = x.cps.toList.length := by
    show x.cps.size = _
    simp
  rw [HT.sIx_none, HT.sIx_nat, e]
  by_cases h : n ≤ x.cps.toList.length
  · rw [Nat.min_eq_left h, List.take_of_length_le (by rw [List.length_drop]; omega)]
  · rw [Nat.min_eq_right (by omega), List.drop_length, List.take_nil, List.drop_eq_nil_of_le (by omega)]
/-- a method of a list, that changes nothing -/
theorem ev_bmL {r : V → List V → Hp → VK → Prop} {t : TA} {p : Addr} {xs vs : List V} {z : V} (ha : Ev ta σ H (.ref p)) (hp : SqL K H p xs) (hb : EvA t σ H vs) (hr : ∀ H1, Evl.Ex H H1 → ∀ Q : VK, Q z H1 → r (.ref p) vs H1 Q) :
    Ev (tBM K "list" r ta t) σ H z := fun H1 e Q q => ha H1 e _ fun H2 e2 => ⟨.inl ⟨rfl, xs, ex_l (e.trans e2) hp⟩, hb H2 (e.trans e2) _ fun H3 e3 => hr H3 ((e.trans e2).trans e3) Q (q H3 (e2.trans e3))⟩
/-- a call with one new list -/
theorem EvD.callL {sp : Sp} {E : XK} {xs : List V} (h : EvL te σ H xs) (hs : ∀ p H1, Evl.Ex H H1 → H1 p = some (.lst xs) → ∀ Q : VK, RetD K d H1 Q → ∀ E : XK, sp [.ref p] H1 Q E) : EvD K (tCall sp [] E (tCons te tNil)) σ H d := fun H1 e Q q =>
  h H1 e _ fun p H2 _ e2 hp => by
    show sp ([V.ref p] ++ []) H2 Q E
    rw [List.append_nil]
    exact hs p H2 (e.trans e2) hp Q (fun v H3 e3 hd => q v H3 (e2.trans e3) hd) E
theorem EvDs.star {tr : TA} {xs : List V} {es : List PyData} (h : EvL te σ H xs) (hx : ∀ H1, Evl.Ex H H1 → DpAll K H1 xs ds) (hr : EvDs K tr σ H es) : EvDs K (StX.tStar K te tr) σ H (ds ++ es) := fun H1 e Q q =>
  h H1 e _ fun p H2 _ e2 hp => ⟨p, xs, rfl, .inr (sq_of hp), hr H2 (e.trans e2) _ fun vs H3 e3 hds => q (xs ++ vs) H3 (e2.trans e3) (dps_append (hx H3 ((e.trans e2).trans e3)) hds)⟩
theorem dp_non {v : V} (h : Dp K H v .none) : v = .non := by
  cases h
  rfl
theorem dp_ref {v : V} (h : Dp K H v (.tuple ds)) : v ≠ .non := by
  cases h
  exact fun z => nomatch z
/-- x is None, of data -/
theorem ev_isN {i : Nat} (h : σ[i]? = some (some v)) : Ev (tOp (fun x y H Q => y = .non ∧ Q (.bl (decide (x = .non))) H) (tVar i) (tC .non)) σ H (.bl (decide (v = .non))) :=
  ev_op (ev_var h) ev_c (rv_val fun _ _ _ q => ⟨rfl, q⟩)
end
/-! ### constants of the module -/
section
variable {X : Cx} {x : Str} {pos : Pos}
theorem pe_globS {y : Str} (hg : Gl X x) (h : ∃ t, X.mg x = some (.str y t)) (hd : (x == ("__debug__" : Str)) = false := by decide) : PE X (.Name x pos) (tC (.str y)) := by
  obtain ⟨t, h⟩ := h
  exact pe_glob hg h ⟨_, rfl⟩ hd
theorem pe_globI {y : Int} (hg : Gl X x) (h : ∃ t, X.mg x = some (.int y t)) (hd : (x == ("__debug__" : Str)) = false := by decide) : PE X (.Name x pos) (tC (.int y)) := by
  obtain ⟨t, h⟩ := h
  exact pe_glob hg h ⟨_, rfl⟩ hd
theorem pe_globR {a : Addr} (hg : Gl X x) (h : X.mg x = some (.ref a)) (hd : (x == ("__debug__" : Str)) = false := by decide) : PE X (.Name x pos) (tC (.ref a)) := pe_glob (v := .ref a) hg h rfl hd
end
/-! ### rules whose readings name the written part, for blocks of comprehensions -/
section
variable {X : Cx} {K : PySem.W.Frag}
theorem call_len_seqK (h : X.K = K) : CallR X (.builtin "len") (fun xs H Q => ∃ p ys, xs = [.ref p] ∧ (SqL K H p ys ∨ SqT K H p ys) ∧ Q (.int ys.length) H) := by
  subst h
  exact call_len_seq
theorem ix_listK (h : X.K = K) : IxR X (rIxL K) := by
  subst h
  exact ix_list
theorem ix_tupK (h : X.K = K) : IxR X (rIxT K) := by
  subst h
  exact ix_tup
theorem ix_seqK (h : X.K = K) : IxR X (rIx K) := by
  subst h
  exact ix_seq
theorem op_in_seqK (h : X.K = K) : OpR X (compareOp .In) (rIn K false) := by
  subst h
  exact op_in_seq
theorem op_notIn_seqK (h : X.K = K) : OpR X (compareOp .NotIn) (rIn K true) := by
  subst h
  exact op_notIn_seq
theorem cr_allK (h : X.K = K) (hc : X.calm = true) : CallR X (.builtin "all") (rAll K) := by
  subst h
  exact cr_all hc
theorem sl_listK (h : X.K = K) : SlR X (rSlL K) := by
  subst h
  exact sl_list
end
end Pg

set_option maxRecDepth 100000
/-! The mathematics of law_k80: words of a line, what a line means. No program here. -/
namespace K80
open PySem L2 TL

/-! ### lines and words -/
theorem pre1 (s c : Nat) (r : List Nat) : pre [s] (c :: r) = decide (c = s) := by
  show (([c] : List Nat) == [s]) = decide (c = s)
  by_cases h : c = s
  · subst h
    rw [decide_eq_true rfl]
    exact beq_self_eq_true _
  · rw [decide_eq_false h]
    refine beq_eq_false_iff_ne.mpr fun e => h ?_
    injection e
theorem spl1 (s c : Nat) (acc r : List Nat) : spl [s] 0 acc (c :: r) = if c = s then acc :: spl [s] 0 [] r else spl [s] 0 (acc ++ [c]) r := by
  by_cases h : c = s
  · rw [if_pos h]
    exact spl_hit (by rw [pre1]; exact decide_eq_true h)
  · rw [if_neg h]
    exact spl_miss (by rw [pre1]; exact decide_eq_false h)
theorem spl_ne (s : Nat) : ∀ (l acc : List Nat), spl [s] 0 acc l ≠ []
  | [], acc => by rw [spl_nil]; simp
  | c :: r, acc => by
    rw [spl1]
    split
    · simp
    · exact spl_ne s r _
theorem joinL_spl (s : Nat) : ∀ (l acc : List Nat), joinL [s] (spl [s] 0 acc l) = acc ++ l
  | [], acc => by rw [spl_nil, List.append_nil] <;> rfl
  | c :: r, acc => by
    rw [spl1]
    by_cases h : c = s
    · rw [if_pos h]
      have ih := joinL_spl s r []
      cases e : spl [s] 0 [] r with
      | nil => exact absurd e (spl_ne s r [])
      | cons p q =>
        rw [e] at ih
        show acc ++ ([s] ++ joinL [s] (p :: q)) = acc ++ c :: r
        rw [ih, h] <;> rfl
    · rw [if_neg h, joinL_spl s r, List.append_assoc] <;> rfl
theorem spl_clean (s : Nat) : ∀ (l acc : List Nat), s ∉ acc → ∀ p ∈ spl [s] 0 acc l, s ∉ p
  | [], acc, h, p, hp => by
    rw [spl_nil] at hp
    rw [List.mem_singleton.mp hp]
    exact h
  | c :: r, acc, h, p, hp => by
    rw [spl1] at hp
    by_cases hc : c = s
    · rw [if_pos hc] at hp
      rcases List.mem_cons.mp hp with e | hp
      · rw [e]; exact h
      · exact spl_clean s r [] (by simp) p hp
    · rw [if_neg hc] at hp
      refine spl_clean s r _ (fun hm => ?_) p hp
      rcases List.mem_append.mp hm with hm | hm
      · exact h hm
      · exact hc (List.mem_singleton.mp hm).symm

abbrev SP : Str := " "
theorem tl_SP : tl SP = [32] := by decide +kernel
theorem SP_kind : SP.cps.all (· < 256) = true := by decide +kernel
def wordsOf (x : Str) : List Str := Txt.split x SP
theorem words_spl (x : Str) : (wordsOf x).map tl = spl [32] 0 [] (tl x) := by
  have h := split_spl x SP (by rw [tl_SP]; simp) (kind_ok SP_kind)
  rw [tl_SP] at h
  exact h
theorem words_ne (x : Str) : wordsOf x ≠ [] := fun e => by
  have h := words_spl x
  rw [e] at h
  exact spl_ne 32 (tl x) [] h.symm
theorem words_clean {x p : Str} (h : p ∈ wordsOf x) : 32 ∉ tl p :=
  spl_clean 32 (tl x) [] (by simp) (tl p) (by rw [← words_spl]; exact List.mem_map.mpr ⟨p, h, rfl⟩)
theorem words_join (x : Str) : Txt.join SP (wordsOf x) = x := by
  refine ext_tl ?_
  rw [join_eq, tl_join, tl_SP, words_spl, joinL_spl] <;> rfl
theorem join_words {ps : List Str} (h : ps ≠ []) (hp : ∀ p ∈ ps, 32 ∉ tl p) : wordsOf (Txt.join SP ps) = ps := split_join tl_SP SP_kind h hp
theorem tl_inj {x y : Str} (h : tl x = tl y) : x = y := ext_tl h
theorem join_cons (p q : Str) (r : List Str) : Txt.join SP (p :: q :: r) = p ++ SP ++ Txt.join SP (q :: r) := by
  rw [join_eq, join_eq] <;> rfl
/-- a first word, a space, the rest -/
theorem words_cut {f t : Str} (h : 32 ∉ tl f) : wordsOf (f ++ SP ++ t) = f :: wordsOf t := by
  have e : f ++ SP ++ t = Txt.join SP (f :: wordsOf t) := by
    cases k : wordsOf t with
    | nil => exact absurd k (words_ne t)
    | cons q r =>
      rw [join_cons, ← k, words_join]
  rw [e]
  refine join_words (by simp) fun p hp => ?_
  rcases List.mem_cons.mp hp with rfl | hp
  · exact h
  · exact words_clean hp
theorem words_one {f : Str} (h : 32 ∉ tl f) : wordsOf f = [f] := by
  have e : f = Txt.join SP [f] := rfl
  rw [e]
  refine join_words (by simp) fun p hp => ?_
  rw [List.mem_singleton.mp hp]
  exact h

/-! ### sizes and signs -/
theorem len_append (x y : Str) : (x ++ y).length = x.length + y.length := by
  rw [len_tl, len_tl, len_tl, tl_append, List.length_append]
/-- all signs of x satisfy P -/
def Signs (P : Nat → Prop) (x : Str) : Prop := ∀ c ∈ tl x, P c
theorem Signs.append {P : Nat → Prop} {x y : Str} (h : Signs P x) (k : Signs P y) : Signs P (x ++ y) := fun c hc => by
  rw [tl_append] at hc
  rcases List.mem_append.mp hc with hc | hc
  · exact h c hc
  · exact k c hc
theorem join_signs {P : Nat → Prop} (hs : P 32) : ∀ {ps : List Str}, (∀ p ∈ ps, Signs P p) → Signs P (Txt.join SP ps)
  | [], _ => fun c hc => by cases hc
  | [p], h => h p (List.mem_singleton.mpr rfl)
  | p :: q :: r, h => by
    rw [join_cons]
    refine Signs.append (Signs.append (h p (List.mem_cons_self ..)) fun c hc => ?_) (join_signs hs fun z hz => h z (List.mem_cons_of_mem _ hz))
    rw [tl_SP] at hc
    rw [List.mem_singleton.mp hc]
    exact hs
theorem mem_join {p : Str} {c : Nat} (hc : c ∈ tl p) : ∀ {ps : List Str}, p ∈ ps → c ∈ tl (Txt.join SP ps)
  | [], h => by cases h
  | [q], h => by
    rw [List.mem_singleton.mp h] at hc
    exact hc
  | q :: r :: s, h => by
    rw [join_cons, tl_append, tl_append]
    rcases List.mem_cons.mp h with rfl | h
    · exact List.mem_append_left _ (List.mem_append_left _ hc)
    · exact List.mem_append_right _ (mem_join hc h)
theorem word_signs {P : Nat → Prop} {x p : Str} (h : Signs P x) (hp : p ∈ wordsOf x) : Signs P p := fun c hc => h c (by
  rw [← words_join x]
  exact mem_join hc hp)
/-- the lengths of joined texts, and one more each -/
def wide (ps : List Str) : Nat := (ps.map fun p => p.length + 1).sum
theorem wide_nil : wide [] = 0 := rfl
theorem wide_cons (p : Str) (ps : List Str) : wide (p :: ps) = p.length + 1 + wide ps := by simp [wide]
theorem wide_append (ps qs : List Str) : wide (ps ++ qs) = wide ps + wide qs := by simp [wide]
theorem wide_le : ∀ {ps : List Str}, ps.length ≤ wide ps
  | [] => Nat.le_refl _
  | p :: ps => by
    have := wide_le (ps := ps)
    rw [wide_cons, List.length_cons]
    omega
theorem mem_wide {p : Str} : ∀ {ps : List Str}, p ∈ ps → p.length + 1 ≤ wide ps
  | [], h => by cases h
  | q :: ps, h => by
    rw [wide_cons]
    rcases List.mem_cons.mp h with rfl | h
    · omega
    · have := mem_wide h
      omega
theorem join_len : ∀ {ps : List Str}, ps ≠ [] → (Txt.join SP ps).length + 1 = wide ps
  | [], h => absurd rfl h
  | [p], _ => by rw [wide_cons, wide_nil] <;> rfl
  | p :: q :: r, _ => by
    have ih := join_len (ps := q :: r) (by simp)
    rw [join_cons, len_append, len_append, wide_cons]
    have e : SP.length = 1 := by decide +kernel
    omega
theorem join_len_le (ps : List Str) : (Txt.join SP ps).length ≤ wide ps := by
  cases ps with
  | nil => exact Nat.le_refl _
  | cons p r =>
    have := join_len (ps := p :: r) (by simp)
    omega
theorem words_wide (x : Str) : wide (wordsOf x) = x.length + 1 := by
  rw [← join_len (words_ne x), words_join]
/-- what rJoin of the layer asks -/
theorem join_sum (ps : List Str) : (ps.map (·.length)).sum + ps.length = wide ps := by
  induction ps with
  | nil => rfl
  | cons p ps ih =>
    rw [wide_cons, List.map_cons, List.sum_cons, List.length_cons]
    omega
theorem wide_drop (n : Nat) (ps : List Str) : wide (ps.drop n) ≤ wide ps := by
  have e : wide (ps.take n ++ ps.drop n) = wide ps := by rw [List.take_append_drop]
  rw [wide_append] at e
  omega
theorem wide_take (n : Nat) (ps : List Str) : wide (ps.take n) ≤ wide ps := by
  have e : wide (ps.take n ++ ps.drop n) = wide ps := by rw [List.take_append_drop]
  rw [wide_append] at e
  omega

/-! ### letters and numbers -/
def alphabet : Str := "abcdefghijklmnopqrstuvwxyz"
def figures : Str := "0123456789"
def isLetters (x : Str) : Bool := decide (0 < x.length) && (tl x).all fun c => decide (c ∈ tl alphabet)
theorem in_alphabet (c : Nat) : decide (c ∈ tl alphabet) = (decide (97 ≤ c) && decide (c ≤ 122)) := by
  have e : tl alphabet = List.range' 97 26 := by decide +kernel
  rw [e]
  by_cases h : 97 ≤ c ∧ c ≤ 122
  · rw [decide_eq_true h.1, decide_eq_true h.2]
    exact decide_eq_true (List.mem_range'_1.mpr (by omega))
  · have : ¬ c ∈ List.range' 97 26 := fun hm => h (by
      have := List.mem_range'_1.mp hm
      omega)
    rw [decide_eq_false this]
    by_cases h1 : 97 ≤ c
    · have h2 : ¬ c ≤ 122 := fun z => h ⟨h1, z⟩
      rw [decide_eq_false h2, Bool.and_false]
    · rw [decide_eq_false h1, Bool.false_and]
theorem in_figures (c : Nat) : decide (c ∈ tl figures) = (decide (48 ≤ c) && decide (c ≤ 57)) := by
  have e : tl figures = List.range' 48 10 := by decide +kernel
  rw [e]
  by_cases h : 48 ≤ c ∧ c ≤ 57
  · rw [decide_eq_true h.1, decide_eq_true h.2]
    exact decide_eq_true (List.mem_range'_1.mpr (by omega))
  · have : ¬ c ∈ List.range' 48 10 := fun hm => h (by
      have := List.mem_range'_1.mp hm
      omega)
    rw [decide_eq_false this]
    by_cases h1 : 48 ≤ c
    · have h2 : ¬ c ≤ 57 := fun z => h ⟨h1, z⟩
      rw [decide_eq_false h2, Bool.and_false]
    · rw [decide_eq_false h1, Bool.false_and]
theorem all_filter {α : Type} (f : α → Bool) : ∀ l : List α, decide ((l.filter f).length = l.length) = l.all f
  | [] => rfl
  | a :: l => by
    have ih := all_filter f l
    rw [List.all_cons, ← ih, List.length_cons]
    cases h : f a with
    | true =>
      rw [List.filter_cons_of_pos h, List.length_cons, Bool.true_and]
      by_cases e : (l.filter f).length = l.length
      · rw [decide_eq_true e, decide_eq_true (by omega)]
      · rw [decide_eq_false e, decide_eq_false (by omega)]
    | false =>
      rw [List.filter_cons_of_neg (by rw [h]; decide), Bool.false_and]
      have := List.length_filter_le f l
      exact decide_eq_false (by omega)
def ZERO : Str := "0"
/-- a number: one to seven figures, no zero ahead -/
def isNumber (x : Str) : Bool := (decide (1 ≤ x.length) && decide (x.length ≤ 7)) && (tl x).all (fun c => decide (c ∈ tl figures)) && (decide (x = ZERO) || !decide ((tl x).headD 0 = 48))
def numOf (x : Str) : Int := ((NumText.digitsVal (tl x) : Nat) : Int)
theorem isNumber_digits {x : Str} (h : isNumber x = true) : NumText.AllDigits (tl x) ∧ tl x ≠ [] ∧ x.length ≤ 7 := by
  unfold isNumber at h
  simp only [Bool.and_eq_true, decide_eq_true_eq] at h
  refine ⟨fun c hc => ?_, fun e => ?_, h.1.1.2⟩
  · have := List.all_eq_true.mp h.1.2 c hc
    rw [in_figures] at this
    simp only [Bool.and_eq_true, decide_eq_true_eq] at this
    exact this
  · have := h.1.1.1
    rw [len_tl, e] at this
    exact absurd this (by decide)
theorem isNumber_int {x : Str} (h : isNumber x = true) : intText? x = some (numOf x) ∧ x.length ≤ 640 := by
  obtain ⟨h1, h2, h3⟩ := isNumber_digits h
  exact ⟨intText_digits h1 h2 (by omega), by omega⟩
theorem isLetters_iff {x : Str} : isLetters x = true ↔ 0 < x.length ∧ ∀ c ∈ tl x, 97 ≤ c ∧ c ≤ 122 := by
  unfold isLetters
  rw [Bool.and_eq_true, decide_eq_true_eq, List.all_eq_true]
  refine and_congr_right fun _ => forall_congr' fun c => forall_congr' fun _ => ?_
  rw [in_alphabet, Bool.and_eq_true, decide_eq_true_eq, decide_eq_true_eq]
end K80

set_option maxRecDepth 100000
/-! What a line means (the command), as data. -/
namespace K80
open PySem L2 TL

def wTexts : List Str := ["rule", "keep", "ask", "find", "marks", "game"]
def wBare : List Str := ["undo", "rows"]
def wNumbered : List Str := ["drop", "let", "since", "row"]
def wRowed : List Str := ["reader", "win"]
def wPlace : Str := "place"
def wBegin : Str := "begin"
def wCount : Str := "count"
def wTree : Str := "tree"
def SEMI : Str := ";"

/-- the pairs of a word and a number -/
def pairsP : List Str → Option (List PyData)
  | [] => some []
  | [_] => none
  | a :: b :: r => if isLetters a = true ∧ isNumber b = true then (pairsP r).map fun l => .tuple [.str a, .int (numOf b)] :: l else none
/-- where a word first stands -/
def cutAt (z : Str) : List Str → Nat
  | [] => 0
  | a :: r => if a = z then 0 else cutAt z r + 1
def beginP (r : List Str) : PyData :=
  if r.count SEMI = 1 then
    match pairsP (r.take (cutAt SEMI r)), pairsP (r.drop (cutAt SEMI r + 1)) with
    | some s, some m => .tuple [.str wBegin, .tuple s, .tuple m]
    | _, _ => .none
  else .none
def placeP : List Str → PyData
  | m :: t :: r => if isLetters m = true then .tuple [.str wPlace, .str m, .str (Txt.join SP (t :: r))] else .none
  | _ => .none
def countP : List Str → PyData
  | [m, n] => if isLetters m = true ∧ isNumber n = true then .tuple [.str wCount, .str m, .int (numOf n)] else .none
  | _ => .none
def treeP : List Str → PyData
  | [m, n, k] => if isLetters m = true ∧ isNumber n = true ∧ isNumber k = true then .tuple [.str wTree, .str m, .int (numOf n), .int (numOf k)] else .none
  | _ => .none
def numberedP (f : Str) : List Str → PyData
  | [n] => if isNumber n = true then .tuple [.str f, .int (numOf n)] else .none
  | _ => .none
/-- the command of a line's words -/
def cmdF (f : Str) (r : List Str) : PyData :=
    if f ∈ wTexts then (if r = [] then .none else .tuple [.str f, .str (Txt.join SP r)])
    else if f = wPlace then placeP r
    else if f ∈ wBare then (if r = [] then .tuple [.str f] else .none)
    else if f ∈ wNumbered then numberedP f r
    else if f ∈ wRowed then (if r.all isLetters = true then .tuple ((f :: r).map PyData.str) else .none)
    else if f = wBegin then beginP r
    else if f = wCount then countP r
    else if f = wTree then treeP r
    else .none
def cmdW : List Str → PyData
  | [] => .none
  | f :: r => cmdF f r
def cmdP (x : Str) : PyData := if x.length = 0 then .tuple [] else cmdW (wordsOf x)

/-! ### which word it is -/
theorem mem_texts {f : Str} : f ∈ wTexts → f ≠ wPlace ∧ f ∉ wBare ∧ f ∉ wNumbered ∧ f ∉ wRowed ∧ f ≠ wBegin ∧ f ≠ wCount ∧ f ≠ wTree := by
  intro h
  simp only [wTexts, List.mem_cons, List.not_mem_nil, or_false] at h
  rcases h with rfl | rfl | rfl | rfl | rfl | rfl <;> decide +kernel
theorem mem_bare {f : Str} : f ∈ wBare → f ∉ wTexts ∧ f ≠ wPlace ∧ f ∉ wNumbered ∧ f ∉ wRowed ∧ f ≠ wBegin ∧ f ≠ wCount ∧ f ≠ wTree := by
  intro h
  simp only [wBare, List.mem_cons, List.not_mem_nil, or_false] at h
  rcases h with rfl | rfl <;> decide +kernel
theorem mem_numbered {f : Str} : f ∈ wNumbered → f ∉ wTexts ∧ f ≠ wPlace ∧ f ∉ wBare ∧ f ∉ wRowed ∧ f ≠ wBegin ∧ f ≠ wCount ∧ f ≠ wTree := by
  intro h
  simp only [wNumbered, List.mem_cons, List.not_mem_nil, or_false] at h
  rcases h with rfl | rfl | rfl | rfl <;> decide +kernel
theorem mem_rowed {f : Str} : f ∈ wRowed → f ∉ wTexts ∧ f ≠ wPlace ∧ f ∉ wBare ∧ f ∉ wNumbered ∧ f ≠ wBegin ∧ f ≠ wCount ∧ f ≠ wTree ∧ isLetters f = true := by
  intro h
  simp only [wRowed, List.mem_cons, List.not_mem_nil, or_false] at h
  rcases h with rfl | rfl <;> decide +kernel
theorem is_place : wPlace ∉ wTexts ∧ wPlace ∉ wBare ∧ wPlace ∉ wNumbered ∧ wPlace ∉ wRowed ∧ wPlace ≠ wBegin ∧ wPlace ≠ wCount ∧ wPlace ≠ wTree := by decide +kernel
theorem is_begin : wBegin ∉ wTexts ∧ wBegin ≠ wPlace ∧ wBegin ∉ wBare ∧ wBegin ∉ wNumbered ∧ wBegin ∉ wRowed ∧ wBegin ≠ wCount ∧ wBegin ≠ wTree := by decide +kernel
theorem is_count : wCount ∉ wTexts ∧ wCount ≠ wPlace ∧ wCount ∉ wBare ∧ wCount ∉ wNumbered ∧ wCount ∉ wRowed ∧ wCount ≠ wBegin ∧ wCount ≠ wTree := by decide +kernel
theorem is_tree : wTree ∉ wTexts ∧ wTree ≠ wPlace ∧ wTree ∉ wBare ∧ wTree ∉ wNumbered ∧ wTree ∉ wRowed ∧ wTree ≠ wBegin ∧ wTree ≠ wCount := by decide +kernel

/-! ### how a command is shown: sizes -/
theorem strLen_str (x y : Str) : (x ++ y).length = x.length + y.length := len_append x y
theorem shownAll_map : ∀ ds : List PyData, PyData.shownAll ds = ds.map PyData.shown
  | [] => by simp only [PyData.shownAll, List.map_nil]
  | d :: ds => by simp only [PyData.shownAll, List.map_cons, shownAll_map ds]
theorem join_any_len (sep : Str) : ∀ ts : List Str, (Str.join sep ts).length ≤ (ts.map fun t => t.length + sep.length).sum
  | [] => Nat.le_refl _
  | [t] => by
    show t.length ≤ _
    simp
  | t :: u :: r => by
    have ih := join_any_len sep (u :: r)
    show (t ++ sep ++ Str.join sep (u :: r)).length ≤ _
    rw [len_append, len_append, List.map_cons, List.sum_cons]
    omega
theorem tupleText_len (ts : List Str) : (tupleText ts).length ≤ (ts.map fun t => t.length + 2).sum + 3 := by
  unfold tupleText
  have h := join_any_len ", " ts
  rw [len_append, len_append]
  have e : (", " : Str).length = 2 := by decide +kernel
  have e1 : ("(" : Str).length = 1 := by decide +kernel
  have e2 : ((if ts.length == 1 then ",)" else ")" : String) : Str).length ≤ 2 := by
    split
    · decide +kernel
    · decide +kernel
  rw [e] at h
  omega
theorem sum_le (b : Nat) : ∀ l : List Nat, (∀ n ∈ l, n ≤ b) → l.sum ≤ l.length * b
  | [], _ => Nat.zero_le _
  | n :: l, h => by
    have ih := sum_le b l fun m hm => h m (List.mem_cons_of_mem _ hm)
    have h0 := h n (List.mem_cons_self ..)
    rw [List.sum_cons, List.length_cons, Nat.succ_mul]
    omega
theorem tuple_shown {ds : List PyData} {b n : Nat} (h : ∀ d ∈ ds, d.shown.length ≤ b) (hn : ds.length ≤ n) : (PyData.tuple ds).shown.length ≤ n * (b + 2) + 3 := by
  have e : (PyData.tuple ds).shown = tupleText (ds.map PyData.shown) := by
    simp only [PyData.shown, shownAll_map]
  rw [e]
  refine Nat.le_trans (tupleText_len _) ?_
  have k := sum_le (b + 2) ((ds.map PyData.shown).map fun t => t.length + 2) fun m hm => by
    obtain ⟨t, ht, rfl⟩ := List.mem_map.mp hm
    obtain ⟨d, hd, rfl⟩ := List.mem_map.mp ht
    have := h d hd
    omega
  rw [List.length_map, List.length_map] at k
  have k2 : ds.length * (b + 2) ≤ n * (b + 2) := Nat.mul_le_mul_right _ hn
  omega
/-- signs of which each is shown by at most ten -/
abbrev Low (x : Str) : Prop := Signs (fun c => c < 1000) x
theorem str_shown {x : Str} (h : Low x) : (PyData.str x).shown.length ≤ 10 * x.length + 2 := by
  simp only [PyData.shown]
  exact StrLaws.reprText_len x fun c hc => Nat.lt_of_lt_of_le (h c hc) (by decide)

/-- data that may be shown -/
structure Shows (k n : Nat) (d : PyData) : Prop where
  able : d.showable = true
  nodict : d.hasDict = false
  deep : d.depth ≤ k
  small : d.shown.length ≤ n
theorem Shows.mono {j k m n : Nat} {d : PyData} (h : Shows j m d) (a : j ≤ k) (b : m ≤ n) : Shows k n d := ⟨h.able, h.nodict, Nat.le_trans h.deep a, Nat.le_trans h.small b⟩
theorem shows_none {k n : Nat} (h : 4 ≤ n) : Shows k n .none := ⟨rfl, rfl, Nat.zero_le _, Nat.le_trans (by decide +kernel) h⟩
theorem shows_str {k : Nat} {x : Str} {n : Nat} (h : Low x) (b : 10 * x.length + 2 ≤ n) : Shows k n (.str x) := ⟨rfl, rfl, Nat.zero_le _, Nat.le_trans (str_shown h) b⟩
theorem showableAll_of : ∀ {ds : List PyData}, (∀ d ∈ ds, d.showable = true) → PyData.showableAll ds = true
  | [], _ => rfl
  | d :: ds, h => by
    simp only [PyData.showableAll, h d (List.mem_cons_self ..), showableAll_of fun e he => h e (List.mem_cons_of_mem _ he), Bool.and_self]
theorem hasDictAll_of : ∀ {ds : List PyData}, (∀ d ∈ ds, d.hasDict = false) → PyData.hasDictAll ds = false
  | [], _ => rfl
  | d :: ds, h => by
    simp only [PyData.hasDictAll, h d (List.mem_cons_self ..), hasDictAll_of fun e he => h e (List.mem_cons_of_mem _ he), Bool.or_self]
theorem depthAll_of {k : Nat} : ∀ {ds : List PyData}, (∀ d ∈ ds, d.depth ≤ k) → PyData.depthAll ds ≤ k
  | [], _ => by simp only [PyData.depthAll, Nat.zero_le]
  | d :: ds, h => by
    have h1 := h d (List.mem_cons_self ..)
    have h2 := depthAll_of fun e he => h e (List.mem_cons_of_mem _ he)
    simp only [PyData.depthAll]
    omega
theorem shows_tuple {ds : List PyData} {k b n m : Nat} (h : ∀ d ∈ ds, Shows k b d) (hn : ds.length ≤ n) (hm : n * (b + 2) + 3 ≤ m) : Shows (k + 1) m (.tuple ds) := by
  refine ⟨?_, ?_, ?_, Nat.le_trans (tuple_shown (fun d hd => (h d hd).small) hn) hm⟩
  · simp only [PyData.showable]
    exact showableAll_of fun d hd => (h d hd).able
  · simp only [PyData.hasDict]
    exact hasDictAll_of fun d hd => (h d hd).nodict
  · have := depthAll_of fun d hd => (h d hd).deep
    simp only [PyData.depth]
    omega
theorem digitsVal_lt : ∀ (l : List Nat) (a : Nat), NumText.AllDigits l → l.foldl (fun acc c => acc * 10 + (c - 48)) a < (a + 1) * 10 ^ l.length
  | [], a, _ => by simp
  | c :: r, a, h => by
    have hc := h.head
    have ih := digitsVal_lt r (a * 10 + (c - 48)) h.tail
    rw [List.foldl_cons, List.length_cons, Nat.pow_succ]
    refine Nat.lt_of_lt_of_le ih ?_
    have : a * 10 + (c - 48) + 1 ≤ (a + 1) * 10 := by omega
    have k := Nat.mul_le_mul_right (10 ^ r.length) this
    rw [Nat.mul_assoc, Nat.mul_comm 10] at k
    exact k
theorem numOf_lt {x : Str} (h : isNumber x = true) : 0 ≤ numOf x ∧ numOf x < 10 ^ 7 := by
  obtain ⟨h1, h2, h3⟩ := isNumber_digits h
  unfold numOf NumText.digitsVal
  have k := digitsVal_lt (tl x) 0 h1
  have e : 10 ^ (tl x).length ≤ 10 ^ 7 := Nat.pow_le_pow_right (by decide) (by rw [← len_tl]; exact h3)
  refine ⟨by omega, ?_⟩
  have : (tl x).foldl (fun acc c => acc * 10 + (c - 48)) 0 < 10 ^ 7 := by omega
  omega
theorem shows_num {k : Nat} {x : Str} (h : isNumber x = true) : Shows k 20 (.int (numOf x)) := by
  obtain ⟨h1, h2⟩ := numOf_lt h
  have e : ((10 : Int) ^ 7) = 10000000 := by decide
  rw [e] at h2
  refine ⟨?_, rfl, Nat.zero_le _, ?_⟩
  · simp only [PyData.showable, decide_eq_true_eq]
    by_cases z : (numOf x).natAbs = 0
    · rw [z]; decide
    · exact Nat.lt_trans ((Nat.log2_lt z).mpr (show (numOf x).natAbs < 2 ^ 24 by omega)) (by decide)
  · simp only [PyData.shown]
    exact Nat.le_trans (PyProof.Rows.toString_length_le h1 (k := 7) (by decide) (by rw [e]; exact h2)) (by decide)

theorem shows_pairs {n : Nat} : ∀ (ws : List Str) (l : List PyData), (∀ p ∈ ws, Low p ∧ p.length ≤ n) → pairsP ws = some l → (∀ d ∈ l, Shows 1 (20 * n + 47) d) ∧ l.length ≤ ws.length
  | [], l, _, e => by
    cases e
    exact ⟨(fun d hd => by cases hd), Nat.le_refl _⟩
  | [_], l, _, e => by cases e
  | a :: b :: r, l, h, e => by
    unfold pairsP at e
    split at e
    · rename_i good
      cases k : pairsP r with
      | none => rw [k] at e; cases e
      | some l2 =>
        rw [k] at e
        obtain rfl : PyData.tuple [.str a, .int (numOf b)] :: l2 = l := Option.some.inj e
        obtain ⟨h1, h2⟩ := shows_pairs r l2 (fun p hp => h p (List.mem_cons_of_mem _ (List.mem_cons_of_mem _ hp))) k
        refine ⟨fun d hd => ?_, by rw [List.length_cons, List.length_cons, List.length_cons]; omega⟩
        rcases List.mem_cons.mp hd with rfl | hd
        · obtain ⟨la, na⟩ := h a (List.mem_cons_self ..)
          refine shows_tuple (k := 0) (b := 10 * n + 20) (n := 2) (fun d hd => ?_) (Nat.le_refl _) (by omega)
          simp only [List.mem_cons, List.not_mem_nil, or_false] at hd
          rcases hd with rfl | rfl
          · exact shows_str la (by omega)
          · exact (shows_num good.2).mono (Nat.le_refl _) (by omega)
        · exact h1 d hd
    · cases e

/-- words of a short line -/
def Short (ws : List Str) : Prop := wide ws ≤ 401 ∧ ∀ p ∈ ws, Low p
theorem Short.tail {f : Str} {r : List Str} (h : Short (f :: r)) : Short r := ⟨by have := h.1; rw [wide_cons] at this; omega, fun p hp => h.2 p (List.mem_cons_of_mem _ hp)⟩
theorem Short.len {ws : List Str} (h : Short ws) {p : Str} (hp : p ∈ ws) : Low p ∧ p.length ≤ 400 := ⟨h.2 p hp, by have := mem_wide hp; have := h.1; omega⟩
theorem Short.join {ws : List Str} (h : Short ws) : Low (Txt.join SP ws) ∧ (Txt.join SP ws).length ≤ 401 :=
  ⟨join_signs (by decide) h.2, Nat.le_trans (join_len_le ws) h.1⟩
theorem Short.count {ws : List Str} (h : Short ws) : ws.length ≤ 401 := Nat.le_trans wide_le h.1
theorem Short.take {ws : List Str} (h : Short ws) (n : Nat) : Short (ws.take n) := ⟨Nat.le_trans (wide_take n ws) h.1, fun p hp => h.2 p (List.mem_of_mem_take hp)⟩
theorem Short.drop {ws : List Str} (h : Short ws) (n : Nat) : Short (ws.drop n) := ⟨Nat.le_trans (wide_drop n ws) h.1, fun p hp => h.2 p (List.mem_of_mem_drop hp)⟩
abbrev TOP : Nat := 12000000
theorem shows_flat {ds : List PyData} (h : ∀ d ∈ ds, Shows 0 4020 d) (n : ds.length ≤ 401) : Shows 3 TOP (.tuple ds) := (shows_tuple h n (Nat.le_refl _)).mono (by decide) (by decide)
theorem shows_word {ws : List Str} (h : Short ws) {p : Str} (hp : p ∈ ws) : Shows 0 4020 (.str p) := shows_str (h.len hp).1 (by have := (h.len hp).2; omega)
theorem shows_pairs2 {ws : List Str} {l : List PyData} (h : Short ws) (e : pairsP ws = some l) : Shows 2 3300000 (.tuple l) := by
  obtain ⟨h1, h2⟩ := shows_pairs (n := 400) ws l (fun p hp => h.len hp) e
  exact shows_tuple h1 (n := 401) (Nat.le_trans h2 h.count) (by decide)
theorem shows_begin {r : List Str} (h : Short (wBegin :: r)) : Shows 3 TOP (beginP r) := by
  unfold beginP
  split
  · split
    · rename_i s m hs hm
      refine (shows_tuple (k := 2) (b := 3300000) (n := 3) (fun d hd => ?_) (Nat.le_refl _) (Nat.le_refl _)).mono (by decide) (by decide)
      simp only [List.mem_cons, List.not_mem_nil, or_false] at hd
      rcases hd with rfl | rfl | rfl
      · exact (shows_word h (List.mem_cons_self ..)).mono (by decide) (by decide)
      · exact shows_pairs2 (h.tail.take _) hs
      · exact shows_pairs2 (h.tail.drop _) hm
    · exact shows_none (by decide)
  · exact shows_none (by decide)
theorem shows_cmdW {ws : List Str} (h : Short ws) : Shows 3 TOP (cmdW ws) := by
  cases ws with
  | nil => exact shows_none (by decide)
  | cons f r =>
    have hf : Shows 0 4020 (.str f) := shows_word h (List.mem_cons_self ..)
    show Shows 3 TOP (cmdF f r)
    unfold cmdF
    split
    · split
      · exact shows_none (by decide)
      · refine shows_flat (fun d hd => ?_) (by show 2 ≤ 401; decide)
        simp only [List.mem_cons, List.not_mem_nil, or_false] at hd
        rcases hd with rfl | rfl
        · exact hf
        · exact shows_str h.tail.join.1 (by have := h.tail.join.2; omega)
    · split
      · rename_i e
        subst e
        unfold placeP
        split
        · rename_i m t r2
          split
          · refine shows_flat (fun d hd => ?_) (by show 3 ≤ 401; decide)
            simp only [List.mem_cons, List.not_mem_nil, or_false] at hd
            rcases hd with rfl | rfl | rfl
            · exact hf
            · exact shows_word h (by simp)
            · exact shows_str h.tail.tail.join.1 (by have := h.tail.tail.join.2; omega)
          · exact shows_none (by decide)
        · exact shows_none (by decide)
      · split
        · split
          · refine shows_flat (fun d hd => ?_) (by show 1 ≤ 401; decide)
            rw [List.mem_singleton.mp hd]
            exact hf
          · exact shows_none (by decide)
        · split
          · unfold numberedP
            split
            · split
              · rename_i good
                refine shows_flat (fun d hd => ?_) (by show 2 ≤ 401; decide)
                simp only [List.mem_cons, List.not_mem_nil, or_false] at hd
                rcases hd with rfl | rfl
                · exact hf
                · exact (shows_num (k := 0) good).mono (Nat.le_refl 0) (by decide)
              · exact shows_none (by decide)
            · exact shows_none (by decide)
          · split
            · split
              · refine shows_flat (fun d hd => ?_) (by rw [List.length_map]; exact h.count)
                obtain ⟨p, hp, rfl⟩ := List.mem_map.mp hd
                exact shows_word h hp
              · exact shows_none (by decide)
            · split
              · rename_i e
                subst e
                exact shows_begin h
              · split
                · rename_i e
                  subst e
                  unfold countP
                  split
                  · split
                    · rename_i good
                      refine shows_flat (fun d hd => ?_) (by show 3 ≤ 401; decide)
                      simp only [List.mem_cons, List.not_mem_nil, or_false] at hd
                      rcases hd with rfl | rfl | rfl
                      · exact hf
                      · exact shows_word h (by simp)
                      · exact (shows_num (k := 0) good.2).mono (Nat.le_refl 0) (by decide)
                    · exact shows_none (by decide)
                  · exact shows_none (by decide)
                · split
                  · rename_i e
                    subst e
                    unfold treeP
                    split
                    · split
                      · rename_i good
                        refine shows_flat (fun d hd => ?_) (by show 4 ≤ 401; decide)
                        simp only [List.mem_cons, List.not_mem_nil, or_false] at hd
                        rcases hd with rfl | rfl | rfl | rfl
                        · exact hf
                        · exact shows_word h (by simp)
                        · exact (shows_num (k := 0) good.2.1).mono (Nat.le_refl 0) (by decide)
                        · exact (shows_num (k := 0) good.2.2).mono (Nat.le_refl 0) (by decide)
                      · exact shows_none (by decide)
                    · exact shows_none (by decide)
                  · exact shows_none (by decide)
/-- a line that is short enough -/
def Line (n : Nat) (x : Str) : Prop := x.length ≤ n ∧ Low x
theorem short_of {x : Str} (h : Line 400 x) : Short (wordsOf x) := ⟨by rw [words_wide]; have := h.1; omega, fun p hp => word_signs h.2 hp⟩
theorem shows_cmd {x : Str} (h : Line 400 x) : Shows 3 TOP (cmdP x) := by
  unfold cmdP
  split
  · exact (shows_tuple (k := 0) (b := 0) (n := 0) (fun d hd => by cases hd) (Nat.le_refl _) (Nat.le_refl _)).mono (by decide) (by decide)
  · exact shows_cmdW (short_of h)
end K80

set_option maxRecDepth 100000
set_option maxHeartbeats 4000000
namespace K80
open PySem PySem.Spec PyProof.Rows L2 Evl Pg

def topS (i : Nat) : Stmt := PySem.Challenge.pw_pergola_k80_commands_read.main.body.getD i (.Pass ⟨0, 0, 0, 0⟩)
/-- what the module's names hold -/
structure Tx (K : PySem.W.Frag) (mg : Str → Option Value) : Prop where
  b_len : mg "len" = none
  b_all : mg "all" = none
  b_int : mg "int" = none
  b_str : mg "str" = none
  b_abs : mg "abs" = none
  b_repr : mg "repr" = none
  b_range : mg "range" = none
  b_tuple : mg "tuple" = none
  g_LETTERS : ∃ t, mg "LETTERS" = some (.str alphabet t)
  g_DIGITS : ∃ t, mg "DIGITS" = some (.str figures t)
  g_MAX_DIGITS : ∃ t, mg "MAX_DIGITS" = some (.int 7 t)
  g_TEXTS : ∃ a, mg "TEXTS" = some (.ref a) ∧ ∀ H, SqT K H a (wTexts.map V.str)
  g_BARE : ∃ a, mg "BARE" = some (.ref a) ∧ ∀ H, SqT K H a (wBare.map V.str)
  g_NUMBERED : ∃ a, mg "NUMBERED" = some (.ref a) ∧ ∀ H, SqT K H a (wNumbered.map V.str)
  g_ROWED : ∃ a, mg "ROWED" = some (.ref a) ∧ ∀ H, SqT K H a (wRowed.map V.str)
/-- of a text, a truth -/
def spStrB (g : Str → Bool) : Sp := fun vs H Q _ => ∃ x : Str, vs = [.str x] ∧ x.length ≤ 1000 ∧ RetV (.bl (g x)) H Q
abbrev s_is_letters : Stmt := topS 8
abbrev N_is_letters : List Str := ["text", "letter"]
theorem sc_is_letters : FnScope N_is_letters ["text"] (defScope s_is_letters) := ⟨rfl, rfl, rfl, by decide +kernel, rfl, by decide +kernel, by decide +kernel⟩
abbrev s_is_number : Stmt := topS 9
abbrev N_is_number : List Str := ["text", "digit"]
theorem sc_is_number : FnScope N_is_number ["text"] (defScope s_is_number) := ⟨rfl, rfl, rfl, by decide +kernel, rfl, by decide +kernel, by decide +kernel⟩
abbrev s_pairs_of : Stmt := topS 10
abbrev N_pairs_of : List Str := ["words", "found", "k"]
theorem sc_pairs_of : FnScope N_pairs_of ["words"] (defScope s_pairs_of) := ⟨rfl, rfl, rfl, by decide +kernel, rfl, by decide +kernel, by decide +kernel⟩
abbrev s_begin_command : Stmt := topS 11
abbrev N_begin_command : List Str := ["words", "at", "signs", "marks"]
theorem sc_begin_command : FnScope N_begin_command ["words"] (defScope s_begin_command) := ⟨rfl, rfl, rfl, by decide +kernel, rfl, by decide +kernel, by decide +kernel⟩
abbrev s_counted_command : Stmt := topS 12
abbrev N_counted_command : List Str := ["words", "numbers", "word"]
theorem sc_counted_command : FnScope N_counted_command ["words"] (defScope s_counted_command) := ⟨rfl, rfl, rfl, by decide +kernel, rfl, by decide +kernel, by decide +kernel⟩
abbrev s_place_command : Stmt := topS 13
abbrev N_place_command : List Str := ["rest", "mark", "space", "text"]
theorem sc_place_command : FnScope N_place_command ["rest"] (defScope s_place_command) := ⟨rfl, rfl, rfl, by decide +kernel, rfl, by decide +kernel, by decide +kernel⟩
abbrev s_read_command : Stmt := topS 14
abbrev N_read_command : List Str := ["line", "words", "first", "word"]
theorem sc_read_command : FnScope N_read_command ["line"] (defScope s_read_command) := ⟨rfl, rfl, rfl, by decide +kernel, rfl, by decide +kernel, by decide +kernel⟩
abbrev s__law_same : Stmt := topS 16
abbrev N__law_same : List Str := ["told", "due"]
theorem sc__law_same : FnScope N__law_same ["told", "due"] (defScope s__law_same) := ⟨rfl, rfl, rfl, by decide +kernel, rfl, by decide +kernel, by decide +kernel⟩
abbrev s__law_stream : Stmt := topS 17
abbrev N__law_stream : List Str := ["script", "numbers", "cell", "rest", "k", "mixed"]
theorem sc__law_stream : FnScope N__law_stream ["script"] (defScope s__law_stream) := ⟨rfl, rfl, rfl, by decide +kernel, rfl, by decide +kernel, by decide +kernel⟩
abbrev s__law_next : Stmt := topS 18
abbrev N__law_next : List Str := ["state", "many", "turn"]
theorem sc__law_next : FnScope N__law_next ["state", "many"] (defScope s__law_next) := ⟨rfl, rfl, rfl, by decide +kernel, rfl, by decide +kernel, by decide +kernel⟩
abbrev s__law_word : Stmt := topS 19
abbrev N__law_word : List Str := ["state", "taken", "word", "k"]
theorem sc__law_word : FnScope N__law_word ["state", "taken"] (defScope s__law_word) := ⟨rfl, rfl, rfl, by decide +kernel, rfl, by decide +kernel, by decide +kernel⟩
abbrev s__law_number : Stmt := topS 20
abbrev N__law_number : List Str := ["state"]
theorem sc__law_number : FnScope N__law_number ["state"] (defScope s__law_number) := ⟨rfl, rfl, rfl, by decide +kernel, rfl, by decide +kernel, by decide +kernel⟩
abbrev s__law_text : Stmt := topS 21
abbrev N__law_text : List Str := ["state", "menu", "k"]
theorem sc__law_text : FnScope N__law_text ["state"] (defScope s__law_text) := ⟨rfl, rfl, rfl, by decide +kernel, rfl, by decide +kernel, by decide +kernel⟩
abbrev s__law_good : Stmt := topS 22
abbrev N__law_good : List Str := ["state", "way", "word", "line", "parts", "k"]
theorem sc__law_good : FnScope N__law_good ["state"] (defScope s__law_good) := ⟨rfl, rfl, rfl, by decide +kernel, rfl, by decide +kernel, by decide +kernel⟩
abbrev s__law_spoilt : Stmt := topS 23
abbrev N__law_spoilt : List Str := ["state", "line", "words", "at", "menu", "other", "way"]
theorem sc__law_spoilt : FnScope N__law_spoilt ["state", "line"] (defScope s__law_spoilt) := ⟨rfl, rfl, rfl, by decide +kernel, rfl, by decide +kernel, by decide +kernel⟩
abbrev s__law_is_letters : Stmt := topS 24
abbrev N__law_is_letters : List Str := ["text", "letter"]
theorem sc__law_is_letters : FnScope N__law_is_letters ["text"] (defScope s__law_is_letters) := ⟨rfl, rfl, rfl, by decide +kernel, rfl, by decide +kernel, by decide +kernel⟩
abbrev s__law_is_number : Stmt := topS 25
abbrev N__law_is_number : List Str := ["text", "digits", "digit"]
theorem sc__law_is_number : FnScope N__law_is_number ["text"] (defScope s__law_is_number) := ⟨rfl, rfl, rfl, by decide +kernel, rfl, by decide +kernel, by decide +kernel⟩
abbrev s__law_pairs : Stmt := topS 26
abbrev N__law_pairs : List Str := ["words", "found", "k"]
theorem sc__law_pairs : FnScope N__law_pairs ["words"] (defScope s__law_pairs) := ⟨rfl, rfl, rfl, by decide +kernel, rfl, by decide +kernel, by decide +kernel⟩
abbrev s__law_due : Stmt := topS 27
abbrev N__law_due : List Str := ["line", "words", "first", "rest", "at", "good", "signs", "also", "marks", "word"]
theorem sc__law_due : FnScope N__law_due ["line"] (defScope s__law_due) := ⟨rfl, rfl, rfl, by decide +kernel, rfl, by decide +kernel, by decide +kernel⟩
abbrev s_law : Stmt := topS 28
abbrev N_law : List Str := ["script", "state", "k", "line", "due", "spoilt", "told"]
theorem sc_law : FnScope N_law ["script"] (defScope s_law) := ⟨rfl, rfl, rfl, by decide +kernel, rfl, by decide +kernel, by decide +kernel⟩
end K80

set_option maxRecDepth 100000
set_option maxHeartbeats 4000000
namespace K80
open PySem PySem.Spec PyProof.Rows L2 Evl Pg
section
variable {P : Program} {w : World} {K : PySem.W.Frag} {mg : Str → Option Value} {base : Heap} {f : Addr} {fd : FuncData}
theorem map_bl {α : Type} (l : List α) (f : α → Bool) : (l.filter fun _ => true).map (fun c => V.bl (f c)) = (l.map f).map V.bl := by
  rw [List.filter_eq_self.mpr fun _ _ => rfl, List.map_map] <;> rfl
theorem all_map {α : Type} (l : List α) (f : α → Bool) : (l.map f).all id = l.all f := by
  rw [List.all_map] <;> rfl
theorem pos_len (x : Str) : decide ((0 : Int) < (x.length : Int)) = decide (0 < x.length) := by
  by_cases h : 0 < x.length
  · rw [decide_eq_true h, decide_eq_true (by omega)]
  · rw [decide_eq_false h, decide_eq_false (by omega)]
theorem len_ok (x : Str) : (decide ((1 : Int) ≤ (x.length : Int)) && decide ((x.length : Int) ≤ 7)) = (decide (1 ≤ x.length) && decide (x.length ≤ 7)) := by
  congr 1
  · by_cases h : 1 ≤ x.length
    · rw [decide_eq_true h, decide_eq_true (by omega)]
    · rw [decide_eq_false h, decide_eq_false (by omega)]
  · by_cases h : x.length ≤ 7
    · rw [decide_eq_true h, decide_eq_true (by omega)]
    · rw [decide_eq_false h, decide_eq_false (by omega)]
theorem dec_str (x y : Str) : decide (V.str x = V.str y) = decide (x = y) := by
  by_cases h : x = y
  · rw [decide_eq_true h, decide_eq_true (congrArg V.str h)]
  · rw [decide_eq_false h, decide_eq_false fun e => h (V.str.inj e)]
/-- all signs of a text are in another one -/
theorem ev_allIn {σ : L2.St} {H : Hp} {x z : Str} {ts tz : TE} {j : Nat} {vs : List Nat} (h : Ev ts σ H (.str x)) (hz : x.length ≤ 1000) (hw : ∀ x, wipe ((wipe σ vs).set j (some x)) vs = wipe σ vs)
    (hj : ∀ v, ((wipe σ vs).set j (some v))[j]? = some (some v)) (hn : ∀ σ H, Ev tz σ H (.str z)) :
    Ev (tCB (rAll K) (tCons (tLc (iStr ts) (gName j) tYes (tOp rInSg (tVar j) tz) vs) tNil)) σ H (.bl (x.cps.toList.all fun c => decide (c ∈ z.cps.toList))) := by
  have e := el_lcS (fun _ => true) (fun c => V.bl (decide (c ∈ z.cps.toList))) h (by omega) hw (fun _ _ _ _ => et_yes) (fun c H1 _ _ _ => ev_op (ta := tVar j) (ev_var (hj _)) (hn _ _) rv_inSg)
  rw [map_bl] at e
  have a := ev_allEL (K := K) e
  rw [all_map] at a
  exact a
theorem ok_is_letters (T : Tx K mg) (F : Fun K "is_letters" "is_letters" s_is_letters f fd) : FnOk P w K mg base CX0 1 f fd ["text"] (spStrB isLetters) := by
  refine F.ok sc_is_letters (fun vs H Q E h => ?_) (fun cdv A outer s H vs Q E hr h => ?_)
  · obtain ⟨x, rfl, _⟩ := h
    rfl
  · obtain ⟨x, rfl, hx, k⟩ := h
    refine ⟨_, (pss_one (ps_ret (pe_and (pe_cmpR op_gt (pe_callB call_len_str (by rfl) T.b_len bt_len (pa_cons (pv 0) pa_nil)) pe_int (nomark _)) (pe_one (pe_callB (cr_all rfl) (by rfl) T.b_all bt_all (pa_cons (pe_lc (own := [("letter", 1)]) (g := gName 1) (tt := tYes) rfl sc_is_letters.nd (pi_str (pv 0)) (blkOk_by (own := [("letter", 1)]) (N := N_is_letters) (sc := defScope s_is_letters) (by decide +kernel)) (fun _ _ _ _ _ => (pg_name (i := 1) sc_is_letters.nd rfl (Or.inl rfl))) (fun _ _ _ _ _ => pts_nil) (fun _ _ _ _ _ => (pe_cmpR op_in_sign (pv 1) (pe_globS (by rfl) T.g_LETTERS) (by rfl)))) pa_nil)))))), ?_⟩
    refine s_ret (ev_is (ev_andV (ev_op (ev_lenStr (ea_cons (ev_var rfl) ea_nil) (by omega)) ev_c rv_I0) fun _ => ev_allIn (ev_var rfl) hx (fun _ => rfl) (fun _ => rfl) (fun _ _ => ev_c)) ?_) k
    rw [pos_len] <;> rfl
theorem ok_is_number (T : Tx K mg) (F : Fun K "is_number" "is_number" s_is_number f fd) : FnOk P w K mg base CX0 1 f fd ["text"] (spStrB isNumber) := by
  refine F.ok sc_is_number (fun vs H Q E h => ?_) (fun cdv A outer s H vs Q E hr h => ?_)
  · obtain ⟨x, rfl, _⟩ := h
    rfl
  · obtain ⟨x, rfl, hx, k⟩ := h
    refine ⟨_, (pss_cons (ps_if (PW.pt (pw_or (pt_not (pt_chain op_le op_le pe_int (pe_callB call_len_str (by rfl) T.b_len bt_len (pa_cons (pv 0) pa_nil)) (pe_globI (by rfl) T.g_MAX_DIGITS))) (pw_or1 (pt_not (pt_val (pe_callB (cr_all rfl) (by rfl) T.b_all bt_all (pa_cons (pe_lc (own := [("digit", 1)]) (g := gName 1) (tt := tYes) rfl sc_is_number.nd (pi_str (pv 0)) (blkOk_by (own := [("digit", 1)]) (N := N_is_number) (sc := defScope s_is_number) (by decide +kernel)) (fun _ _ _ _ _ => (pg_name (i := 1) sc_is_number.nd rfl (Or.inl rfl))) (fun _ _ _ _ _ => pts_nil) (fun _ _ _ _ _ => (pe_cmpR op_in_sign (pv 1) (pe_globS (by rfl) T.g_DIGITS) (by rfl)))) pa_nil))))))) (pss_one (ps_ret pe_bl)) pss_nil)
      (pss_one (ps_ret (pe_or (pe_cmpR op_eq (pv 0) pe_str (nomark _)) (pe_one (pe_cmpR op_ne (pe_ix ix_str (pv 0) pe_int (fun _ _ => rfl)) pe_str (nomark _))))))), ?_⟩
    have hA : Ev (tCB (rAll K) (tCons (tLc (iStr (tVar 0)) (gName 1) tYes (tOp rInSg (tVar 1) (tC (.str figures))) [1]) tNil)) (L2.start N_is_number [V.str x]) H (.bl (x.cps.toList.all fun c => decide (c ∈ figures.cps.toList))) :=
      ev_allIn (ev_var rfl) hx (fun _ => rfl) (fun _ => rfl) (fun _ _ => ev_c)
    refine q_when (et_or (et_not (et_test (ev_chain (x := .int 1) (y := .int x.length) (z := .int 7) ev_c (ev_lenStr (ea_cons (ev_var rfl) ea_nil) (by omega)) rv_I0 (fun _ => ev_c) fun _ => rv_I0))) fun _ => et_not (et_B hA)) (fun b H1 e => ?_) (fun b H1 e => ?_)
    · refine s_ret ev_c fun H2 e2 => ?_
      have no : isNumber x = false := by
        rw [len_ok] at b
        unfold isNumber
        rw [Bool.or_eq_true, Bool.not_eq_true', Bool.not_eq_true'] at b
        rcases b with b | b
        · rw [b, Bool.false_and, Bool.false_and]
        · rw [show (TL.tl x).all (fun c => decide (c ∈ TL.tl figures)) = false from b, Bool.and_false, Bool.false_and]
      have := k H2 (e.trans e2)
      rw [no] at this
      exact this
    · rw [len_ok, Bool.or_eq_false_iff, Bool.not_eq_false', Bool.not_eq_false'] at b
      obtain ⟨b1, b2⟩ := b
      obtain ⟨c, r, ex⟩ : ∃ c r, x.cps.toList = c :: r := by
        cases ex : x.cps.toList with
        | nil =>
          rw [Bool.and_eq_true, decide_eq_true_eq, decide_eq_true_eq] at b1
          have := b1.1
          rw [TL.len_tl, show TL.tl x = [] from ex] at this
          exact absurd this (by decide)
        | cons c r => exact ⟨c, r, rfl⟩
      refine s_ret (ev_is (ev_orV (ev_op (ev_var rfl) ev_c (rv_eq rfl)) fun _ => ev_op (ev_op (ev_var rfl) ev_c (rv_ixS (c := c) (by omega) (by rw [ex]; exact atI_nat (j := 0) rfl))) ev_c (rv_ne rfl)) ?_) fun H2 e2 => k H2 (e.trans e2)
      unfold isNumber
      rw [b1, show (TL.tl x).all (fun c => decide (c ∈ TL.tl figures)) = true from b2, show TL.tl x = c :: r from ex, Bool.true_and, Bool.true_and]
      congr 1
      congr 1
      · exact dec_str x ZERO
      · rw [dec_str]
        by_cases h : c = 48
        · subst h
          rfl
        · show (!decide ((⟨#[c]⟩ : Str) = Str.ofString "0")) = !decide (c = 48)
          rw [decide_eq_false fun e => h ?_, decide_eq_false h]
          have := congrArg TL.tl e
          have e2 : TL.tl (Str.ofString "0") = [48] := by decide +kernel
          rw [e2] at this
          injection this
end
end K80

set_option maxRecDepth 100000
set_option maxHeartbeats 4000000
namespace K80
open PySem PySem.Spec PyProof.Rows L2 Evl Pg
def optT : Option (List PyData) → PyData
  | none => .none
  | some l => .tuple l
/-- of a list of words, data -/
def spWords (K : PySem.W.Frag) (g : List Str → PyData) : Sp := fun vs H Q _ => ∃ (a : Addr) (ws : List Str), vs = [.ref a] ∧ SqL K H a (ws.map V.str) ∧ Short ws ∧ RetD K (g ws) H Q
section
variable {P : Program} {w : World} {K : PySem.W.Frag} {mg : Str → Option Value} {base : Heap} {f : Addr} {fd : FuncData}
theorem spv_strB {g : Str → Bool} {x : Str} {H : Hp} (hx : x.length ≤ 1000) : SpV (spStrB g) ([.str x] ++ []) H (.bl (g x)) := fun H1 e Q q E => ⟨x, rfl, hx, fun H2 e2 => q H2 e2⟩
theorem odd_len (n : Nat) : decide (V.int ((n : Int) % 2) = V.int 1) = decide (n % 2 = 1) := by
  by_cases h : n % 2 = 1
  · rw [decide_eq_true h, decide_eq_true (congrArg V.int (by omega))]
  · rw [decide_eq_false h, decide_eq_false fun e => h (by have := V.int.inj e; omega)]
theorem pairs_two (a b : Str) (r : List Str) : pairsP (a :: b :: r) = if isLetters a = true ∧ isNumber b = true then (pairsP r).map fun l => .tuple [.str a, .int (numOf b)] :: l else none := by
  rw [pairsP]
theorem pairs_odd : ∀ ws : List Str, ws.length % 2 = 1 → pairsP ws = none
  | [], h => by cases h
  | [_], _ => rfl
  | a :: b :: r, h => by
    rw [pairs_two, pairs_odd r (by rw [List.length_cons, List.length_cons] at h; omega)]
    split <;> rfl
theorem pairs_cut {ws : List Str} {n : Nat} (h : n + 1 < ws.length) : ∃ x y, ws.drop n = x :: y :: ws.drop (n + 2) ∧ ws[n]? = some x ∧ ws[n + 1]? = some y ∧ x ∈ ws ∧ y ∈ ws := by
  have h0 : n < ws.length := by omega
  refine ⟨ws[n], ws[n + 1], ?_, List.getElem?_eq_getElem h0, List.getElem?_eq_getElem h, List.getElem_mem h0, List.getElem_mem h⟩
  rw [List.drop_eq_getElem_cons h0, List.drop_eq_getElem_cons h]
theorem at_map {ws : List Str} {n : Nat} {x : Str} {i : Int} (h : ws[n]? = some x) (e : i = (n : Int)) : atI (ws.map V.str) i = some (.str x) := by
  rw [e]
  exact atI_nat (by rw [List.getElem?_map, h] <;> rfl)
theorem ok_pairs_of (T : Tx K mg) (C_is_letters : CallOk P w K mg base CX0 1 "is_letters" ["text"] (spStrB isLetters)) (C_is_number : CallOk P w K mg base CX0 1 "is_number" ["text"] (spStrB isNumber))
    (F : Fun K "pairs_of" "pairs_of" s_pairs_of f fd) : FnOk P w K mg base CX0 2 f fd ["words"] (spWords K fun ws => optT (pairsP ws)) := by
  refine F.ok sc_pairs_of (fun vs H Q E h => ?_) (fun cdv A outer s H vs Q E hr h => ?_)
  · obtain ⟨a, ws, rfl, _⟩ := h
    rfl
  · obtain ⟨a, ws, rfl, hS, short, k⟩ := h
    have k : RetD K (optT (pairsP ws)) H Q := k
    refine ⟨_, (pss_cons (ps_if (pt_cmpR op_eq (pe_op op_mod (pe_callB call_len_seq (by rfl) T.b_len bt_len (pa_cons (pv 0) pa_nil)) pe_int) pe_int (nomark _)) (pss_one (ps_ret pe_non)) pss_nil)
      (pss_cons (ps_set (i := 1) sc_pairs_of.nd rfl (Or.inl rfl) (pe_lst pa_nil))
      (pss_cons (ps_for PassesOwn.never rfl (pi_range3 (by rfl) T.b_range (pa_cons pe_int (pa_cons (pe_callB call_len_seq (by rfl) T.b_len bt_len (pa_cons (pv 0) pa_nil)) (pa_cons pe_int pa_nil)))) (pg_name (i := 2) sc_pairs_of.nd rfl (Or.inl rfl)) (pss_cons (ps_if (PW.pt (pw_or (pt_not (pt_val (pe_c C_is_letters (hr.mono (by decide)) (by rfl) (pa_cons (pe_ix ix_list (pv 0) (pv 2) (fun _ _ => rfl)) pa_nil)))) (pw_or1 (pt_not (pt_val (pe_c C_is_number (hr.mono (by decide)) (by rfl) (pa_cons (pe_ix ix_list (pv 0) (pe_op op_add (pv 2) pe_int) (fun _ _ => rfl)) pa_nil))))))) (pss_one (ps_ret pe_non)) pss_nil)
      (pss_one (ps_expr (pe_bm PySem.F.plainAttrs_list PySem.F.slot_list_append PySem.F.type_list_append mt_append (pv 1) (pa_cons (pe_tup (pa_cons (pe_ix ix_list (pv 0) (pv 2) (fun _ _ => rfl)) (pa_cons (pe_callTy call_int_str (by rfl) T.b_int bt_int (pa_cons (pe_ix ix_list (pv 0) (pe_op op_add (pv 2) pe_int) (fun _ _ => rfl)) pa_nil)) pa_nil))) pa_nil))))))
      (pss_one (ps_ret (pe_callTy call_tuple_of (by rfl) T.b_tuple bt_tuple (pa_cons (pv 1) pa_nil))))))), ?_⟩
    refine q_when (et_is (et_test (ev_op (ev_op (ev_lenL (ea_cons (ev_var rfl) ea_nil) hS) ev_c (rv_I (by decide))) ev_c (rv_eq rfl))) (by rw [List.length_map, odd_len])) (fun b H1 e => ?_) (fun b H1 e => ?_)
    · refine s_ret ev_c fun H2 e2 => ?_
      refine k _ _ (e.trans e2) ?_
      rw [pairs_odd ws (of_decide_eq_true b)]
      exact .non
    · have even : ws.length % 2 = 0 := by
        have := of_decide_eq_false b
        omega
      refine q_asgL (el_lst ea_nil (by decide)) fun p H2 hp e2 h2 => ?_
      have hp0 : H p = none := fresh_back e hp
      have turns : (ws.length + 1) / 2 * 2 = ws.length := by omega
      have e02 := e.trans e2
      refine s_forR3 (D := { nx := _, rt := Q }) (ea_cons ev_c (ea_cons (ev_lenL (ea_cons (ev_var rfl) ea_nil) (ex_l e02 hS)) (ea_cons ev_c ea_nil))) (by rw [List.length_map]; exact rg2 (by have := short.count; omega))
        (fun i σ' H' => ∃ (vs : List V) (acc : List PyData) (kk : Option V), σ' = [some (.ref a), some (.ref p), kk] ∧ Evl.Ex H H' ∧ H' p = some (.lst vs) ∧ DpAll K H' vs acc ∧ pureDs acc = true ∧ acc.length = i ∧ pairsP ws = (pairsP (ws.drop (2 * i))).map (acc ++ ·))
        (fun H3 e3 => ⟨[], [], none, rfl, e02.trans e3, e3 p _ h2, .nil, rfl, rfl, by rw [Nat.mul_zero, List.drop_zero]; cases pairsP ws <;> rfl⟩) ?_ ?_
      · rintro i σ' H' hi ⟨vs, acc, kk, rfl, ex, hL, hD, hpure, hlen, hP⟩
        obtain ⟨x, y, hd, hx, hy, mx, my⟩ := pairs_cut (ws := ws) (n := 2 * i) (by omega)
        have lx := (short.len mx).2
        have ly := (short.len my).2
        have hS' := ex_l ex hS
        have vx : ∀ {H2 : Hp}, Evl.Ex H' H2 → Ev (tOp (rIxL K) (tVar 0) (tVar 2)) [some (.ref a), some (.ref p), some (.int (0 + (i : Int) * 2))] H2 (.str x) := fun e2 =>
          ev_op (ev_var rfl) (ev_var rfl) (rv_ixL (ex_l e2 hS') (at_map hx (by omega)))
        have vy : ∀ {H2 : Hp}, Evl.Ex H' H2 → Ev (tOp (rIxL K) (tVar 0) (tOp (rI0 fun i j => V.int (i + j)) (tVar 2) (tC (.int 1)))) [some (.ref a), some (.ref p), some (.int (0 + (i : Int) * 2))] H2 (.str y) := fun e2 =>
          ev_op (ev_var rfl) (ev_op (ev_var rfl) ev_c rv_I0) (rv_ixL (ex_l e2 hS') (at_map hy (by omega)))
        refine q_when (et_or (et_not (et_B (ev_call (ea_cons (vx (Evl.Ex.refl _)) ea_nil) (spv_strB (by omega))))) fun _ => et_not (et_B (ev_call (ea_cons (vy (Evl.Ex.refl _)) ea_nil) (spv_strB (by omega))))) (fun b H3 e3 => ?_) (fun b H3 e3 => ?_)
        · refine s_ret ev_c fun H4 e4 => ?_
          refine k _ _ ((ex.trans e3).trans e4) ?_
          have no : ¬ (isLetters x = true ∧ isNumber y = true) := by
            rintro ⟨z1, z2⟩
            rw [z1, z2] at b
            cases b
          rw [hP, hd, pairs_two, if_neg no]
          exact .non
        · rw [Bool.or_eq_false_iff, Bool.not_eq_false', Bool.not_eq_false'] at b
          have num := isNumber_int b.2
          refine s_appD (e3 p _ hL) (ev_var rfl) (EvD.tup (EvDs.cons (EvD.str (vx e3)) (EvDs.cons (EvD.int (ev_cbv (ea_cons (vy e3) ea_nil) fun _ _ _ q => ⟨y, numOf y, rfl, num.1, num.2, q⟩)) EvDs.nil)) (by show 2 ≤ 100000; decide)) ?_ ?_
          · rw [dps_length hD, hlen]
            have := short.count
            omega
          · intro v H4 e4 hv hL4
            refine ⟨vs ++ [v], acc ++ [.tuple [.str x, .int (numOf y)]], _, rfl, ?_, upd_same, ?_, pureDs_append hpure rfl, by rw [List.length_append, hlen] <;> rfl, ?_⟩
            · exact Evl.Ex.mut ((ex.trans e3).trans e4) hp0
            · exact dps_append (dps_upd hL4 acc vs hpure (dps_mono (e3.trans e4) acc vs hD)) (.cons (dp_upd hL4 _ _ rfl hv) .nil)
            · rw [hP, hd]
              have : 2 * (i + 1) = 2 * i + 2 := by omega
              rw [this]
              rw [pairs_two, if_pos b, Option.map_map]
              congr 1
              funext l
              show acc ++ (PyData.tuple [.str x, .int (numOf y)] :: l) = acc ++ [PyData.tuple [.str x, .int (numOf y)]] ++ l
              rw [List.append_assoc] <;> rfl
      · rintro σ' H' ⟨vs, acc, kk, rfl, ex, hL, hD, hpure, hlen, hP⟩
        refine s_retD (EvD.tupleOf (ea_cons (ev_var rfl) ea_nil) (sq_of hL) hD) ?_
        have done : ws.drop (2 * ((ws.length + 1) / 2)) = [] := List.drop_eq_nil_of_le (by omega)
        rw [done] at hP
        have kk : RetD K (optT (pairsP ws)) H' Q := k.ex ex
        rw [hP] at kk
        have e : acc ++ [] = acc := List.append_nil acc
        simp only [pairsP, Option.map_some, optT, e] at kk
        exact kk
end
end K80

set_option maxRecDepth 100000
set_option maxHeartbeats 4000000
namespace K80
open PySem PySem.Spec PyProof.Rows L2 Evl Pg
theorem countIn_strs (k : Str) : ∀ ys : List Str, countIn (.str k) (ys.map PyData.str) = ((ys.count k : Nat) : Int)
  | [] => rfl
  | y :: ys => by
    rw [List.map_cons, countIn, countIn_strs k ys, List.count_cons]
    have e : same (PyData.str y) (PyData.str k) = (y == k) := rfl
    rw [e]
    by_cases h : (y == k) = true
    · rw [if_pos h, if_pos h]
      omega
    · rw [if_neg h, if_neg h]
      omega
theorem place_two (m t : Str) (r : List Str) : placeP (m :: t :: r) = if isLetters m = true then .tuple [.str wPlace, .str m, .str (Txt.join SP (t :: r))] else .none := rfl
theorem cutAt_of {z : Str} : ∀ {ws : List Str}, 0 < ws.count z → ws[cutAt z ws]? = some z ∧ ∀ m, m < cutAt z ws → ws[m]? ≠ some z
  | [], h => by cases h
  | a :: r, h => by
    unfold cutAt
    by_cases e : a = z
    · subst e
      rw [if_pos rfl]
      exact ⟨rfl, fun m hm => absurd hm (Nat.not_lt_zero m)⟩
    · rw [if_neg e]
      have h2 : 0 < r.count z := by
        rw [List.count_cons_of_ne e] at h
        exact h
      obtain ⟨k1, k2⟩ := cutAt_of h2
      refine ⟨k1, fun m hm => ?_⟩
      cases m with
      | zero => exact fun q => e (Option.some.inj q)
      | succ m => exact k2 m (by omega)
theorem ne_count (n : Nat) : (!decide (V.int ((n : Nat) : Int) = V.int 1)) = !decide (n = 1) := by
  by_cases h : n = 1
  · rw [decide_eq_true h, decide_eq_true (congrArg V.int (by omega))]
  · rw [decide_eq_false h, decide_eq_false fun e => h (by have := V.int.inj e; omega)]
theorem eqV_str (x y : Str) : eqV (.str x) (.str y) = (x == y) := rfl
theorem flat_strs : ∀ ws : List Str, (ws.map V.str).all flatV = true
  | [] => rfl
  | w :: ws => by
    rw [List.map_cons, List.all_cons, flat_strs ws] <;> rfl
theorem dp_opt {K : PySem.W.Frag} {H : Hp} {v : V} {o : Option (List PyData)} (h : Dp K H v (optT o)) : decide (v = .non) = o.isNone := by
  cases o with
  | none => exact decide_eq_true (dp_non h)
  | some l => exact decide_eq_false (dp_ref h)
/-- of the rest of a line -/
def spRest (g : List Str → PyData) (K : PySem.W.Frag) : Sp := fun vs H Q _ => ∃ (t : Str), vs = [.str t] ∧ Line 400 t ∧ RetD K (g (wordsOf t)) H Q
section
variable {P : Program} {w : World} {K : PySem.W.Frag} {mg : Str → Option Value} {base : Heap} {f : Addr} {fd : FuncData}
theorem ok_begin_command (T : Tx K mg) (C_pairs_of : CallOk P w K mg base CX0 2 "pairs_of" ["words"] (spWords K fun ws => optT (pairsP ws)))
    (F : Fun K "begin_command" "begin_command" s_begin_command f fd) : FnOk P w K mg base CX0 3 f fd ["words"] (spWords K beginP) := by
  refine F.ok sc_begin_command (fun vs H Q E h => ?_) (fun cdv A outer s H vs Q E hr h => ?_)
  · obtain ⟨a, ws, rfl, _⟩ := h
    rfl
  · obtain ⟨a, ws, rfl, hS, short, k⟩ := h
    have k : RetD K (beginP ws) H Q := k
    refine ⟨_, (pss_cons (ps_if (pt_cmpR op_ne (pe_bm PySem.F.plainAttrs_list PySem.F.slot_list_count PySem.F.type_list_count mt_count_strs (pv 0) (pa_cons pe_str pa_nil)) pe_int (nomark _)) (pss_one (ps_ret pe_non)) pss_nil)
      (pss_cons (ps_set (i := 1) sc_begin_command.nd rfl (Or.inl rfl) (pe_bm PySem.F.plainAttrs_list PySem.F.slot_list_index PySem.F.type_list_index mt_index (pv 0) (pa_cons pe_str pa_nil)))
      (pss_cons (ps_set (i := 2) sc_begin_command.nd rfl (Or.inl rfl) (pe_c C_pairs_of (hr.mono (by decide)) (by rfl) (pa_cons (pe_slice sl_list (pv 0) po_none (po_some (pv 1))) pa_nil)))
      (pss_cons (ps_set (i := 3) sc_begin_command.nd rfl (Or.inl rfl) (pe_c C_pairs_of (hr.mono (by decide)) (by rfl) (pa_cons (pe_slice sl_list (pv 0) (po_some (pe_op op_add (pv 1) pe_int)) po_none) pa_nil)))
      (pss_cons (ps_if (PW.pt (pw_or (pt_cmpR op_isN (pv 2) pe_non (nomark _)) (pw_or1 (pt_cmpR op_isN (pv 3) pe_non (nomark _))))) (pss_one (ps_ret pe_non)) pss_nil)
      (pss_one (ps_ret (pe_tup (pa_cons pe_str (pa_cons (pv 2) (pa_cons (pv 3) pa_nil))))))))))), ?_⟩
    refine q_when (et_is (et_test (ev_op (ev_bmL (z := .int ((ws.count SEMI : Nat) : Int)) (ev_var rfl) hS (ea_cons ev_c ea_nil) fun H1 e Q q => ⟨a, ws, SEMI, rfl, rfl, ex_l e hS, by rw [countIn_strs]; exact q⟩) ev_c (rv_ne rfl))) (ne_count _)) (fun b H1 e => ?_) (fun b H1 e => ?_)
    · refine s_ret ev_c fun H2 e2 => k _ _ (e.trans e2) ?_
      rw [Bool.not_eq_true', decide_eq_false_iff_not] at b
      unfold beginP
      rw [if_neg b]
      exact .non
    · rw [Bool.not_eq_false', decide_eq_true_iff] at b
      obtain ⟨c1, c2⟩ := cutAt_of (z := SEMI) (ws := ws) (by omega)
      refine q_asg (ev_bmL (z := .int ((cutAt SEMI ws : Nat) : Int)) (ev_var rfl) (ex_l e hS) (ea_cons ev_c ea_nil) fun H2 e2 Q q => ?_) fun H2 e2 => ?_
      · refine ⟨a, ws.map V.str, .str SEMI, cutAt SEMI ws, .str SEMI, rfl, rfl, ex_l (e.trans e2) hS, rfl, flat_strs ws, by rw [List.getElem?_map, c1] <;> rfl, by decide +kernel, fun m z' hm hz => ?_, q⟩
        rw [List.getElem?_map] at hz
        obtain ⟨y, hy, rfl⟩ := Option.map_eq_some_iff.mp hz
        rw [eqV_str]
        exact beq_eq_false_iff_ne.mpr fun q => c2 m hm (by rw [hy, q])
      · have e02 := e.trans e2
        refine q_asgD (EvD.callL (d := optT (pairsP (ws.take (cutAt SEMI ws)))) (el_take (ev_var rfl) (ev_var rfl) (ex_l e02 hS)) fun p H3 e3 hp Q k E => ⟨p, ws.take (cutAt SEMI ws), rfl, sq_of (by rw [hp, List.map_take]), short.take _, k⟩) fun v1 H3 e3 d1 => ?_
        have e03 := e02.trans e3
        refine q_asgD (EvD.callL (d := optT (pairsP (ws.drop (cutAt SEMI ws + 1)))) (el_drop (n := cutAt SEMI ws + 1) (ev_var rfl) (ev_op (ev_var rfl) ev_c rv_I0) (ex_l e03 hS)) fun p H4 e4 hp Q k E => ⟨p, ws.drop (cutAt SEMI ws + 1), rfl, sq_of (by rw [hp, List.map_drop]), short.drop _, k⟩) fun v2 H4 e4 d2 => ?_
        have e04 := e03.trans e4
        have d1' := dp_mono e4 _ _ d1
        refine q_when (et_or (et_test (ev_is (ev_isN rfl) (congrArg V.bl (dp_opt d1)))) fun _ => et_test (ev_is (ev_isN rfl) (congrArg V.bl (dp_opt d2)))) (fun b2 H5 e5 => ?_) (fun b2 H5 e5 => ?_)
        · refine s_ret ev_c fun H6 e6 => k _ _ ((e04.trans e5).trans e6) ?_
          unfold beginP
          rw [if_pos b]
          cases h1 : pairsP (ws.take (cutAt SEMI ws)) with
          | none => exact .non
          | some l1 =>
            cases h2 : pairsP (ws.drop (cutAt SEMI ws + 1)) with
            | none => exact .non
            | some l2 =>
              rw [h1, h2] at b2
              cases b2
        · rw [Bool.or_eq_false_iff] at b2
          cases h1 : pairsP (ws.take (cutAt SEMI ws)) with
          | none =>
            rw [h1] at b2
            cases b2.1
          | some l1 =>
            cases h2 : pairsP (ws.drop (cutAt SEMI ws + 1)) with
            | none =>
              rw [h2] at b2
              cases b2.2
            | some l2 =>
              rw [h1] at d1'
              rw [h2] at d2
              have kk : RetD K (.tuple [.str wBegin, .tuple l1, .tuple l2]) H Q := by
                unfold beginP at k
                rw [if_pos b, h1, h2] at k
                exact k
              exact s_retD (EvD.tup (EvDs.cons (EvD.str ev_c) (EvDs.cons (EvD.var rfl (dp_mono e5 _ _ d1')) (EvDs.cons (EvD.var rfl (dp_mono e5 _ _ d2)) EvDs.nil))) (by show 3 ≤ 100000; decide)) (kk.ex (e04.trans e5))
theorem ok_place_command (T : Tx K mg) (C_is_letters : CallOk P w K mg base CX0 1 "is_letters" ["text"] (spStrB isLetters))
    (F : Fun K "place_command" "place_command" s_place_command f fd) : FnOk P w K mg base CX0 2 f fd ["rest"] (spRest placeP K) := by
  refine F.ok sc_place_command (fun vs H Q E h => ?_) (fun cdv A outer s H vs Q E hr h => ?_)
  · obtain ⟨t, rfl, _⟩ := h
    rfl
  · obtain ⟨t, rfl, line, k⟩ := h
    have k : RetD K (placeP (wordsOf t)) H Q := k
    have small := line.1
    refine ⟨_, (pss_cons (ps_asg (pe_partition (pv 0) pe_str) (pg_tup (by rfl) (pgs_cons (pg_name (i := 1) sc_place_command.nd rfl (Or.inl rfl)) (pgs_cons (pg_name (i := 2) sc_place_command.nd rfl (Or.inl rfl)) (pgs_cons (pg_name (i := 3) sc_place_command.nd rfl (Or.inl rfl)) pgs_nil)))))
      (pss_cons (ps_if (PW.pt (pw_or (pt_cmpR op_eq (pv 2) pe_str (nomark _)) (pw_or1 (pt_not (pt_val (pe_c C_is_letters (hr.mono (by decide)) (by rfl) (pa_cons (pv 1) pa_nil))))))) (pss_one (ps_ret pe_non)) pss_nil)
      (pss_one (ps_ret (pe_tup (pa_cons pe_str (pa_cons (pv 1) (pa_cons (pv 3) pa_nil)))))))), ?_⟩
    refine ⟨.str t, rfl, ⟨t, rfl⟩, t, SP, rfl, rfl, by decide +kernel, sz_of (by omega), fun p hp => ⟨p, _, rfl, st_of upd_same, rfl, _, _, rfl, _, _, rfl, _, _, rfl, rfl, ?_⟩⟩
    have e0 : Evl.Ex H (upd H p (.tup [.str (Txt.partition t SP).1, .str (Txt.partition t SP).2.1, .str (Txt.partition t SP).2.2])) := Evl.Ex.new hp
    generalize upd H p (.tup [.str (Txt.partition t SP).1, .str (Txt.partition t SP).2.1, .str (Txt.partition t SP).2.2]) = H1 at e0 ⊢
    cases hw : wordsOf t with
    | nil => exact absurd hw (words_ne t)
    | cons m r =>
      rw [hw] at k
      have et : t = Txt.join SP (m :: r) := by rw [← hw, words_join]
      have clean : 32 ∉ TL.tl m := words_clean (x := t) (by rw [hw]; exact List.mem_cons_self ..)
      cases r with
      | nil =>
        have part : Txt.partition t SP = (t, Str.empty, Str.empty) := TL.partition_none tl_SP (by rw [et]; exact clean)
        rw [part]
        refine q_when (b := true) (et_or (b := true) (et_test (ev_is (ev_op (ev_var rfl) ev_c (rv_eq rfl)) (congrArg V.bl (decide_eq_true rfl)))) fun z => nomatch z) (fun _ H2 e2 => ?_) (fun z => nomatch z)
        exact s_ret ev_c fun H3 e3 => k _ _ ((e0.trans e2).trans e3) .non
      | cons u r =>
        have part : Txt.partition t SP = (m, SP, Txt.join SP (u :: r)) := by
          rw [et, join_cons]
          exact TL.partition_app tl_SP clean
        have lm : m.length ≤ 1000 := by
          have := mem_wide (p := m) (ps := wordsOf t) (by rw [hw]; exact List.mem_cons_self ..)
          rw [words_wide] at this
          omega
        rw [part]
        refine q_when (et_or (et_test (ev_is (ev_op (ev_var rfl) ev_c (rv_eq rfl)) (congrArg V.bl (show decide (V.str SP = V.str (Str.ofString "")) = false by decide +kernel)))) fun _ => et_not (et_B (ev_call (ea_cons (ev_var rfl) ea_nil) (spv_strB lm)))) (fun b H2 e2 => ?_) (fun b H2 e2 => ?_)
        · refine s_ret ev_c fun H3 e3 => k _ _ ((e0.trans e2).trans e3) ?_
          rw [Bool.false_or, Bool.not_eq_true'] at b
          rw [place_two, if_neg (by rw [b]; exact Bool.false_ne_true)]
          exact .non
        · rw [Bool.false_or, Bool.not_eq_false'] at b
          rw [place_two, if_pos b] at k
          exact s_retD (EvD.tup (EvDs.cons (EvD.str ev_c) (EvDs.cons (EvD.str (ev_var rfl)) (EvDs.cons (EvD.str (ev_var rfl)) EvDs.nil))) (by show 3 ≤ 100000; decide)) (k.ex (e0.trans e2))
end
end K80

set_option maxRecDepth 100000
set_option maxHeartbeats 4000000
namespace K80
open PySem PySem.Spec PyProof.Rows L2 Evl Pg
def numD (x : Str) : PyData := .int (numOf x)
/-- a command about numbers of trees: its word, a mark, so many numbers -/
def counted (f : Str) (many : Nat) (m : Str) (ns : List Str) : PyData :=
  if isLetters m = true ∧ ns.length = many ∧ ns.all isNumber = true then .tuple ([.str f, .str m] ++ ns.map numD) else .none
theorem count_is (m : Str) (ns : List Str) : countP (m :: ns) = counted wCount 1 m ns := by
  unfold counted
  match ns with
  | [] =>
    rw [if_neg (fun h => by cases h.2.1)] <;> rfl
  | [n] =>
    show (if isLetters m = true ∧ isNumber n = true then _ else _) = _
    by_cases h : isLetters m = true ∧ isNumber n = true
    · rw [if_pos h, if_pos ⟨h.1, rfl, by rw [List.all_cons, h.2] <;> rfl⟩] <;> rfl
    · rw [if_neg h, if_neg fun z => h ⟨z.1, by have := z.2.2; rw [List.all_cons, Bool.and_eq_true] at this; exact this.1⟩]
  | a :: b :: r =>
    rw [if_neg (fun h => by have := h.2.1; rw [List.length_cons, List.length_cons] at this; omega)] <;> rfl
theorem tree_is (m : Str) (ns : List Str) : treeP (m :: ns) = counted wTree 2 m ns := by
  unfold counted
  match ns with
  | [] => rw [if_neg (fun h => by cases h.2.1)] <;> rfl
  | [n] => rw [if_neg (fun h => by cases h.2.1)] <;> rfl
  | [n, k] =>
    show (if isLetters m = true ∧ isNumber n = true ∧ isNumber k = true then _ else _) = _
    by_cases h : isLetters m = true ∧ isNumber n = true ∧ isNumber k = true
    · rw [if_pos h, if_pos ⟨h.1, rfl, by rw [List.all_cons, List.all_cons, h.2.1, h.2.2] <;> rfl⟩] <;> rfl
    · rw [if_neg h, if_neg fun z => h ⟨z.1, by
        have := z.2.2
        rw [List.all_cons, List.all_cons, Bool.and_eq_true, Bool.and_eq_true] at this
        exact ⟨this.1, this.2.1⟩⟩]
  | a :: b :: c :: r =>
    rw [if_neg (fun h => by have := h.2.1; rw [List.length_cons, List.length_cons, List.length_cons] at this; omega)] <;> rfl
def spCounted (K : PySem.W.Frag) : Sp := fun vs H Q _ => ∃ (a : Addr) (f : Str) (r : List Str), vs = [.ref a] ∧ SqL K H a ((f :: r).map V.str) ∧ Short (f :: r) ∧
  ((f = wCount ∧ RetD K (countP r) H Q) ∨ (f = wTree ∧ RetD K (treeP r) H Q))
theorem ev_want {σ : L2.St} {H : Hp} {ti : TE} {f : Str} {n : Nat} (h : (f = wCount ∧ n = 1) ∨ (f = wTree ∧ n = 2)) (hi : Ev ti σ H (.str f)) :
    Ev (tDGet (tDisp [(tC (.str wCount), tC (.int 1)), (tC (.str wTree), tC (.int 2))]) ti) σ H (.int (n : Int)) := fun H1 e Q q p hp => by
  refine ⟨upd_same, [(Sum.inr wCount, .int 1), (Sum.inr wTree, .int 2)], rfl, (by show 2 ≤ 15; decide), ?_⟩
  have ex : Evl.Ex H1 (upd (upd H1 p (.dK [])) p (.dK (mergeK [] [(Sum.inr wCount, .int 1), (Sum.inr wTree, .int 2)]))) := Evl.Ex.mut (Evl.Ex.new hp) hp
  refine hi _ (e.trans ex) _ fun H2 e2 => ⟨p, .int (n : Int), rfl, ?_, q H2 (ex.trans e2)⟩
  have g := DGet.k (k := Sum.inr f) (e2 p _ upd_same)
  have m : mergeK [] [((Sum.inr wCount : Key), V.int 1), (Sum.inr wTree, .int 2)] = [(Sum.inr wCount, .int 1), (Sum.inr wTree, .int 2)] := by decide +kernel
  rw [m] at g
  rcases h with ⟨rfl, rfl⟩ | ⟨rfl, rfl⟩
  · have v : valV [((Sum.inr wCount : Key), V.int 1), (Sum.inr wTree, .int 2)] (Sum.inr wCount) = some (.int 1) := by decide +kernel
    rw [v] at g
    exact g
  · have v : valV [((Sum.inr wCount : Key), V.int 1), (Sum.inr wTree, .int 2)] (Sum.inr wTree) = some (.int 2) := by decide +kernel
    rw [v] at g
    exact g
theorem ne_len (n m : Nat) : (!decide (V.int ((n : Nat) : Int) = V.int ((m : Nat) : Int))) = !decide (n = m) := by
  by_cases h : n = m
  · rw [decide_eq_true h, decide_eq_true (congrArg V.int (by omega))]
  · rw [decide_eq_false h, decide_eq_false fun e => h (by have := V.int.inj e; omega)]
theorem dps_nums {K : PySem.W.Frag} {H : Hp} : ∀ ns : List Str, DpAll K H (ns.map fun y => V.int (numOf y)) (ns.map numD)
  | [] => .nil
  | n :: ns => .cons (.int _) (dps_nums ns)
section
variable {P : Program} {w : World} {K : PySem.W.Frag} {mg : Str → Option Value} {base : Heap} {f : Addr} {fd : FuncData}
theorem ok_counted_command (T : Tx K mg) (C_is_letters : CallOk P w K mg base CX0 1 "is_letters" ["text"] (spStrB isLetters)) (C_is_number : CallOk P w K mg base CX0 1 "is_number" ["text"] (spStrB isNumber))
    (F : Fun K "counted_command" "counted_command" s_counted_command f fd) : FnOk P w K mg base CX0 2 f fd ["words"] (spCounted K) := by
  refine F.ok sc_counted_command (fun vs H Q E h => ?_) (fun cdv A outer s H vs Q E hr h => ?_)
  · obtain ⟨a, f, r, rfl, _⟩ := h
    rfl
  · obtain ⟨a, f, r, rfl, hS, short, k⟩ := h
    refine ⟨_, (pss_cons (ps_if (PW.pt (pw_or (pt_cmpR op_lt (pe_callB call_len_seq (by rfl) T.b_len bt_len (pa_cons (pv 0) pa_nil)) pe_int (nomark _)) (pw_or1 (pt_not (pt_val (pe_c C_is_letters (hr.mono (by decide)) (by rfl) (pa_cons (pe_ix ix_list (pv 0) pe_int (fun _ _ => rfl)) pa_nil))))))) (pss_one (ps_ret pe_non)) pss_nil)
      (pss_cons (ps_set (i := 1) sc_counted_command.nd rfl (Or.inl rfl) (pe_slice sl_list (pv 0) (po_some pe_int) po_none))
      (pss_cons (ps_if (PW.pt (pw_or (pt_cmpR op_ne (pe_callB call_len_seq (by rfl) T.b_len bt_len (pa_cons (pv 1) pa_nil)) (pe_dget (hu_of hr) (pe_disp (pps_cons pe_str pe_int (pps_cons pe_str pe_int pps_nil)) (by rfl) (by rfl) (fun z => by cases z) (by decide)) (pe_ix ix_list (pv 0) pe_int (fun _ _ => rfl)) (fun _ _ => rfl)) (nomark _)) (pw_or1 (pt_not (pt_val (pe_callB (cr_all rfl) (by rfl) T.b_all bt_all (pa_cons (pe_lc (own := [("word", 2)]) (g := gName 2) (tt := tYes) rfl sc_counted_command.nd (pi_list (pv 1)) (blkOk_by (own := [("word", 2)]) (N := N_counted_command) (sc := defScope s_counted_command) (by decide +kernel)) (fun _ _ _ _ _ => (pg_name (i := 2) sc_counted_command.nd rfl (Or.inl rfl))) (fun _ _ _ _ _ => pts_nil) (fun _ _ _ _ _ => (pe_c C_is_number (hr.mono (by decide)) (by rfl) (pa_cons (pv 2) pa_nil)))) pa_nil))))))) (pss_one (ps_ret pe_non)) pss_nil)
      (pss_one (ps_ret (pe_tup (pa_cons (pe_ix ix_list (pv 0) pe_int (fun _ _ => rfl)) (pa_cons (pe_ix ix_list (pv 0) pe_int (fun _ _ => rfl)) (StX.pa_star (pe_lc (own := [("word", 2)]) (g := gName 2) (tt := tYes) rfl sc_counted_command.nd (pi_list (pv 1)) (blkOk_by (own := [("word", 2)]) (N := N_counted_command) (sc := defScope s_counted_command) (by decide +kernel)) (fun _ _ _ _ _ => (pg_name (i := 2) sc_counted_command.nd rfl (Or.inl rfl))) (fun _ _ _ _ _ => pts_nil) (fun _ _ _ _ _ => (pe_callTy call_int_str (by rfl) T.b_int bt_int (pa_cons (pv 2) pa_nil)))) pa_nil))))))))), ?_⟩
    have get : ∀ {n : Nat} {x : Str} {σ : L2.St} {H1 : Hp}, (f :: r)[n]? = some x → Evl.Ex H H1 → σ[0]? = some (some (.ref a)) → Ev (tOp (rIxL K) (tVar 0) (tC (.int (n : Int)))) σ H1 (.str x) := fun hx e h0 =>
      ev_op (ev_var h0) ev_c (rv_ixL (ex_l e hS) (at_map hx rfl))
    cases r with
    | nil =>
      refine q_when (b := true) (et_or (b := true) (et_is (et_test (ev_op (ev_lenL (ea_cons (ev_var rfl) ea_nil) hS) ev_c rv_I0)) (decide_eq_true (by show (1 : Int) < 3; decide))) fun z => nomatch z) (fun _ H2 e2 => ?_) (fun z => nomatch z)
      refine s_ret ev_c fun H3 e3 => ?_
      rcases k with ⟨_, k⟩ | ⟨_, k⟩ <;> exact k _ _ (e2.trans e3) .non
    | cons m ns =>
      have k : ∃ n, ((f = wCount ∧ n = 1) ∨ (f = wTree ∧ n = 2)) ∧ RetD K (counted f n m ns) H Q := by
        rcases k with ⟨e, k⟩ | ⟨e, k⟩
        · rw [count_is] at k
          exact ⟨1, .inl ⟨e, rfl⟩, by rw [e]; exact k⟩
        · rw [tree_is] at k
          exact ⟨2, .inr ⟨e, rfl⟩, by rw [e]; exact k⟩
      obtain ⟨n, which, k⟩ := k
      have lm := (short.len (p := m) (by simp)).2
      have len3 : decide ((((f :: m :: ns).map V.str).length : Int) < 3) = decide (ns.length < 1) := by
        rw [List.length_map, List.length_cons, List.length_cons]
        by_cases h : ns.length < 1
        · rw [decide_eq_true h, decide_eq_true (by omega)]
        · rw [decide_eq_false h, decide_eq_false (by omega)]
      have no : ∀ {H1 : Hp}, Evl.Ex H H1 → ¬ (isLetters m = true ∧ ns.length = n ∧ ns.all isNumber = true) → Q .non H1 := fun e z => by
        unfold counted at k
        rw [if_neg z] at k
        exact k _ _ e .non
      refine q_when (et_or (et_is (et_test (ev_op (ev_lenL (ea_cons (ev_var rfl) ea_nil) hS) ev_c rv_I0)) len3) fun _ => et_not (et_B (ev_call (ea_cons (get (n := 1) rfl (Evl.Ex.refl _) rfl) ea_nil) (spv_strB (by omega))))) (fun b H1 e => ?_) (fun b H1 e => ?_)
      · refine s_ret ev_c fun H2 e2 => no (e.trans e2) ?_
        rintro ⟨z1, z2, _⟩
        rw [z1, Bool.not_true, Bool.or_false] at b
        have := of_decide_eq_true b
        rcases which with ⟨_, rfl⟩ | ⟨_, rfl⟩ <;> omega
      · rw [Bool.or_eq_false_iff, Bool.not_eq_false'] at b
        refine q_asgL (el_drop (n := 2) (ev_var rfl) ev_c (ex_l e hS)) fun p H2 hp e2 h2 => ?_
        have h2 : SqL K H2 p (ns.map V.str) := sq_of h2
        have e02 := e.trans e2
        have few : ns.length ≤ 401 := by have := short.count; rw [List.length_cons, List.length_cons] at this; omega
        have tests : EvL (tLc (iList K (tVar 1)) (gName 2) tYes (tCall (spStrB isNumber) [] E0 (tCons (tVar 2) tNil)) [2]) [some (.ref a), some (.ref p), none] H2 ((ns.map isNumber).map V.bl) := by
          have q := el_lcM (K := K) (te := tCall (spStrB isNumber) [] E0 (tCons (tVar 2) tNil)) (vs := [2]) (j := 2) Str.empty (fun _ => true) (fun y => V.bl (isNumber y)) (ev_var (σ := [some (.ref a), some (.ref p), none]) (i := 1) rfl) h2 (by omega) (fun _ => rfl) (fun _ _ _ _ => et_yes)
            (fun y H3 e3 hy _ => ev_call (ea_cons (ev_var rfl) ea_nil) (spv_strB (by have := (short.len (p := y) (by simp [hy])).2; omega)))
          rw [map_bl] at q
          exact q
        have all := ev_allEL (K := K) tests
        rw [all_map] at all
        refine q_when (et_or (et_is (et_test (ev_op (ev_lenL (ea_cons (ev_var rfl) ea_nil) h2) (ev_want which (get (n := 0) rfl e02 rfl)) (rv_ne rfl))) (by rw [List.length_map, ne_len])) fun _ => et_not (et_B all)) (fun b2 H3 e3 => ?_) (fun b2 H3 e3 => ?_)
        · refine s_ret ev_c fun H4 e4 => no ((e02.trans e3).trans e4) ?_
          rintro ⟨_, z1, z2⟩
          rw [z2, decide_eq_true z1] at b2
          cases b2
        · rw [Bool.or_eq_false_iff, Bool.not_eq_false', Bool.not_eq_false', decide_eq_true_iff] at b2
          have e03 := e02.trans e3
          have h3 := ex_l e3 h2
          unfold counted at k
          rw [if_pos ⟨b.2, b2.1, b2.2⟩] at k
          have whole : EvL (tLc (iList K (tVar 1)) (gName 2) tYes (tCB (fun xs H Q => ∃ a n, xs = [.str a] ∧ PySem.intText? a = some n ∧ a.length ≤ 640 ∧ Q (.int n) H) (tCons (tVar 2) tNil)) [2]) [some (.ref a), some (.ref p), none] H3 (ns.map fun y => V.int (numOf y)) := by
            have q := el_lcM (K := K) (te := tCB (fun xs H Q => ∃ a n, xs = [.str a] ∧ PySem.intText? a = some n ∧ a.length ≤ 640 ∧ Q (.int n) H) (tCons (tVar 2) tNil)) (vs := [2]) (j := 2) Str.empty (fun _ => true) (fun y => V.int (numOf y)) (ev_var (σ := [some (.ref a), some (.ref p), none]) (i := 1) rfl) h3 (by omega) (fun _ => rfl) (fun _ _ _ _ => et_yes)
              (fun y H4 e4 hy _ => ev_cbv (ea_cons (ev_var rfl) ea_nil) fun _ _ _ q => by
                have num := isNumber_int (List.all_eq_true.mp b2.2 y hy)
                exact ⟨y, numOf y, rfl, num.1, num.2, q⟩)
            rw [List.filter_eq_self.mpr fun _ _ => rfl] at q
            exact q
          refine s_retD (EvD.tup (EvDs.cons (EvD.str (get (n := 0) rfl e03 rfl)) (EvDs.cons (EvD.str (get (n := 1) rfl e03 rfl)) (ds := ns.map numD) ?_)) ?_) (k.ex e03)
          · have := EvDs.star (K := K) (es := []) whole (fun _ _ => dps_nums ns) EvDs.nil
            rw [List.append_nil] at this
            exact this
          · rw [List.length_cons, List.length_cons, List.length_map]
            omega
end
end K80

set_option maxRecDepth 100000
set_option maxHeartbeats 4000000
namespace K80
open PySem PySem.Spec PyProof.Rows L2 Evl Pg
theorem inV_strs (f : Str) : ∀ ws : List Str, inV (.str f) (ws.map V.str) = decide (f ∈ ws)
  | [] => rfl
  | w :: ws => by
    have ih := inV_strs f ws
    unfold inV at ih ⊢
    rw [List.map_cons, List.any_cons, ih]
    show ((w == f) || decide (f ∈ ws)) = decide (f ∈ w :: ws)
    by_cases h : w = f
    · subst h
      rw [beq_self_eq_true, Bool.true_or, decide_eq_true (List.mem_cons_self ..)]
    · rw [beq_eq_false_iff_ne.mpr h, Bool.false_or]
      by_cases k : f ∈ ws
      · rw [decide_eq_true k, decide_eq_true (List.mem_cons_of_mem _ k)]
      · rw [decide_eq_false k, decide_eq_false fun z => by
          rcases List.mem_cons.mp z with z | z
          · exact h z.symm
          · exact k z]
theorem gt_one (n : Nat) : decide ((1 : Int) < ((n + 1 : Nat) : Int)) = decide (0 < n) := by
  by_cases h : 0 < n
  · rw [decide_eq_true h, decide_eq_true (by omega)]
  · rw [decide_eq_false h, decide_eq_false (by omega)]
theorem eq_num (n m : Nat) : decide (V.int ((n : Nat) : Int) = V.int ((m : Nat) : Int)) = decide (n = m) := by
  by_cases h : n = m
  · rw [decide_eq_true h, decide_eq_true (congrArg V.int (by omega))]
  · rw [decide_eq_false h, decide_eq_false fun e => h (by have := V.int.inj e; omega)]
theorem empty_len {x : Str} : x = Str.ofString "" ↔ x.length = 0 := by
  constructor
  · intro h
    rw [h]
    decide +kernel
  · intro h
    refine TL.ext_tl ?_
    rw [(TL.len0_tl x).mp h]
    decide +kernel
def rSplit : V → List V → Hp → VK → Prop := fun x xs H Q => ∃ a b, x = .str a ∧ xs = [.str b] ∧ (b.length == 0) = false ∧ a.length + 2 ≤ sizeLine ∧ rNewStrs (Txt.split a b) H Q
theorem el_split {σ : L2.St} {H : Hp} {to te : TE} {x : Str} (h : Ev to σ H (.str x)) (hs : Ev te σ H (.str SP)) (n : x.length ≤ 10000) : EvL (tM1 rSplit to te) σ H ((wordsOf x).map V.str) := fun H1 e Q q =>
  h H1 e _ fun H2 e2 => ⟨⟨x, rfl⟩, hs H2 (e.trans e2) _ fun H3 e3 => ⟨x, SP, rfl, rfl, by decide +kernel, sz_of (by omega), fun p hp => q p _ (fresh_back (e2.trans e3) hp) ((e2.trans e3).trans (Evl.Ex.new hp)) upd_same⟩⟩
/-- behind the first word and a space -/
theorem behind {f : Str} {r : List Str} (h : r ≠ []) : cutS (Txt.join SP (f :: r)) (some ((f.length + 1 : Nat) : Int)) none = Txt.join SP r := by
  cases r with
  | nil => exact absurd rfl h
  | cons q r =>
    refine TL.ext_tl ?_
    rw [tl_dropS, join_cons, TL.tl_append, TL.tl_append, tl_SP, List.append_assoc, TL.len_tl]
    have : (TL.tl f).length + 1 = (TL.tl f ++ [32]).length := by rw [List.length_append] <;> rfl
    rw [this, ← List.append_assoc]
    exact List.drop_left
theorem cmd_texts {f : Str} {r : List Str} (h : f ∈ wTexts) (k : r ≠ []) : cmdF f r = .tuple [.str f, .str (Txt.join SP r)] := by
  unfold cmdF
  rw [if_pos h, if_neg k]
theorem cmd_place (r : List Str) : cmdF wPlace r = placeP r := by
  unfold cmdF
  rw [if_neg is_place.1, if_pos rfl]
theorem cmd_bare {f : Str} (h : f ∈ wBare) : cmdF f [] = .tuple [.str f] := by
  obtain ⟨h1, h2, _⟩ := mem_bare h
  unfold cmdF
  rw [if_neg h1, if_neg h2, if_pos h, if_pos rfl]
theorem cmd_numbered {f n : Str} (h : f ∈ wNumbered) (k : isNumber n = true) : cmdF f [n] = .tuple [.str f, .int (numOf n)] := by
  obtain ⟨h1, h2, h3, _⟩ := mem_numbered h
  unfold cmdF
  rw [if_neg h1, if_neg h2, if_neg h3, if_pos h]
  show (if isNumber n = true then _ else _) = _
  rw [if_pos k]
theorem cmd_rowed {f : Str} {r : List Str} (h : f ∈ wRowed) (k : r.all isLetters = true) : cmdF f r = .tuple ((f :: r).map PyData.str) := by
  obtain ⟨h1, h2, h3, h4, _⟩ := mem_rowed h
  unfold cmdF
  rw [if_neg h1, if_neg h2, if_neg h3, if_neg h4, if_pos h, if_pos k]
theorem cmd_begin (r : List Str) : cmdF wBegin r = beginP r := by
  obtain ⟨h1, h2, h3, h4, h5, _⟩ := is_begin
  unfold cmdF
  rw [if_neg h1, if_neg h2, if_neg h3, if_neg h4, if_neg h5, if_pos rfl]
theorem cmd_count (r : List Str) : cmdF wCount r = countP r := by
  obtain ⟨h1, h2, h3, h4, h5, h6, _⟩ := is_count
  unfold cmdF
  rw [if_neg h1, if_neg h2, if_neg h3, if_neg h4, if_neg h5, if_neg h6, if_pos rfl]
theorem cmd_tree (r : List Str) : cmdF wTree r = treeP r := by
  obtain ⟨h1, h2, h3, h4, h5, h6, h7⟩ := is_tree
  unfold cmdF
  rw [if_neg h1, if_neg h2, if_neg h3, if_neg h4, if_neg h5, if_neg h6, if_neg h7, if_pos rfl]
/-- a line of no form -/
theorem cmd_none {f : Str} {r : List Str} (h1 : ¬ (f ∈ wTexts ∧ r ≠ [])) (h2 : f = wPlace → placeP r = .none) (h3 : ¬ (f ∈ wBare ∧ r = [])) (h4 : f ∈ wNumbered → ∀ n, r = [n] → isNumber n = false)
    (h5 : ¬ (f ∈ wRowed ∧ r.all isLetters = true)) (h6 : f = wBegin → beginP r = .none) (h7 : f = wCount → countP r = .none) (h8 : f = wTree → treeP r = .none) : cmdF f r = .none := by
  unfold cmdF
  split
  · rename_i a
    split
    · rfl
    · rename_i b
      exact absurd ⟨a, b⟩ h1
  · split
    · rename_i a
      exact h2 a
    · split
      · rename_i a
        split
        · rename_i b
          exact absurd ⟨a, b⟩ h3
        · rfl
      · split
        · rename_i a
          match r, h4 with
          | [], _ => rfl
          | [n], h4 =>
            show (if isNumber n = true then _ else _) = _
            rw [if_neg (by rw [h4 a n rfl]; exact Bool.false_ne_true)]
          | _ :: _ :: _, _ => rfl
        · split
          · rename_i a
            split
            · rename_i b
              exact absurd ⟨a, b⟩ h5
            · rfl
          · split
            · rename_i a
              exact h6 a
            · split
              · rename_i a
                exact h7 a
              · split
                · rename_i a
                  exact h8 a
                · rfl
/-- of a line, data -/
def spLine (K : PySem.W.Frag) (g : Str → PyData) : Sp := fun vs H Q _ => ∃ (x : Str), vs = [.str x] ∧ Line 400 x ∧ RetD K (g x) H Q
section
variable {P : Program} {w : World} {K : PySem.W.Frag} {mg : Str → Option Value} {base : Heap} {f : Addr} {fd : FuncData}
theorem ok_read_command (T : Tx K mg) (C_is_letters : CallOk P w K mg base CX0 1 "is_letters" ["text"] (spStrB isLetters)) (C_is_number : CallOk P w K mg base CX0 1 "is_number" ["text"] (spStrB isNumber))
    (C_place_command : CallOk P w K mg base CX0 2 "place_command" ["rest"] (spRest placeP K)) (C_begin_command : CallOk P w K mg base CX0 3 "begin_command" ["words"] (spWords K beginP))
    (C_counted_command : CallOk P w K mg base CX0 2 "counted_command" ["words"] (spCounted K))
    (F : Fun K "read_command" "read_command" s_read_command f fd) : FnOk P w K mg base CX0 4 f fd ["line"] (spLine K cmdP) := by
  refine F.ok sc_read_command (fun vs H Q E h => ?_) (fun cdv A outer s H vs Q E hr h => ?_)
  · obtain ⟨x, rfl, _⟩ := h
    rfl
  · obtain ⟨x, rfl, line, k⟩ := h
    obtain ⟨aT, g_TEXTS, hT⟩ := T.g_TEXTS
    obtain ⟨aB, g_BARE, hB⟩ := T.g_BARE
    obtain ⟨aN, g_NUMBERED, hN⟩ := T.g_NUMBERED
    obtain ⟨aR, g_ROWED, hR⟩ := T.g_ROWED
    have small := line.1
    refine ⟨_, (pss_cons (ps_if (pt_cmpR op_eq (pv 0) pe_str (nomark _)) (pss_one (ps_ret (pe_tup pa_nil))) pss_nil)
      (pss_cons (ps_set (i := 1) sc_read_command.nd rfl (Or.inl rfl) (pe_split (pv 0) pe_str))
      (pss_cons (ps_set (i := 2) sc_read_command.nd rfl (Or.inl rfl) (pe_ix ix_list (pv 1) pe_int (fun _ _ => rfl)))
      (pss_cons (ps_if (PW.pt (pw_and (pt_cmpR op_in_seq (pv 2) (pe_globR (by rfl) g_TEXTS) (by rfl)) (pw_and1 (pt_cmpR op_gt (pe_callB call_len_seq (by rfl) T.b_len bt_len (pa_cons (pv 1) pa_nil)) pe_int (nomark _))))) (pss_one (ps_ret (pe_tup (pa_cons (pv 2) (pa_cons (pe_slice sl_str (pv 0) (po_some (pe_op op_add (pe_callB call_len_str (by rfl) T.b_len bt_len (pa_cons (pv 2) pa_nil)) pe_int)) po_none) pa_nil))))) pss_nil)
      (pss_cons (ps_if (PW.pt (pw_and (pt_cmpR op_eq (pv 2) pe_str (nomark _)) (pw_and1 (pt_cmpR op_gt (pe_callB call_len_seq (by rfl) T.b_len bt_len (pa_cons (pv 1) pa_nil)) pe_int (nomark _))))) (pss_one (ps_ret (pe_c C_place_command (hr.mono (by decide)) (by rfl) (pa_cons (pe_slice sl_str (pv 0) (po_some (pe_op op_add (pe_callB call_len_str (by rfl) T.b_len bt_len (pa_cons (pv 2) pa_nil)) pe_int)) po_none) pa_nil)))) pss_nil)
      (pss_cons (ps_if (PW.pt (pw_and (pt_cmpR op_in_seq (pv 2) (pe_globR (by rfl) g_BARE) (by rfl)) (pw_and1 (pt_cmpR op_eq (pe_callB call_len_seq (by rfl) T.b_len bt_len (pa_cons (pv 1) pa_nil)) pe_int (nomark _))))) (pss_one (ps_ret (pe_tup (pa_cons (pv 2) pa_nil)))) pss_nil)
      (pss_cons (ps_if (PW.pt (pw_and (pt_cmpR op_in_seq (pv 2) (pe_globR (by rfl) g_NUMBERED) (by rfl)) (pw_and (pt_cmpR op_eq (pe_callB call_len_seq (by rfl) T.b_len bt_len (pa_cons (pv 1) pa_nil)) pe_int (nomark _)) (pw_and1 (pt_val (pe_c C_is_number (hr.mono (by decide)) (by rfl) (pa_cons (pe_ix ix_list (pv 1) pe_int (fun _ _ => rfl)) pa_nil))))))) (pss_one (ps_ret (pe_tup (pa_cons (pv 2) (pa_cons (pe_callTy call_int_str (by rfl) T.b_int bt_int (pa_cons (pe_ix ix_list (pv 1) pe_int (fun _ _ => rfl)) pa_nil)) pa_nil))))) pss_nil)
      (pss_cons (ps_if (PW.pt (pw_and (pt_cmpR op_in_seq (pv 2) (pe_globR (by rfl) g_ROWED) (by rfl)) (pw_and1 (pt_val (pe_callB (cr_all rfl) (by rfl) T.b_all bt_all (pa_cons (pe_lc (own := [("word", 3)]) (g := gName 3) (tt := tYes) rfl sc_read_command.nd (pi_list (pv 1)) (blkOk_by (own := [("word", 3)]) (N := N_read_command) (sc := defScope s_read_command) (by decide +kernel)) (fun _ _ _ _ _ => (pg_name (i := 3) sc_read_command.nd rfl (Or.inl rfl))) (fun _ _ _ _ _ => pts_nil) (fun _ _ _ _ _ => (pe_c C_is_letters (hr.mono (by decide)) (by rfl) (pa_cons (pv 3) pa_nil)))) pa_nil)))))) (pss_one (ps_ret (pe_callTy call_tuple_of (by rfl) T.b_tuple bt_tuple (pa_cons (pv 1) pa_nil)))) pss_nil)
      (pss_cons (ps_if (pt_cmpR op_eq (pv 2) pe_str (nomark _)) (pss_one (ps_ret (pe_c C_begin_command (hr.mono (by decide)) (by rfl) (pa_cons (pe_slice sl_list (pv 1) (po_some pe_int) po_none) pa_nil)))) pss_nil)
      (pss_cons (ps_if (PW.pt (pw_or (pt_cmpR op_eq (pv 2) pe_str (nomark _)) (pw_or1 (pt_cmpR op_eq (pv 2) pe_str (nomark _))))) (pss_one (ps_ret (pe_c C_counted_command (hr.mono (by decide)) (by rfl) (pa_cons (pv 1) pa_nil)))) pss_nil)
      (pss_one (ps_ret pe_non)))))))))))), ?_⟩
    refine q_when (et_is (et_test (ev_op (ev_var rfl) ev_c (rv_eq rfl))) (dec_str _ _)) (fun b H1 e => ?_) (fun b H1 e => ?_)
    · have := empty_len.mp (of_decide_eq_true b)
      unfold cmdP at k
      rw [if_pos this] at k
      exact s_retD (K := K) (EvD.tup EvDs.nil (by decide)) (k.ex e)
    · have ne : ¬ x.length = 0 := fun z => of_decide_eq_false b (empty_len.mpr z)
      have k : RetD K (cmdW (wordsOf x)) H Q := by
        unfold cmdP at k
        rw [if_neg ne] at k
        exact k
      have short := short_of line
      have whole := words_join x
      have clean : ∀ q ∈ wordsOf x, 32 ∉ TL.tl q := fun q hq => words_clean hq
      refine q_asgL (el_split (ev_var rfl) ev_c (by omega)) fun p H2 hp e2 h2 => ?_
      have e02 := e.trans e2
      generalize wordsOf x = ws at k short h2 whole clean
      cases ws with
      | nil => 
        have := congrArg Str.length whole
        exact absurd this.symm ne
      | cons f r =>
        have k : RetD K (cmdF f r) H Q := k
        have h2 : SqL K H2 p ((f :: r).map V.str) := sq_of h2
        have lf := (short.len (p := f) (by simp)).2
        have few : r.length ≤ 401 := by have := short.count; rw [List.length_cons] at this; omega
        refine q_asg (ev_op (ev_var rfl) ev_c (rv_ixL h2 (at_map (n := 0) rfl rfl))) fun H3 e3 => ?_
        have e03 := e02.trans e3
        have h3 := ex_l e3 h2
        have ll : ((f :: r).map V.str).length = r.length + 1 := by rw [List.length_map, List.length_cons]
        have tail : ∀ {H4 : Hp}, r ≠ [] → Ev (tSl rSlS (tVar 0) (tPart (tOp (rI0 fun i j => V.int (i + j)) (tCB (fun xs H Q => ∃ x, xs = [.str x] ∧ x.length ≤ sizeLine ∧ Q (.int x.length) H) (tCons (tVar 2) tNil)) (tC (.int 1)))) tNoPart) [some (.str x), some (.ref p), some (.str f), none] H4 (.str (Txt.join SP r)) := fun {H4} hr => by
          have n1 : Ev (tOp (rI0 fun i j => V.int (i + j)) (tCB (fun xs H Q => ∃ x, xs = [.str x] ∧ x.length ≤ sizeLine ∧ Q (.int x.length) H) (tCons (tVar 2) tNil)) (tC (.int 1))) [some (.str x), some (.ref p), some (.str f), none] H4 (.int ((f.length + 1 : Nat) : Int)) :=
            ev_op (ev_lenStr (ea_cons (ev_var (i := 2) rfl) ea_nil) (by omega)) ev_c (rv_I0 (i := (f.length : Int)) (j := 1))
          have q := ev_dropS (σ := [some (.str x), some (.ref p), some (.str f), none]) (te := tVar 0) (x := x) (n := f.length + 1) (ev_var rfl) n1 (by omega)
          rw [← whole, behind hr, whole] at q
          exact q
        have isIn : ∀ {H4 : Hp} {a : Addr} {xs : List Str}, (∀ H, SqT K H a (xs.map V.str)) → Ev (tOp (rIn K false) (tVar 2) (tC (.ref a))) [some (.str x), some (.ref p), some (.str f), none] H4 (.bl (decide (f ∈ xs))) := fun {H4 a xs} hx => by
          have q := ev_op (H := H4) (r := rIn K false) (ev_var (σ := [some (.str x), some (.ref p), some (.str f), none]) (i := 2) rfl) ev_c (rv_isT (hx _) rfl (flat_strs _))
          rw [inV_strs] at q
          exact q
        have isEq : ∀ {H4 : Hp} {y : Str}, Ev (tOp rEq (tVar 2) (tC (.str y))) [some (.str x), some (.ref p), some (.str f), none] H4 (.bl (decide (f = y))) := fun {H4 y} =>
          ev_is (ev_op (ev_var rfl) ev_c (rv_eq rfl)) (congrArg V.bl (dec_str _ _))
        have len : ∀ {H4 : Hp}, Evl.Ex H3 H4 → Ev (tCB (rLenS K) (tCons (tVar 1) tNil)) [some (.str x), some (.ref p), some (.str f), none] H4 (.int ((r.length + 1 : Nat) : Int)) := fun e4 => by
          have q := ev_lenL (ea_cons (ev_var (σ := [some (.str x), some (.ref p), some (.str f), none]) (i := 1) rfl) ea_nil) (ex_l e4 h3)
          rw [ll] at q
          exact q
        have more : ∀ {H4 : Hp}, Evl.Ex H3 H4 → Ev (tOp (rI0 fun i j => V.bl (decide (j < i))) (tCB (rLenS K) (tCons (tVar 1) tNil)) (tC (.int 1))) [some (.str x), some (.ref p), some (.str f), none] H4 (.bl (decide (0 < r.length))) := fun e4 =>
          ev_is (ev_op (len e4) ev_c rv_I0) (congrArg V.bl (gt_one _))
        have lenIs : ∀ {H4 : Hp} {n : Nat}, Evl.Ex H3 H4 → Ev (tOp rEq (tCB (rLenS K) (tCons (tVar 1) tNil)) (tC (.int (n : Int)))) [some (.str x), some (.ref p), some (.str f), none] H4 (.bl (decide (r.length + 1 = n))) := fun e4 =>
          ev_is (ev_op (len e4) ev_c (rv_eq rfl)) (congrArg V.bl (eq_num _ _))
        have pos : ∀ {l : List Str}, 0 < l.length ↔ l ≠ [] := List.length_pos_iff
        -- first in TEXTS
        refine q_when (et_and (et_test (isIn hT)) fun _ => et_test (more (Evl.Ex.refl _))) (fun b H4 e4 => ?_) (fun n1 H4 e4 => ?_)
        · rw [Bool.and_eq_true, decide_eq_true_iff, decide_eq_true_iff, pos] at b
          rw [cmd_texts b.1 b.2] at k
          exact s_retD (EvD.tup (EvDs.cons (EvD.str (ev_var rfl)) (EvDs.cons (EvD.str (tail b.2)) EvDs.nil)) (by show 2 ≤ 100000; decide)) (k.ex (e03.trans e4))
        have f4 := e4
        have e04 := e03.trans e4
        -- place
        refine q_when (et_and (et_test isEq) fun _ => et_test (more f4)) (fun b H5 e5 => ?_) (fun n2 H5 e5 => ?_)
        · rw [Bool.and_eq_true, decide_eq_true_iff, decide_eq_true_iff, pos] at b
          obtain ⟨rfl, hr⟩ := b
          have k : RetD K (cmdF wPlace r) H Q := k
          rw [cmd_place] at k
          have lj := short.tail.join
          have len1 := join_len hr
          have few := short.tail.1
          refine s_retD (EvD.call (ea_cons (tail hr) ea_nil) fun H6 e6 Q k E => ⟨Txt.join SP r, rfl, ⟨by omega, lj.1⟩, ?_⟩) (k.ex (e04.trans e5))
          rw [join_words hr fun q hq => clean q (List.mem_cons_of_mem _ hq)]
          exact k
        have f5 := f4.trans e5
        have e05 := e04.trans e5
        -- first in BARE
        refine q_when (et_and (et_test (isIn hB)) fun _ => et_test (lenIs (n := 1) f5)) (fun b H6 e6 => ?_) (fun n3 H6 e6 => ?_)
        · rw [Bool.and_eq_true, decide_eq_true_iff, decide_eq_true_iff] at b
          obtain ⟨b1, b2⟩ := b
          obtain rfl : r = [] := List.length_eq_zero_iff.mp (by omega)
          rw [cmd_bare b1] at k
          exact s_retD (EvD.tup (EvDs.cons (EvD.str (ev_var rfl)) EvDs.nil) (by show 1 ≤ 100000; decide)) (k.ex (e05.trans e6))
        have f6 := f5.trans e6
        have e06 := e05.trans e6
        -- first in NUMBERED
        have second : ∀ {H4 : Hp} {n : Str}, Evl.Ex H3 H4 → r[0]? = some n → Ev (tOp (rIxL K) (tVar 1) (tC (.int 1))) [some (.str x), some (.ref p), some (.str f), none] H4 (.str n) := fun {H4 n} e4 hn =>
          ev_op (ev_var rfl) ev_c (rv_ixL (ex_l e4 h3) (at_map (n := 1) (by rw [List.getElem?_cons_succ]; exact hn) rfl))
        have two : ∀ {b : Bool}, (decide (f ∈ wNumbered) && (decide (r.length + 1 = 2) && b)) = true → f ∈ wNumbered ∧ r.length = 1 ∧ b = true := fun h => by
          rw [Bool.and_eq_true, Bool.and_eq_true, decide_eq_true_iff, decide_eq_true_iff] at h
          exact ⟨h.1, by omega, h.2.2⟩
        refine q_when (b := decide (f ∈ wNumbered) && (decide (r.length + 1 = 2) && isNumber (r.headD Str.empty))) (et_and (et_test (isIn hN)) fun _ => et_and (et_test (lenIs (n := 2) f6)) fun h => et_B (ev_call (ea_cons (second f6 ?_) ea_nil) (spv_strB ?_))) (fun b H7 e7 => ?_) (fun n4 H7 e7 => ?_)
        · have : r.length = 1 := by have := of_decide_eq_true h; omega
          match r, this with
          | [n], _ => rfl
        · cases r with
          | nil => decide +kernel
          | cons n r =>
            have := (short.len (p := n) (by simp)).2
            show n.length ≤ 1000
            omega
        · obtain ⟨b1, b2, b3⟩ := two b
          obtain ⟨n, rfl⟩ : ∃ n, r = [n] := by
            match r, b2 with
            | [n], _ => exact ⟨n, rfl⟩
          have b3 : isNumber n = true := b3
          have num := isNumber_int b3
          rw [cmd_numbered b1 b3] at k
          exact s_retD (EvD.tup (EvDs.cons (EvD.str (ev_var rfl)) (EvDs.cons (EvD.int (ev_cbv (ea_cons (second (f6.trans e7) rfl) ea_nil) fun _ _ _ q => ⟨n, numOf n, rfl, num.1, num.2, q⟩)) EvDs.nil)) (by show 2 ≤ 100000; decide)) (k.ex (e06.trans e7))
        have f7 := f6.trans e7
        have e07 := e06.trans e7
        -- first in ROWED
        have tests : EvL (tLc (iList K (tVar 1)) (gName 3) tYes (tCall (spStrB isLetters) [] E0 (tCons (tVar 3) tNil)) [3]) [some (.str x), some (.ref p), some (.str f), none] H7 (((f :: r).map isLetters).map V.bl) := by
          have q := el_lcM (K := K) (te := tCall (spStrB isLetters) [] E0 (tCons (tVar 3) tNil)) (vs := [3]) (j := 3) Str.empty (fun _ => true) (fun y => V.bl (isLetters y)) (ev_var (σ := [some (.str x), some (.ref p), some (.str f), none]) (i := 1) rfl) (ex_l f7 h3) (by rw [List.length_cons]; omega) (fun _ => rfl) (fun _ _ _ _ => et_yes)
            (fun y H3 e3 hy _ => ev_call (ea_cons (ev_var rfl) ea_nil) (spv_strB (by have := (short.len (p := y) hy).2; omega)))
          rw [map_bl] at q
          exact q
        have all := ev_allEL (K := K) tests
        rw [all_map] at all
        refine q_when (et_and (et_test (isIn hR)) fun _ => et_B all) (fun b H8 e8 => ?_) (fun n5 H8 e8 => ?_)
        · rw [Bool.and_eq_true, decide_eq_true_iff, List.all_cons, Bool.and_eq_true] at b
          rw [cmd_rowed b.1 b.2.2] at k
          exact s_retD (EvD.tupleOf (ea_cons (ev_var rfl) ea_nil) (ex_l (f7.trans e8) h3) (dps_strs (f :: r))) (k.ex (e07.trans e8))
        have f8 := f7.trans e8
        have e08 := e07.trans e8
        -- begin
        refine q_when (et_test isEq) (fun b H9 e9 => ?_) (fun n6 H9 e9 => ?_)
        · obtain rfl : f = wBegin := of_decide_eq_true b
          rw [cmd_begin] at k
          exact s_retD (EvD.callL (el_drop (n := 1) (ev_var rfl) ev_c (ex_l (f8.trans e9) h3)) fun q H10 e10 hq Q k E => ⟨q, r, rfl, sq_of hq, short.tail, k⟩) (k.ex (e08.trans e9))
        have f9 := f8.trans e9
        have e09 := e08.trans e9
        -- count, tree
        refine q_when (et_or (et_test isEq) fun _ => et_test isEq) (fun b H10 e10 => ?_) (fun n7 H10 e10 => ?_)
        · rw [Bool.or_eq_true, decide_eq_true_iff, decide_eq_true_iff] at b
          refine s_retD (d := cmdF f r) (EvD.call (ea_cons (ev_var rfl) ea_nil) fun H11 e11 Q k E => ⟨p, f, r, rfl, ex_l ((f9.trans e10).trans e11) h3, short, ?_⟩) (k.ex (e09.trans e10))
          rcases b with b | b
          · have b : f = wCount := b
            refine .inl ⟨b, ?_⟩
            rw [b, cmd_count] at k
            exact k
          · have b : f = wTree := b
            refine .inr ⟨b, ?_⟩
            rw [b, cmd_tree] at k
            exact k
        refine s_ret ev_c fun H11 e11 => k _ _ ((e09.trans e10).trans e11) ?_
        have no : cmdF f r = .none := by
          rw [Bool.and_eq_false_iff, decide_eq_false_iff_not, decide_eq_false_iff_not, pos] at n1
          rw [Bool.and_eq_false_iff, decide_eq_false_iff_not, decide_eq_false_iff_not, pos] at n2
          rw [Bool.and_eq_false_iff, decide_eq_false_iff_not, decide_eq_false_iff_not] at n3
          rw [Bool.and_eq_false_iff, decide_eq_false_iff_not] at n5
          rw [decide_eq_false_iff_not] at n6
          rw [Bool.or_eq_false_iff, decide_eq_false_iff_not, decide_eq_false_iff_not] at n7
          refine cmd_none (fun z => n1.elim (fun q => q z.1) fun q => q z.2) (fun z => ?_) (fun z => n3.elim (fun q => q z.1) fun q => q (by rw [z.2] <;> rfl)) (fun z n hn => ?_) (fun z => n5.elim (fun q => q z.1) fun q => ?_) (fun z => absurd z n6) (fun z => absurd z n7.1) (fun z => absurd z n7.2)
          · rcases n2 with q | q
            · exact absurd z q
            · rw [Classical.not_not.mp q] <;> rfl
          · subst hn
            rw [decide_eq_true z, show decide (([n] : List Str).length + 1 = 2) = true from rfl, Bool.true_and, Bool.true_and] at n4
            exact n4
          · rw [List.all_cons, (mem_rowed z.1).2.2.2.2.2.2.2, z.2] at q
            cases q
        rw [no]
        exact .non
end
end K80

set_option maxRecDepth 100000
set_option maxHeartbeats 4000000
namespace K80
open PySem PySem.Spec PyProof.Rows L2 Evl Pg
theorem lt_one (a b : Nat) : decide (([a] : List Nat) < [b]) = decide (a < b) := by
  by_cases h : a < b
  · rw [decide_eq_true h]
    exact decide_eq_true (List.Lex.rel h)
  · rw [decide_eq_false h]
    refine decide_eq_false fun z => h ?_
    cases z with
    | rel h => exact h
    | cons h => cases h
def rLeS : R2 := fun x y H Q => ∃ i j, x = .str i ∧ y = .str j ∧ Q (.bl (!decide (j.cps.toList < i.cps.toList))) H
theorem rv_leS {H : Hp} {x y : Str} : RV rLeS (.str x) (.str y) H (.bl (!decide (y.cps.toList < x.cps.toList))) := rv_val fun _ _ _ q => ⟨x, y, rfl, rfl, q⟩
theorem not_lt (a b : Nat) : (!decide (a < b)) = decide (b ≤ a) := by
  by_cases h : a < b
  · rw [decide_eq_true h, decide_eq_false (by omega)] <;> rfl
  · rw [decide_eq_false h, decide_eq_true (by omega)] <;> rfl
theorem len_filter {α : Type} (f : α → Bool) (l : List α) (n : Nat) (h : n = l.length) : decide (V.int ((((l.filter f)).length : Nat) : Int) = V.int (n : Int)) = l.all f := by
  rw [eq_num, h, all_filter]
section
variable {P : Program} {w : World} {K : PySem.W.Frag} {mg : Str → Option Value} {base : Heap} {f : Addr} {fd : FuncData}
theorem ok__law_is_letters (T : Tx K mg) (F : Fun K "_law_is_letters" "_law_is_letters" s__law_is_letters f fd) : FnOk P w K mg base CX0 1 f fd ["text"] (spStrB isLetters) := by
  refine F.ok sc__law_is_letters (fun vs H Q E h => ?_) (fun cdv A outer s H vs Q E hr h => ?_)
  · obtain ⟨x, rfl, _⟩ := h
    rfl
  · obtain ⟨x, rfl, hx, k⟩ := h
    refine ⟨_, (pss_one (ps_ret (pe_and (pe_cmpR op_gt (pe_callB call_len_str (by rfl) T.b_len bt_len (pa_cons (pv 0) pa_nil)) pe_int (nomark _)) (pe_one (pe_cmpR op_eq (pe_callB call_len_seq (by rfl) T.b_len bt_len (pa_cons (pe_lc (own := [("letter", 1)]) (g := gName 1) rfl sc__law_is_letters.nd (pi_str (pv 0)) (blkOk_by (own := [("letter", 1)]) (N := N__law_is_letters) (sc := defScope s__law_is_letters) (by decide +kernel)) (fun _ _ _ _ _ => (pg_name (i := 1) sc__law_is_letters.nd rfl (Or.inl rfl))) (fun _ _ _ _ _ => (pts_one (pt_chain op_le_str op_le_str pe_str (pv 1) pe_str))) (fun _ _ _ _ _ => (pv 1))) pa_nil)) (pe_callB call_len_str (by rfl) T.b_len bt_len (pa_cons (pv 0) pa_nil)) (nomark _)))))), ?_⟩
    have letters := el_lcS (H := H) (σ := [some (.str x), none]) (ts := tVar 0) (te := tVar 1) (j := 1) (vs := [1]) (x := x) (t := tTest (tChain rLeS rLeS (tC (.str (Str.ofString "a"))) (tVar 1) (tC (.str (Str.ofString "z"))))) (fun c => decide (97 ≤ c) && decide (c ≤ 122)) (fun c => .str ⟨#[c]⟩)
      (ev_var rfl) (by omega) (fun _ => rfl)
      (fun c H1 e hc => et_is (et_test (ev_chain ev_c (ev_var rfl) rv_leS (fun _ => ev_c) fun _ => rv_leS)) (by
        show (!decide (([c] : List Nat) < TL.tl (Str.ofString "a")) && !decide (TL.tl (Str.ofString "z") < [c])) = _
        rw [show TL.tl (Str.ofString "a") = [97] by decide +kernel, show TL.tl (Str.ofString "z") = [122] by decide +kernel, lt_one, lt_one, not_lt, not_lt]))
      (fun c H1 e hc _ => ev_var rfl)
    refine s_ret (ev_is (ev_andV (ev_op (ev_lenStr (ea_cons (ev_var rfl) ea_nil) (by omega)) ev_c rv_I0) fun _ => ev_op (ev_lenEL (K := K) letters) (ev_lenStr (ea_cons (ev_var rfl) ea_nil) (by omega)) (rv_eq rfl)) ?_) k
    rw [pos_len, List.length_map, len_filter _ _ _ (TL.len_tl x)]
    unfold isLetters
    congr 2
    refine congrArg (List.all (TL.tl x)) (funext fun c => (in_alphabet c).symm)
theorem ok__law_is_number (T : Tx K mg) (F : Fun K "_law_is_number" "_law_is_number" s__law_is_number f fd) : FnOk P w K mg base CX0 1 f fd ["text"] (spStrB isNumber) := by
  refine F.ok sc__law_is_number (fun vs H Q E h => ?_) (fun cdv A outer s H vs Q E hr h => ?_)
  · obtain ⟨x, rfl, _⟩ := h
    rfl
  · obtain ⟨x, rfl, hx, k⟩ := h
    refine ⟨_, (pss_cons (ps_setLc (i := 1) (own := [("digit", 2)]) (g := gName 2) rfl sc__law_is_number.nd rfl rfl (sw_true rfl rfl rfl (by decide +kernel)) (pi_str (pv 0)) (blkOk_by (own := [("digit", 2)]) (N := N__law_is_number) (sc := defScope s__law_is_number) (by decide +kernel)) (fun _ _ _ _ _ => (pg_name (i := 2) sc__law_is_number.nd rfl (Or.inl rfl))) (fun _ _ _ _ _ => (pts_one (pt_cmpR op_in_sign (pv 2) pe_str (by rfl)))) (fun _ _ _ _ _ => (pv 2)))
      (pss_one (ps_ret (pe_and (pe_chain op_lt op_lt pe_int (pe_callB call_len_str (by rfl) T.b_len bt_len (pa_cons (pv 0) pa_nil)) pe_int) (pe_and (pe_cmpR op_eq (pe_callB call_len_seq (by rfl) T.b_len bt_len (pa_cons (pv 1) pa_nil)) (pe_callB call_len_str (by rfl) T.b_len bt_len (pa_cons (pv 0) pa_nil)) (nomark _)) (pe_one (pe_or (pe_cmpR op_eq (pv 0) pe_str (nomark _)) (pe_one (pe_cmpR op_ne (pe_ix ix_str (pv 0) pe_int (fun _ _ => rfl)) pe_str (nomark _)))))))))), ?_⟩
    have figs := el_lcS (H := H) (σ := [some (.str x), none, none]) (ts := tVar 0) (te := tVar 2) (j := 2) (vs := [2]) (x := x) (t := tTest (tOp rInSg (tVar 2) (tC (.str figures)))) (fun c => decide (c ∈ TL.tl figures)) (fun c => .str ⟨#[c]⟩)
      (ev_var rfl) (by omega) (fun _ => rfl) (fun c H1 e hc => et_test (ev_op (ev_var rfl) ev_c rv_inSg)) (fun c H1 e hc _ => ev_var rfl)
    refine q_asgL figs fun p H1 hp e h1 => ?_
    have h1 : SqL K H1 p _ := sq_of h1
    have lens : Ev (tOp rEq (tCB (rLenS K) (tCons (tVar 1) tNil)) (tCB (fun xs H Q => ∃ x, xs = [.str x] ∧ x.length ≤ sizeLine ∧ Q (.int x.length) H) (tCons (tVar 0) tNil))) [some (.str x), some (.ref p), none] H1 (.bl ((TL.tl x).all fun c => decide (c ∈ TL.tl figures))) := by
      refine ev_is (ev_op (ev_lenL (ea_cons (ev_var rfl) ea_nil) h1) (ev_lenStr (ea_cons (ev_var rfl) ea_nil) (by omega)) (rv_eq rfl)) ?_
      rw [List.length_map, len_filter _ _ _ (TL.len_tl x)]
    refine s_ret (v := .bl (isNumber x)) ?_ fun H2 e2 => k H2 (e.trans e2)
    refine ev_is (ev_andV (ev_chain (x := .int 0) (y := .int x.length) (z := .int 8) ev_c (ev_lenStr (ea_cons (ev_var rfl) ea_nil) (by omega)) rv_I0 (fun _ => ev_c) fun _ => rv_I0) fun b1 => ev_andV lens fun b2 =>
      ev_orV (b := !decide ((TL.tl x).headD 0 = 48)) (ev_op (ev_var rfl) ev_c (rv_eq rfl)) fun _ => ?_) ?_
    · obtain ⟨c, r, ex⟩ : ∃ c r, TL.tl x = c :: r := by
        cases ex : TL.tl x with
        | nil =>
          rw [Bool.and_eq_true, decide_eq_true_eq, decide_eq_true_eq, TL.len_tl, ex] at b1
          exact absurd b1.1 (by decide)
        | cons c r => exact ⟨c, r, rfl⟩
      refine ev_is (ev_op (ev_op (ev_var rfl) ev_c (rv_ixS (c := c) (by omega) (by rw [show x.cps.toList = c :: r from ex]; exact atI_nat (j := 0) rfl))) ev_c (rv_ne rfl)) (congrArg V.bl ?_)
      rw [ex, dec_str]
      by_cases h : c = 48
      · subst h
        rfl
      · show (!decide ((⟨#[c]⟩ : Str) = Str.ofString "0")) = !decide (c = 48)
        rw [decide_eq_false fun e => h ?_, decide_eq_false h]
        have := congrArg TL.tl e
        have e2 : TL.tl (Str.ofString "0") = [48] := by decide +kernel
        rw [e2] at this
        injection this
    · have l8 : (decide ((0 : Int) < (x.length : Int)) && decide ((x.length : Int) < 8)) = (decide (1 ≤ x.length) && decide (x.length ≤ 7)) := by
        rw [← len_ok]
        exact congr (congrArg and (decide_eq_decide.mpr ⟨fun h => by omega, fun h => by omega⟩)) (decide_eq_decide.mpr ⟨fun h => by omega, fun h => by omega⟩)
      rw [l8, dec_str]
      unfold isNumber
      exact congrArg V.bl (Bool.and_assoc _ _ _).symm
end
end K80

set_option maxRecDepth 100000
set_option maxHeartbeats 4000000
namespace K80
open PySem PySem.Spec PyProof.Rows L2 Evl Pg
theorem rg2m {n : Nat} (h : n ≤ 10000) : RgC 0 ((n : Int) - 1) 2 (n / 2) := by
  have size : Builtin.Range.rangeSize 0 ((n : Int) - 1) 2 = ((n / 2 : Nat) : Int) := by
    unfold Builtin.Range.rangeSize
    rw [if_pos (by decide)]
    by_cases z : (0 : Int) < (n : Int) - 1
    · rw [if_pos z]
      omega
    · rw [if_neg z]
      omega
  refine ⟨by decide, by decide, ?_, size⟩
  unfold Builtin.Range.small
  rw [size]
  unfold Builtin.Range.rangeFitsLong
  have big : (20000 : Int) ≤ 2 ^ 63 := by decide
  generalize (2 : Int) ^ 63 = B at big ⊢
  rw [if_pos (by decide)]
  simp only [Bool.and_eq_true, Bool.or_eq_true, decide_eq_true_eq, beq_iff_eq]
  omega
/-- of a list of words: whether they are pairs, and the pairs -/
def spLawPairs (K : PySem.W.Frag) : Sp := fun vs H Q _ => ∃ (a : Addr) (ws : List Str), vs = [.ref a] ∧ SqL K H a (ws.map V.str) ∧ Short ws ∧
  ∀ v H' b l, Evl.Ex H H' → Dp K H' v (.tuple [.bool b, .tuple l]) → pairsP ws = (if b = true then some l else none) → Q v H'
theorem even_len (n : Nat) : decide (V.int ((n : Int) % 2) = V.int 0) = decide (n % 2 = 0) := by
  by_cases h : n % 2 = 0
  · rw [decide_eq_true h, decide_eq_true (congrArg V.int (by omega))]
  · rw [decide_eq_false h, decide_eq_false fun e => h (by have := V.int.inj e; omega)]
section
variable {P : Program} {w : World} {K : PySem.W.Frag} {mg : Str → Option Value} {base : Heap} {f : Addr} {fd : FuncData}
theorem ok__law_pairs (T : Tx K mg) (C__law_is_letters : CallOk P w K mg base CX0 1 "_law_is_letters" ["text"] (spStrB isLetters)) (C__law_is_number : CallOk P w K mg base CX0 1 "_law_is_number" ["text"] (spStrB isNumber))
    (F : Fun K "_law_pairs" "_law_pairs" s__law_pairs f fd) : FnOk P w K mg base CX0 2 f fd ["words"] (spLawPairs K) := by
  refine F.ok sc__law_pairs (fun vs H Q E h => ?_) (fun cdv A outer s H vs Q E hr h => ?_)
  · obtain ⟨a, ws, rfl, _⟩ := h
    rfl
  · obtain ⟨a, ws, rfl, hS, short, k⟩ := h
    refine ⟨_, (pss_cons (ps_set (i := 1) sc__law_pairs.nd rfl (Or.inl rfl) (pe_lst pa_nil))
      (pss_cons (ps_for PassesOwn.never rfl (pi_range3 (by rfl) T.b_range (pa_cons pe_int (pa_cons (pe_op op_sub (pe_callB call_len_seq (by rfl) T.b_len bt_len (pa_cons (pv 0) pa_nil)) pe_int) (pa_cons pe_int pa_nil)))) (pg_name (i := 2) sc__law_pairs.nd rfl (Or.inl rfl)) (pss_cons (ps_if (PW.pt (pw_or (pt_not (pt_val (pe_c C__law_is_letters (hr.mono (by decide)) (by rfl) (pa_cons (pe_ix ix_list (pv 0) (pv 2) (fun _ _ => rfl)) pa_nil)))) (pw_or1 (pt_not (pt_val (pe_c C__law_is_number (hr.mono (by decide)) (by rfl) (pa_cons (pe_ix ix_list (pv 0) (pe_op op_add (pv 2) pe_int) (fun _ _ => rfl)) pa_nil))))))) (pss_one (ps_ret (pe_tup (pa_cons pe_bl (pa_cons (pe_tup pa_nil) pa_nil))))) pss_nil)
      (pss_one (ps_expr (pe_bm PySem.F.plainAttrs_list PySem.F.slot_list_append PySem.F.type_list_append mt_append (pv 1) (pa_cons (pe_tup (pa_cons (pe_ix ix_list (pv 0) (pv 2) (fun _ _ => rfl)) (pa_cons (pe_callTy call_int_str (by rfl) T.b_int bt_int (pa_cons (pe_ix ix_list (pv 0) (pe_op op_add (pv 2) pe_int) (fun _ _ => rfl)) pa_nil)) pa_nil))) pa_nil))))))
      (pss_one (ps_ret (pe_tup (pa_cons (pe_cmpR op_eq (pe_op op_mod (pe_callB call_len_seq (by rfl) T.b_len bt_len (pa_cons (pv 0) pa_nil)) pe_int) pe_int (nomark _)) (pa_cons (pe_callTy call_tuple_of (by rfl) T.b_tuple bt_tuple (pa_cons (pv 1) pa_nil)) pa_nil))))))), ?_⟩
    refine q_asgL (el_lst ea_nil (by decide)) fun p H2 hp e2 h2 => ?_
    refine s_forR3 (D := { nx := _, rt := Q }) (ea_cons ev_c (ea_cons (ev_op (ev_lenL (ea_cons (ev_var rfl) ea_nil) (ex_l e2 hS)) ev_c rv_I0) (ea_cons ev_c ea_nil))) (by rw [List.length_map]; exact rg2m (by have := short.count; omega))
      (fun i σ' H' => ∃ (vs : List V) (acc : List PyData) (kk : Option V), σ' = [some (.ref a), some (.ref p), kk] ∧ Evl.Ex H H' ∧ H' p = some (.lst vs) ∧ DpAll K H' vs acc ∧ pureDs acc = true ∧ acc.length = i ∧ pairsP ws = (pairsP (ws.drop (2 * i))).map (acc ++ ·))
      (fun H3 e3 => ⟨[], [], none, rfl, e2.trans e3, e3 p _ h2, .nil, rfl, rfl, by rw [Nat.mul_zero, List.drop_zero]; cases pairsP ws <;> rfl⟩) ?_ ?_
    · rintro i σ' H' hi ⟨vs, acc, kk, rfl, ex, hL, hD, hpure, hlen, hP⟩
      obtain ⟨x, y, hd, hx, hy, mx, my⟩ := pairs_cut (ws := ws) (n := 2 * i) (by omega)
      have lx := (short.len mx).2
      have ly := (short.len my).2
      have hS' := ex_l ex hS
      have vx : ∀ {H2 : Hp}, Evl.Ex H' H2 → Ev (tOp (rIxL K) (tVar 0) (tVar 2)) [some (.ref a), some (.ref p), some (.int (0 + (i : Int) * 2))] H2 (.str x) := fun e2 =>
        ev_op (ev_var rfl) (ev_var rfl) (rv_ixL (ex_l e2 hS') (at_map hx (by omega)))
      have vy : ∀ {H2 : Hp}, Evl.Ex H' H2 → Ev (tOp (rIxL K) (tVar 0) (tOp (rI0 fun i j => V.int (i + j)) (tVar 2) (tC (.int 1)))) [some (.ref a), some (.ref p), some (.int (0 + (i : Int) * 2))] H2 (.str y) := fun e2 =>
        ev_op (ev_var rfl) (ev_op (ev_var rfl) ev_c rv_I0) (rv_ixL (ex_l e2 hS') (at_map hy (by omega)))
      refine q_when (et_or (et_not (et_B (ev_call (ea_cons (vx (Evl.Ex.refl _)) ea_nil) (spv_strB (by omega))))) fun _ => et_not (et_B (ev_call (ea_cons (vy (Evl.Ex.refl _)) ea_nil) (spv_strB (by omega))))) (fun b H3 e3 => ?_) (fun b H3 e3 => ?_)
      · have no : ¬ (isLetters x = true ∧ isNumber y = true) := by
          rintro ⟨z1, z2⟩
          rw [z1, z2] at b
          cases b
        refine s_retD (K := K) (d := .tuple [.bool false, .tuple []]) (EvD.tup (EvDs.cons (EvD.bool ev_c) (EvDs.cons (EvD.tup EvDs.nil (by decide)) EvDs.nil)) (by show 2 ≤ 100000; decide)) fun v H4 e4 hv => ?_
        refine k v H4 false [] ((ex.trans e3).trans e4) hv ?_
        rw [hP, hd, pairs_two, if_neg no] <;> rfl
      · rw [Bool.or_eq_false_iff, Bool.not_eq_false', Bool.not_eq_false'] at b
        have num := isNumber_int b.2
        refine s_appD (e3 p _ hL) (ev_var rfl) (EvD.tup (EvDs.cons (EvD.str (vx e3)) (EvDs.cons (EvD.int (ev_cbv (ea_cons (vy e3) ea_nil) fun _ _ _ q => ⟨y, numOf y, rfl, num.1, num.2, q⟩)) EvDs.nil)) (by show 2 ≤ 100000; decide)) ?_ ?_
        · rw [dps_length hD, hlen]
          have := short.count
          omega
        · intro v H4 e4 hv hL4
          refine ⟨vs ++ [v], acc ++ [.tuple [.str x, .int (numOf y)]], _, rfl, ?_, upd_same, ?_, pureDs_append hpure rfl, by rw [List.length_append, hlen] <;> rfl, ?_⟩
          · exact Evl.Ex.mut ((ex.trans e3).trans e4) hp
          · exact dps_append (dps_upd hL4 acc vs hpure (dps_mono (e3.trans e4) acc vs hD)) (.cons (dp_upd hL4 _ _ rfl hv) .nil)
          · rw [hP, hd]
            have : 2 * (i + 1) = 2 * i + 2 := by omega
            rw [this]
            rw [pairs_two, if_pos b, Option.map_map]
            congr 1
            funext l
            show acc ++ (PyData.tuple [.str x, .int (numOf y)] :: l) = acc ++ [PyData.tuple [.str x, .int (numOf y)]] ++ l
            rw [List.append_assoc] <;> rfl
    · rintro σ' H' ⟨vs, acc, kk, rfl, ex, hL, hD, hpure, hlen, hP⟩
      refine s_retD (K := K) (d := .tuple [.bool (decide (ws.length % 2 = 0)), .tuple acc]) (EvD.tup (EvDs.cons (EvD.bool (ev_is (ev_op (ev_op (ev_lenL (ea_cons (ev_var rfl) ea_nil) (ex_l ex hS)) ev_c (rv_I (by decide))) ev_c (rv_eq rfl)) (congrArg V.bl (by rw [List.length_map, even_len])))) (EvDs.cons (EvD.tupleOf (ea_cons (ev_var rfl) ea_nil) (sq_of hL) hD) EvDs.nil)) (by show 2 ≤ 100000; decide)) fun v H4 e4 hv => ?_
      refine k v H4 _ _ (ex.trans e4) hv ?_
      by_cases even : ws.length % 2 = 0
      · rw [decide_eq_true even, if_pos rfl]
        have done : ws.drop (2 * (ws.length / 2)) = [] := List.drop_eq_nil_of_le (by omega)
        rw [done] at hP
        rw [hP]
        show some (acc ++ []) = some acc
        rw [List.append_nil]
      · rw [decide_eq_false even, if_neg Bool.false_ne_true]
        exact pairs_odd ws (by omega)
end
/-! ### joining -/
def rJoin (K : PySem.W.Frag) : V → List V → Hp → VK → Prop := fun x xs H Q => ∃ a p, ∃ ys : List Str, x = .str a ∧ xs = [.ref p] ∧ (SqL K H p (ys.map V.str) ∨ SqT K H p (ys.map V.str)) ∧ (ys.map (·.length)).sum + ys.length * a.length ≤ 16777216 ∧ Q (.str (Txt.join a ys)) H
section
variable {K : PySem.W.Frag} {σ : L2.St} {H : Hp} {to te : TE} {ys : List Str}
theorem join_room (h : wide ys ≤ 100000) : (ys.map (·.length)).sum + ys.length * SP.length ≤ 16777216 := by
  have e : SP.length = 1 := by decide +kernel
  have := join_sum ys
  rw [e, Nat.mul_one]
  omega
theorem ev_join {p : Addr} (h : Ev to σ H (.str SP)) (hl : Ev te σ H (.ref p)) (hp : SqL K H p (ys.map V.str)) (n : wide ys ≤ 100000) : Ev (tM1 (rJoin K) to te) σ H (.str (Txt.join SP ys)) := fun H1 e Q q =>
  h H1 e _ fun H2 e2 => ⟨⟨SP, rfl⟩, hl H2 (e.trans e2) _ fun H3 e3 => ⟨SP, p, ys, rfl, rfl, .inl (ex_l ((e.trans e2).trans e3) hp), join_room n, q H3 (e2.trans e3)⟩⟩
theorem ev_joinL (h : Ev to σ H (.str SP)) (hl : EvL te σ H (ys.map V.str)) (n : wide ys ≤ 100000) : Ev (tM1 (rJoin K) to te) σ H (.str (Txt.join SP ys)) := fun H1 e Q q =>
  h H1 e _ fun H2 e2 => ⟨⟨SP, rfl⟩, hl H2 (e.trans e2) _ fun p H3 _ e3 hp => ⟨SP, p, ys, rfl, rfl, .inl (sq_of hp), join_room n, q H3 (e2.trans e3)⟩⟩
/-- a text in a written list -/
theorem ev_inW {f : Str} {ta : TA} {i : Nat} (h : σ[i]? = some (some (.str f))) (ha : EvA ta σ H (ys.map V.str)) (n : ys.length ≤ 1000) : Ev (tOp (rIn K false) (tVar i) (tLst ta)) σ H (.bl (decide (f ∈ ys))) :=
  ev_is (ev_opL (ev_var h) (el_lst ha (by rw [List.length_map]; omega)) fun p H1 hp e => rv_isL (sq_of hp) rfl (flat_strs _)) (congrArg V.bl (inV_strs f ys))
end
end K80

set_option maxRecDepth 100000
set_option maxHeartbeats 16000000
namespace K80
open PySem PySem.Spec PyProof.Rows L2 Evl Pg
theorem gt_zero (n : Nat) : decide ((0 : Int) < ((n : Nat) : Int)) = decide (0 < n) := decide_eq_decide.mpr ⟨fun h => by omega, fun h => by omega⟩
theorem gt_one' (n : Nat) : decide ((1 : Int) < ((n : Nat) : Int)) = decide (1 < n) := decide_eq_decide.mpr ⟨fun h => by omega, fun h => by omega⟩
theorem count_filter (z : Str) : ∀ ws : List Str, (ws.filter fun y => decide (y = z)).length = ws.count z
  | [] => rfl
  | w :: ws => by
    have ih := count_filter z ws
    by_cases h : w = z
    · subst h
      rw [List.filter_cons_of_pos (by simp), List.length_cons, ih, List.count_cons_self]
    · rw [List.filter_cons_of_neg (by simp [h]), ih, List.count_cons_of_ne h]
theorem tup2 {K : PySem.W.Frag} {H : Hp} {v : V} {d e : PyData} (h : Dp K H v (.tuple [d, e])) : ∃ a x y, v = .ref a ∧ SqT K H a [x, y] ∧ Dp K H x d ∧ Dp K H y e := by
  cases h with
  | tup hs hd =>
    cases hd with
    | cons h1 t =>
      cases t with
      | cons h2 t =>
        cases t
        exact ⟨_, _, _, rfl, hs, h1, h2⟩
theorem two_of {α : Type} : ∀ {r : List α}, 1 < r.length → ∃ m t r', r = m :: t :: r'
  | m :: t :: r, _ => ⟨m, t, r, rfl⟩
theorem one_of {α : Type} : ∀ {r : List α}, r.length = 1 → ∃ m, r = [m]
  | [m], _ => ⟨m, rfl⟩
theorem pair_of {α : Type} : ∀ {r : List α}, r.length = 2 → ∃ m n, r = [m, n]
  | [m, n], _ => ⟨m, n, rfl⟩
theorem triple_of {α : Type} : ∀ {r : List α}, r.length = 3 → ∃ m n o, r = [m, n, o]
  | [m, n, o], _ => ⟨m, n, o, rfl⟩
theorem head_of {r : List Str} {m : Nat} (h : r.length = m + 1) : r[0]? = some (r.headD Str.empty) := by
  cases r with
  | nil => cases h
  | cons z r => rfl
theorem at1_of : ∀ {r : List Str} {m : Nat}, r.length = m + 2 → r[1]? = some (r.getD 1 Str.empty)
  | _ :: _ :: _, _, _ => rfl
theorem at2_of : ∀ {r : List Str} {m : Nat}, r.length = m + 3 → r[2]? = some (r.getD 2 Str.empty)
  | _ :: _ :: _ :: _, _, _ => rfl
theorem place_no : ∀ {r : List Str}, (decide (1 < r.length) && isLetters (r.headD Str.empty)) = false → placeP r = .none
  | [], _ => rfl
  | [_], _ => rfl
  | m :: t :: r, h => by
    rw [show decide (1 < (m :: t :: r).length) = true from decide_eq_true (by rw [List.length_cons, List.length_cons]; omega), Bool.true_and] at h
    rw [place_two, if_neg (by rw [show isLetters m = false from h]; exact Bool.false_ne_true)]
theorem count_no : ∀ {r : List Str}, (decide (r.length = 2) && (isLetters (r.headD Str.empty) && isNumber (r.getD 1 Str.empty))) = false → countP r = .none
  | [], _ => rfl
  | [_], _ => rfl
  | [m, n], h => by
    have h : (isLetters m && isNumber n) = false := h
    show (if isLetters m = true ∧ isNumber n = true then _ else _) = _
    rw [if_neg fun y => by rw [y.1, y.2] at h; cases h]
  | _ :: _ :: _ :: _, _ => rfl
theorem tree_no : ∀ {r : List Str}, (decide (r.length = 3) && (isLetters (r.headD Str.empty) && (isNumber (r.getD 1 Str.empty) && isNumber (r.getD 2 Str.empty)))) = false → treeP r = .none
  | [], _ => rfl
  | [_], _ => rfl
  | [_, _], _ => rfl
  | [m, n, o], h => by
    have h : (isLetters m && (isNumber n && isNumber o)) = false := h
    show (if isLetters m = true ∧ isNumber n = true ∧ isNumber o = true then _ else _) = _
    rw [if_neg fun y => by rw [y.1, y.2.1, y.2.2] at h; cases h]
  | _ :: _ :: _ :: _ :: _, _ => rfl
theorem dp_bl {K : PySem.W.Frag} {H : Hp} {v : V} {b : Bool} (h : Dp K H v (.bool b)) : v = .bl b := by
  cases h
  rfl
section
variable {P : Program} {w : World} {K : PySem.W.Frag} {mg : Str → Option Value} {base : Heap} {f : Addr} {fd : FuncData}
theorem ok__law_due (T : Tx K mg) (C__law_is_letters : CallOk P w K mg base CX0 1 "_law_is_letters" ["text"] (spStrB isLetters)) (C__law_is_number : CallOk P w K mg base CX0 1 "_law_is_number" ["text"] (spStrB isNumber))
    (C__law_pairs : CallOk P w K mg base CX0 2 "_law_pairs" ["words"] (spLawPairs K))
    (F : Fun K "_law_due" "_law_due" s__law_due f fd) : FnOk P w K mg base CX0 3 f fd ["line"] (spLine K cmdP) := by
  refine F.ok sc__law_due (fun vs H Q E h => ?_) (fun cdv A outer s H vs Q E hr h => ?_)
  · obtain ⟨x, rfl, _⟩ := h
    rfl
  · obtain ⟨x, rfl, line, k⟩ := h
    have small := line.1
    refine ⟨_, (pss_cons (ps_set (i := 1) sc__law_due.nd rfl (Or.inl rfl) (pe_split (pv 0) pe_str))
      (pss_cons (ps_set (i := 2) sc__law_due.nd rfl (Or.inl rfl) (pe_ix ix_list (pv 1) pe_int (fun _ _ => rfl)))
      (pss_cons (ps_set (i := 3) sc__law_due.nd rfl (Or.inl rfl) (pe_slice sl_list (pv 1) (po_some pe_int) po_none))
      (pss_cons (ps_if (pt_cmpR op_eq (pv 0) pe_str (nomark _)) (pss_one (ps_ret (pe_tup pa_nil))) pss_nil)
      (pss_cons (ps_if (PW.pt (pw_and (pt_cmpR op_in_seq (pv 2) (pe_lst (pa_cons pe_str (pa_cons pe_str (pa_cons pe_str (pa_cons pe_str (pa_cons pe_str (pa_cons pe_str pa_nil))))))) (by rfl)) (pw_and1 (pt_cmpR op_gt (pe_callB call_len_seq (by rfl) T.b_len bt_len (pa_cons (pv 3) pa_nil)) pe_int (nomark _))))) (pss_one (ps_ret (pe_tup (pa_cons (pv 2) (pa_cons (pe_join pe_str (pv 3)) pa_nil))))) pss_nil)
      (pss_cons (ps_if (PW.pt (pw_and (pt_cmpR op_eq (pv 2) pe_str (nomark _)) (pw_and (pt_cmpR op_gt (pe_callB call_len_seq (by rfl) T.b_len bt_len (pa_cons (pv 3) pa_nil)) pe_int (nomark _)) (pw_and1 (pt_val (pe_c C__law_is_letters (hr.mono (by decide)) (by rfl) (pa_cons (pe_ix ix_list (pv 3) pe_int (fun _ _ => rfl)) pa_nil))))))) (pss_one (ps_ret (pe_tup (pa_cons pe_str (pa_cons (pe_ix ix_list (pv 3) pe_int (fun _ _ => rfl)) (pa_cons (pe_join pe_str (pe_slice sl_list (pv 3) (po_some pe_int) po_none)) pa_nil)))))) pss_nil)
      (pss_cons (ps_if (PW.pt (pw_and (pt_cmpR op_in_seq (pv 2) (pe_lst (pa_cons pe_str (pa_cons pe_str pa_nil))) (by rfl)) (pw_and1 (pt_cmpR op_eq (pe_callB call_len_seq (by rfl) T.b_len bt_len (pa_cons (pv 3) pa_nil)) pe_int (nomark _))))) (pss_one (ps_ret (pe_tup (pa_cons (pv 2) pa_nil)))) pss_nil)
      (pss_cons (ps_if (PW.pt (pw_and (pt_cmpR op_in_seq (pv 2) (pe_lst (pa_cons pe_str (pa_cons pe_str (pa_cons pe_str (pa_cons pe_str pa_nil))))) (by rfl)) (pw_and (pt_cmpR op_eq (pe_callB call_len_seq (by rfl) T.b_len bt_len (pa_cons (pv 3) pa_nil)) pe_int (nomark _)) (pw_and1 (pt_val (pe_c C__law_is_number (hr.mono (by decide)) (by rfl) (pa_cons (pe_ix ix_list (pv 3) pe_int (fun _ _ => rfl)) pa_nil))))))) (pss_one (ps_ret (pe_tup (pa_cons (pv 2) (pa_cons (pe_callTy call_int_str (by rfl) T.b_int bt_int (pa_cons (pe_ix ix_list (pv 3) pe_int (fun _ _ => rfl)) pa_nil)) pa_nil))))) pss_nil)
      (pss_cons (ps_if (PW.pt (pw_and (pt_cmpR op_in_seq (pv 2) (pe_lst (pa_cons pe_str (pa_cons pe_str pa_nil))) (by rfl)) (pw_and1 (pt_val (pe_callB (cr_all rfl) (by rfl) T.b_all bt_all (pa_cons (pe_lc (own := [("word", 9)]) (g := gName 9) (tt := tYes) rfl sc__law_due.nd (pi_list (pv 3)) (blkOk_by (own := [("word", 9)]) (N := N__law_due) (sc := defScope s__law_due) (by decide +kernel)) (fun _ _ _ _ _ => (pg_name (i := 9) sc__law_due.nd rfl (Or.inl rfl))) (fun _ _ _ _ _ => pts_nil) (fun _ _ _ _ _ => (pe_c C__law_is_letters (hr.mono (by decide)) (by rfl) (pa_cons (pv 9) pa_nil)))) pa_nil)))))) (pss_one (ps_ret (pe_callTy call_tuple_of (by rfl) T.b_tuple bt_tuple (pa_cons (pv 1) pa_nil)))) pss_nil)
      (pss_cons (ps_if (PW.pt (pw_and (pt_cmpR op_eq (pv 2) pe_str (nomark _)) (pw_and (pt_cmpR op_eq (pe_callB call_len_seq (by rfl) T.b_len bt_len (pa_cons (pv 3) pa_nil)) pe_int (nomark _)) (pw_and (pt_val (pe_c C__law_is_letters (hr.mono (by decide)) (by rfl) (pa_cons (pe_ix ix_list (pv 3) pe_int (fun _ _ => rfl)) pa_nil))) (pw_and1 (pt_val (pe_c C__law_is_number (hr.mono (by decide)) (by rfl) (pa_cons (pe_ix ix_list (pv 3) pe_int (fun _ _ => rfl)) pa_nil)))))))) (pss_one (ps_ret (pe_tup (pa_cons pe_str (pa_cons (pe_ix ix_list (pv 3) pe_int (fun _ _ => rfl)) (pa_cons (pe_callTy call_int_str (by rfl) T.b_int bt_int (pa_cons (pe_ix ix_list (pv 3) pe_int (fun _ _ => rfl)) pa_nil)) pa_nil)))))) pss_nil)
      (pss_cons (ps_if (PW.pt (pw_and (pt_cmpR op_eq (pv 2) pe_str (nomark _)) (pw_and (pt_cmpR op_eq (pe_callB call_len_seq (by rfl) T.b_len bt_len (pa_cons (pv 3) pa_nil)) pe_int (nomark _)) (pw_and (pt_val (pe_c C__law_is_letters (hr.mono (by decide)) (by rfl) (pa_cons (pe_ix ix_list (pv 3) pe_int (fun _ _ => rfl)) pa_nil))) (pw_and (pt_val (pe_c C__law_is_number (hr.mono (by decide)) (by rfl) (pa_cons (pe_ix ix_list (pv 3) pe_int (fun _ _ => rfl)) pa_nil))) (pw_and1 (pt_val (pe_c C__law_is_number (hr.mono (by decide)) (by rfl) (pa_cons (pe_ix ix_list (pv 3) pe_int (fun _ _ => rfl)) pa_nil))))))))) (pss_one (ps_ret (pe_tup (pa_cons pe_str (pa_cons (pe_ix ix_list (pv 3) pe_int (fun _ _ => rfl)) (pa_cons (pe_callTy call_int_str (by rfl) T.b_int bt_int (pa_cons (pe_ix ix_list (pv 3) pe_int (fun _ _ => rfl)) pa_nil)) (pa_cons (pe_callTy call_int_str (by rfl) T.b_int bt_int (pa_cons (pe_ix ix_list (pv 3) pe_int (fun _ _ => rfl)) pa_nil)) pa_nil))))))) pss_nil)
      (pss_cons (ps_if (PW.pt (pw_and (pt_cmpR op_eq (pv 2) pe_str (nomark _)) (pw_and1 (pt_cmpR op_eq (pe_callB call_len_seq (by rfl) T.b_len bt_len (pa_cons (pe_lc (own := [("word", 9)]) (g := gName 9) rfl sc__law_due.nd (pi_list (pv 3)) (blkOk_by (own := [("word", 9)]) (N := N__law_due) (sc := defScope s__law_due) (by decide +kernel)) (fun _ _ _ _ _ => (pg_name (i := 9) sc__law_due.nd rfl (Or.inl rfl))) (fun _ _ _ _ _ => (pts_one (pt_cmpR op_eq (pv 9) pe_str (nomark _)))) (fun _ _ _ _ _ => (pv 9))) pa_nil)) pe_int (nomark _))))) (pss_cons (ps_set (i := 4) sc__law_due.nd rfl (Or.inl rfl) (pe_bm PySem.F.plainAttrs_list PySem.F.slot_list_index PySem.F.type_list_index mt_index (pv 3) (pa_cons pe_str pa_nil)))
      (pss_cons (ps_asg (pe_c C__law_pairs (hr.mono (by decide)) (by rfl) (pa_cons (pe_slice sl_list (pv 3) po_none (po_some (pv 4))) pa_nil)) (pg_tup (by rfl) (pgs_cons (pg_name (i := 5) sc__law_due.nd rfl (Or.inl rfl)) (pgs_cons (pg_name (i := 6) sc__law_due.nd rfl (Or.inl rfl)) pgs_nil))))
      (pss_cons (ps_asg (pe_c C__law_pairs (hr.mono (by decide)) (by rfl) (pa_cons (pe_slice sl_list (pv 3) (po_some (pe_op op_add (pv 4) pe_int)) po_none) pa_nil)) (pg_tup (by rfl) (pgs_cons (pg_name (i := 7) sc__law_due.nd rfl (Or.inl rfl)) (pgs_cons (pg_name (i := 8) sc__law_due.nd rfl (Or.inl rfl)) pgs_nil))))
      (pss_one (ps_if (PW.pt (pw_and (pt_val (pv 5)) (pw_and1 (pt_val (pv 7))))) (pss_one (ps_ret (pe_tup (pa_cons pe_str (pa_cons (pv 6) (pa_cons (pv 8) pa_nil)))))) pss_nil))))) pss_nil)
      (pss_one (ps_ret pe_non)))))))))))))), ?_⟩
    have short := short_of line
    have whole := words_join x
    refine q_asgL (el_split (ev_var rfl) ev_c (by omega)) fun p H2 hp e02 h2 => ?_
    have k : RetD K (if x.length = 0 then .tuple [] else cmdW (wordsOf x)) H Q := k
    generalize hws : wordsOf x = ws at k short h2 whole
    cases ws with
    | nil => exact absurd hws (words_ne x)
    | cons f r =>
      have h2 : SqL K H2 p ((f :: r).map V.str) := sq_of h2
      have lf := (short.len (p := f) (by simp)).2
      have few : r.length ≤ 401 := by have := short.count; rw [List.length_cons] at this; omega
      refine q_asg (ev_op (ev_var rfl) ev_c (rv_ixL h2 (at_map (n := 0) rfl rfl))) fun H3 e3 => ?_
      refine q_asgL (el_drop (n := 1) (ev_var rfl) ev_c (ex_l e3 h2)) fun q H4 hq e4 h4 => ?_
      have h4 : SqL K H4 q (r.map V.str) := sq_of h4
      have h2 := ex_l (e3.trans e4) h2
      have e04 := (e02.trans e3).trans e4
      refine q_when (et_is (et_test (ev_op (ev_var rfl) ev_c (rv_eq rfl))) (dec_str _ _)) (fun b H5 e5 => ?_) (fun b H5 e5 => ?_)
      · have := empty_len.mp (of_decide_eq_true b)
        rw [if_pos this] at k
        exact s_retD (K := K) (EvD.tup EvDs.nil (by decide)) (k.ex (e04.trans e5))
      have ne : ¬ x.length = 0 := fun z => of_decide_eq_false b (empty_len.mpr z)
      rw [if_neg ne] at k
      have k : RetD K (cmdF f r) H Q := k
      have e05 := e04.trans e5
      have h5 := ex_l e5 h4
      have h25 := ex_l e5 h2
      -- what the slots say
      have isEq : ∀ {H6 : Hp} {y : Str}, Ev (tOp rEq (tVar 2) (tC (.str y))) [some (.str x), some (.ref p), some (.str f), some (.ref q), none, none, none, none, none, none] H6 (.bl (decide (f = y))) := fun {H6 y} =>
        ev_is (ev_op (ev_var rfl) ev_c (rv_eq rfl)) (congrArg V.bl (dec_str _ _))
      have len : ∀ {H6 : Hp}, Evl.Ex H5 H6 → Ev (tCB (rLenS K) (tCons (tVar 3) tNil)) [some (.str x), some (.ref p), some (.str f), some (.ref q), none, none, none, none, none, none] H6 (.int ((r.length : Nat) : Int)) := fun {H6} e6 => by
        have q := ev_lenL (H := H6) (ea_cons (ev_var (σ := [some (.str x), some (.ref p), some (.str f), some (.ref q), none, none, none, none, none, none]) (i := 3) rfl) ea_nil) (ex_l e6 h5)
        rw [List.length_map] at q
        exact q
      have lenIs : ∀ {H6 : Hp} {n : Nat}, Evl.Ex H5 H6 → Ev (tOp rEq (tCB (rLenS K) (tCons (tVar 3) tNil)) (tC (.int (n : Int)))) [some (.str x), some (.ref p), some (.str f), some (.ref q), none, none, none, none, none, none] H6 (.bl (decide (r.length = n))) := fun e6 =>
        ev_is (ev_op (len e6) ev_c (rv_eq rfl)) (congrArg V.bl (eq_num _ _))
      have item : ∀ {H6 : Hp} {n : Nat} {z : Str}, Evl.Ex H5 H6 → r[n]? = some z → Ev (tOp (rIxL K) (tVar 3) (tC (.int (n : Int)))) [some (.str x), some (.ref p), some (.str f), some (.ref q), none, none, none, none, none, none] H6 (.str z) := fun e6 hn =>
        ev_op (ev_var rfl) ev_c (rv_ixL (ex_l e6 h5) (at_map hn rfl))
      have letters : ∀ {H6 : Hp} {n : Nat} {z : Str}, Evl.Ex H5 H6 → r[n]? = some z → EvT (tB (tCall (spStrB isLetters) [] E0 (tCons (tOp (rIxL K) (tVar 3) (tC (.int (n : Int)))) tNil))) [some (.str x), some (.ref p), some (.str f), some (.ref q), none, none, none, none, none, none] H6 (isLetters z) := fun e6 hn =>
        et_B (ev_call (ea_cons (item e6 hn) ea_nil) (spv_strB (by have := (short.len (List.mem_cons_of_mem _ (List.mem_of_getElem? hn))).2; omega)))
      have number : ∀ {H6 : Hp} {n : Nat} {z : Str}, Evl.Ex H5 H6 → r[n]? = some z → EvT (tB (tCall (spStrB isNumber) [] E0 (tCons (tOp (rIxL K) (tVar 3) (tC (.int (n : Int)))) tNil))) [some (.str x), some (.ref p), some (.str f), some (.ref q), none, none, none, none, none, none] H6 (isNumber z) := fun e6 hn =>
        et_B (ev_call (ea_cons (item e6 hn) ea_nil) (spv_strB (by have := (short.len (List.mem_cons_of_mem _ (List.mem_of_getElem? hn))).2; omega)))
      have toInt : ∀ {H6 : Hp} {n : Nat} {z : Str}, Evl.Ex H5 H6 → r[n]? = some z → isNumber z = true → EvD K (tCB (fun xs H Q => ∃ a n, xs = [.str a] ∧ PySem.intText? a = some n ∧ a.length ≤ 640 ∧ Q (.int n) H) (tCons (tOp (rIxL K) (tVar 3) (tC (.int (n : Int)))) tNil)) [some (.str x), some (.ref p), some (.str f), some (.ref q), none, none, none, none, none, none] H6 (.int (numOf z)) := fun {H6 n z} e6 hn hz =>
        EvD.int (ev_cbv (ea_cons (item e6 hn) ea_nil) fun _ _ _ q => ⟨z, numOf z, rfl, (isNumber_int hz).1, (isNumber_int hz).2, q⟩)
      have pos : ∀ {l : List Str}, 0 < l.length ↔ l ≠ [] := List.length_pos_iff
      -- TEXTS
      refine q_when (et_and (et_test (ev_inW (ys := wTexts) rfl (ea_cons ev_c (ea_cons ev_c (ea_cons ev_c (ea_cons ev_c (ea_cons ev_c (ea_cons ev_c ea_nil)))))) (by decide))) fun _ => et_is (et_test (ev_op (len (Evl.Ex.refl _)) ev_c rv_I0)) (gt_zero _)) (fun b H6 e6 => ?_) (fun n1 H6 e6 => ?_)
      · rw [Bool.and_eq_true, decide_eq_true_iff, decide_eq_true_iff, pos] at b
        rw [cmd_texts b.1 b.2] at k
        exact s_retD (EvD.tup (EvDs.cons (EvD.str (ev_var rfl)) (EvDs.cons (EvD.str (ev_join ev_c (ev_var rfl) (ex_l e6 h5) (by have := short.tail.1; omega))) EvDs.nil)) (by show 2 ≤ 100000; decide)) (k.ex (e05.trans e6))
      have f6 := e6
      have e06 := e05.trans e6
      -- place
      refine q_when (b := decide (f = wPlace) && (decide (1 < r.length) && isLetters (r.headD Str.empty))) (et_and (et_test isEq) fun _ => et_and (et_is (et_test (ev_op (len f6) ev_c rv_I0)) (gt_one' _)) fun h => letters (n := 0) f6 ?_) (fun b H7 e7 => ?_) (fun n2 H7 e7 => ?_)
      · have := of_decide_eq_true h
        cases r with
        | nil => exact absurd this (by decide)
        | cons z r => rfl
      · rw [Bool.and_eq_true, Bool.and_eq_true, decide_eq_true_iff, decide_eq_true_iff] at b
        obtain ⟨rfl, b2, b3⟩ := b
        obtain ⟨m, t, r, rfl⟩ := two_of b2
        have k : RetD K (cmdF wPlace (m :: t :: r)) H Q := k
        have b3 : isLetters m = true := b3
        rw [cmd_place, place_two, if_pos b3] at k
        refine s_retD (EvD.tup (EvDs.cons (EvD.str ev_c) (EvDs.cons (EvD.str (item (n := 0) (f6.trans e7) rfl)) (EvDs.cons (EvD.str (ev_joinL ev_c (ys := t :: r) (el_drop (n := 1) (ev_var rfl) ev_c (ex_l (f6.trans e7) h5)) ?_)) EvDs.nil))) (by show 3 ≤ 100000; decide)) (k.ex (e06.trans e7))
        have := short.tail.tail.1
        omega
      have f7 := f6.trans e7
      have e07 := e06.trans e7
      -- BARE
      refine q_when (et_and (et_test (ev_inW (ys := wBare) rfl (ea_cons ev_c (ea_cons ev_c ea_nil)) (by decide))) fun _ => et_test (lenIs (n := 0) f7)) (fun b H8 e8 => ?_) (fun n3 H8 e8 => ?_)
      · rw [Bool.and_eq_true, decide_eq_true_iff, decide_eq_true_iff] at b
        obtain ⟨b1, b2⟩ := b
        obtain rfl : r = [] := List.length_eq_zero_iff.mp b2
        rw [cmd_bare b1] at k
        exact s_retD (EvD.tup (EvDs.cons (EvD.str (ev_var rfl)) EvDs.nil) (by show 1 ≤ 100000; decide)) (k.ex (e07.trans e8))
      have f8 := f7.trans e8
      have e08 := e07.trans e8
      -- NUMBERED
      refine q_when (b := decide (f ∈ wNumbered) && (decide (r.length = 1) && isNumber (r.headD Str.empty))) (et_and (et_test (ev_inW (ys := wNumbered) rfl (ea_cons ev_c (ea_cons ev_c (ea_cons ev_c (ea_cons ev_c ea_nil)))) (by decide))) fun _ => et_and (et_test (lenIs (n := 1) f8)) fun h => number (n := 0) f8 (head_of (of_decide_eq_true h))) (fun b H9 e9 => ?_) (fun n4 H9 e9 => ?_)
      · rw [Bool.and_eq_true, Bool.and_eq_true, decide_eq_true_iff, decide_eq_true_iff] at b
        obtain ⟨b1, b2, b3⟩ := b
        obtain ⟨n, rfl⟩ := one_of b2
        have b3 : isNumber n = true := b3
        rw [cmd_numbered b1 b3] at k
        exact s_retD (EvD.tup (EvDs.cons (EvD.str (ev_var rfl)) (EvDs.cons (toInt (n := 0) (f8.trans e9) rfl b3) EvDs.nil)) (by show 2 ≤ 100000; decide)) (k.ex (e08.trans e9))
      have f9 := f8.trans e9
      have e09 := e08.trans e9
      -- ROWED
      have tests : EvL (tLc (iList K (tVar 3)) (gName 9) tYes (tCall (spStrB isLetters) [] E0 (tCons (tVar 9) tNil)) [9]) [some (.str x), some (.ref p), some (.str f), some (.ref q), none, none, none, none, none, none] H9 ((r.map isLetters).map V.bl) := by
        have q := el_lcM (K := K) (te := tCall (spStrB isLetters) [] E0 (tCons (tVar 9) tNil)) (vs := [9]) (j := 9) Str.empty (fun _ => true) (fun y => V.bl (isLetters y)) (ev_var (σ := [some (.str x), some (.ref p), some (.str f), some (.ref q), none, none, none, none, none, none]) (i := 3) rfl) (ex_l f9 h5) (by omega) (fun _ => rfl) (fun _ _ _ _ => et_yes)
          (fun y H3 e3 hy _ => ev_call (ea_cons (ev_var rfl) ea_nil) (spv_strB (by have := (short.len (p := y) (List.mem_cons_of_mem _ hy)).2; omega)))
        rw [map_bl] at q
        exact q
      have all := ev_allEL (K := K) tests
      rw [all_map] at all
      refine q_when (et_and (et_test (ev_inW (ys := wRowed) rfl (ea_cons ev_c (ea_cons ev_c ea_nil)) (by decide))) fun _ => et_B all) (fun b H10 e10 => ?_) (fun n5 H10 e10 => ?_)
      · rw [Bool.and_eq_true, decide_eq_true_iff] at b
        rw [cmd_rowed b.1 b.2] at k
        exact s_retD (EvD.tupleOf (ea_cons (ev_var rfl) ea_nil) (ex_l (f9.trans e10) h25) (dps_strs (f :: r))) (k.ex (e09.trans e10))
      have f10 := f9.trans e10
      have e010 := e09.trans e10
      -- count
      refine q_when (b := decide (f = wCount) && (decide (r.length = 2) && (isLetters (r.headD Str.empty) && isNumber (r.getD 1 Str.empty)))) (et_and (et_test isEq) fun _ => et_and (et_test (lenIs (n := 2) f10)) fun h => et_and (letters (n := 0) f10 (head_of (of_decide_eq_true h))) fun _ => number (n := 1) f10 (at1_of (of_decide_eq_true h))) (fun b H11 e11 => ?_) (fun n6 H11 e11 => ?_)
      · rw [Bool.and_eq_true, Bool.and_eq_true, Bool.and_eq_true, decide_eq_true_iff, decide_eq_true_iff] at b
        obtain ⟨b1, b2, b3, b4⟩ := b
        obtain ⟨m, n, rfl⟩ := pair_of b2
        have b3 : isLetters m = true := b3
        have b4 : isNumber n = true := b4
        rw [b1, cmd_count] at k
        have k : RetD K (if isLetters m = true ∧ isNumber n = true then .tuple [.str wCount, .str m, .int (numOf n)] else .none) H Q := k
        rw [if_pos ⟨b3, b4⟩] at k
        exact s_retD (EvD.tup (EvDs.cons (EvD.str ev_c) (EvDs.cons (EvD.str (item (n := 0) (f10.trans e11) rfl)) (EvDs.cons (toInt (n := 1) (f10.trans e11) rfl b4) EvDs.nil))) (by show 3 ≤ 100000; decide)) (k.ex (e010.trans e11))
      have f11 := f10.trans e11
      have e011 := e010.trans e11
      -- tree
      refine q_when (b := decide (f = wTree) && (decide (r.length = 3) && (isLetters (r.headD Str.empty) && (isNumber (r.getD 1 Str.empty) && isNumber (r.getD 2 Str.empty))))) (et_and (et_test isEq) fun _ => et_and (et_test (lenIs (n := 3) f11)) fun h => et_and (letters (n := 0) f11 (head_of (of_decide_eq_true h))) fun _ => et_and (number (n := 1) f11 (at1_of (of_decide_eq_true h))) fun _ => number (n := 2) f11 (at2_of (of_decide_eq_true h))) (fun b H12 e12 => ?_) (fun n7 H12 e12 => ?_)
      · rw [Bool.and_eq_true, Bool.and_eq_true, Bool.and_eq_true, Bool.and_eq_true, decide_eq_true_iff, decide_eq_true_iff] at b
        obtain ⟨b1, b2, b3, b4, b5⟩ := b
        obtain ⟨m, n, o, rfl⟩ := triple_of b2
        have b3 : isLetters m = true := b3
        have b4 : isNumber n = true := b4
        have b5 : isNumber o = true := b5
        rw [b1, cmd_tree] at k
        have k : RetD K (if isLetters m = true ∧ isNumber n = true ∧ isNumber o = true then .tuple [.str wTree, .str m, .int (numOf n), .int (numOf o)] else .none) H Q := k
        rw [if_pos ⟨b3, b4, b5⟩] at k
        exact s_retD (EvD.tup (EvDs.cons (EvD.str ev_c) (EvDs.cons (EvD.str (item (n := 0) (f11.trans e12) rfl)) (EvDs.cons (toInt (n := 1) (f11.trans e12) rfl b4) (EvDs.cons (toInt (n := 2) (f11.trans e12) rfl b5) EvDs.nil)))) (by show 4 ≤ 100000; decide)) (k.ex (e011.trans e12))
      have f12 := f11.trans e12
      have e012 := e011.trans e12
      have no : (f = wBegin → beginP r = .none) → cmdF f r = .none := fun hb => by
        rw [Bool.and_eq_false_iff, decide_eq_false_iff_not, decide_eq_false_iff_not, pos] at n1
        rw [Bool.and_eq_false_iff, decide_eq_false_iff_not, decide_eq_false_iff_not] at n3
        rw [Bool.and_eq_false_iff, decide_eq_false_iff_not] at n5
        refine cmd_none (fun z => n1.elim (fun q => q z.1) fun q => q z.2) (fun z => place_no (by rw [decide_eq_true z, Bool.true_and] at n2; exact n2)) (fun z => n3.elim (fun q => q z.1) fun q => q (by rw [z.2] <;> rfl)) (fun z n hn => ?_) (fun z => n5.elim (fun q => q z.1) fun q => by rw [z.2] at q; cases q) hb
          (fun z => count_no (by rw [decide_eq_true z, Bool.true_and] at n6; exact n6)) (fun z => tree_no (by rw [decide_eq_true z, Bool.true_and] at n7; exact n7))
        subst hn
        rw [decide_eq_true z, show decide (([n] : List Str).length = 1) = true from rfl, Bool.true_and, Bool.true_and] at n4
        exact n4
      -- begin
      have semis : EvL (tLc (iList K (tVar 3)) (gName 9) (tTest (tOp rEq (tVar 9) (tC (.str SEMI)))) (tVar 9) [9]) [some (.str x), some (.ref p), some (.str f), some (.ref q), none, none, none, none, none, none] H12 ((r.filter fun y => decide (y = SEMI)).map V.str) :=
        el_lcM (K := K) (te := tVar 9) (vs := [9]) (j := 9) Str.empty (fun y => decide (y = SEMI)) V.str (ev_var (σ := [some (.str x), some (.ref p), some (.str f), some (.ref q), none, none, none, none, none, none]) (i := 3) rfl) (ex_l f12 h5) (by omega) (fun _ => rfl)
          (fun y H3 e3 hy => et_test (ev_is (ev_op (ev_var rfl) ev_c (rv_eq rfl)) (congrArg V.bl (dec_str _ _)))) (fun y H3 e3 hy _ => ev_var rfl)
      refine q_when (et_and (et_test isEq) fun _ => et_is (et_test (ev_op (ev_lenEL (K := K) semis) ev_c (rv_eq rfl))) (by rw [List.length_map, count_filter, show (V.int 1) = V.int ((1 : Nat) : Int) from rfl, eq_num])) (fun b H13 e13 => ?_) (fun n8 H13 e13 => ?_)
      · rw [Bool.and_eq_true, decide_eq_true_iff, decide_eq_true_iff] at b
        obtain ⟨bf, b⟩ := b
        have bf : f = wBegin := bf
        rw [bf, cmd_begin] at k
        obtain ⟨c1, c2⟩ := cutAt_of (z := SEMI) (ws := r) (by omega)
        have e013 := e012.trans e13
        have h13 := ex_l (f12.trans e13) h5
        refine q_asg (ev_bmL (z := .int ((cutAt SEMI r : Nat) : Int)) (ev_var rfl) h13 (ea_cons ev_c ea_nil) fun H14 e14 Q q => ?_) fun H14 e14 => ?_
        · refine ⟨_, r.map V.str, .str SEMI, cutAt SEMI r, .str SEMI, rfl, rfl, ex_l e14 h13, rfl, flat_strs r, by rw [List.getElem?_map, c1] <;> rfl, by decide +kernel, fun m z' hm hz => ?_, q⟩
          rw [List.getElem?_map] at hz
          obtain ⟨y, hy, rfl⟩ := Option.map_eq_some_iff.mp hz
          rw [eqV_str]
          exact beq_eq_false_iff_ne.mpr fun q => c2 m hm (by rw [hy, q])
        have e014 := e013.trans e14
        have h14 := ex_l e14 h13
        -- good, signs = _law_pairs(rest[:at])
        refine (el_take (n := cutAt SEMI r) (ev_var rfl) (ev_var rfl) h14) H14 (Evl.Ex.refl _) _ fun p1 H15 np1 e15 hp1 => ?_
        refine ⟨p1, r.take (cutAt SEMI r), rfl, sq_of (by rw [hp1, List.map_take]), short.tail.take _, fun v H16 b1 l1 e16 dv1 P1 => ?_⟩
        obtain ⟨a1, x1, y1, rfl, ht1, dx1, dy1⟩ := tup2 dv1
        obtain rfl := dp_bl dx1
        refine ⟨a1, _, rfl, ht1, rfl, _, _, rfl, _, _, rfl, rfl, ?_⟩
        have e016 := (e014.trans e15).trans e16
        have h16 := ex_l (e15.trans e16) h14
        refine (el_drop (n := cutAt SEMI r + 1) (ev_var rfl) (ev_op (ev_var rfl) ev_c rv_I0) h16) H16 (Evl.Ex.refl _) _ fun p2 H17 np2 e17 hp2 => ?_
        refine ⟨p2, r.drop (cutAt SEMI r + 1), rfl, sq_of (by rw [hp2, List.map_drop]), short.tail.drop _, fun v H18 b2 l2 e18 dv2 P2 => ?_⟩
        obtain ⟨a2, x2, y2, rfl, ht2, dx2, dy2⟩ := tup2 dv2
        obtain rfl := dp_bl dx2
        refine ⟨a2, _, rfl, ht2, rfl, _, _, rfl, _, _, rfl, rfl, ?_⟩
        have e018 := (e016.trans e17).trans e18
        have dy1 := dp_mono (e17.trans e18) _ _ dy1
        have due : beginP r = if (b1 && b2) = true then .tuple [.str wBegin, .tuple l1, .tuple l2] else .none := by
          unfold beginP
          rw [if_pos b, P1, P2]
          cases b1 <;> cases b2 <;> rfl
        rw [due] at k
        refine s_when (et_and (et_B (ev_var rfl)) fun _ => et_B (ev_var rfl)) (fun bb H19 e19 => ?_) (fun bb H19 e19 => ?_)
        · rw [if_pos bb] at k
          exact s_retD (EvD.tup (EvDs.cons (EvD.str ev_c) (EvDs.cons (EvD.var rfl (dp_mono e19 _ _ dy1)) (EvDs.cons (EvD.var rfl (dp_mono e19 _ _ dy2)) EvDs.nil))) (by show 3 ≤ 100000; decide)) (k.ex (e018.trans e19))
        · rw [if_neg (by rw [bb]; exact Bool.false_ne_true)] at k
          exact k _ _ (e018.trans e19) .non
      · refine s_ret ev_c fun H14 e14 => k _ _ ((e012.trans e13).trans e14) ?_
        rw [no fun z => ?_]
        · exact .non
        · have n8 : (decide (f = wBegin) && decide (r.count SEMI = 1)) = false := n8
          rw [decide_eq_true z, Bool.true_and, decide_eq_false_iff_not] at n8
          unfold beginP
          rw [if_neg n8]
end
end K80

set_option maxRecDepth 100000
set_option maxHeartbeats 4000000
/-! good lines are commands -/
namespace K80
open PySem L2 TL
theorem clean_letters {x : Str} (h : isLetters x = true) : 32 ∉ tl x := fun m => by
  have := (isLetters_iff.mp h).2 32 m
  omega
theorem clean_number {x : Str} (h : isNumber x = true) : 32 ∉ tl x := fun m => by
  have := (isNumber_digits h).1 32 m
  omega
theorem semi_number {x : Str} (h : isNumber x = true) : x ≠ SEMI := fun e => by
  subst e
  revert h
  decide +kernel
theorem semi_letters {x : Str} (h : isLetters x = true) : x ≠ SEMI := fun e => by
  subst e
  revert h
  decide +kernel
theorem cmd_of {x : Str} {f : Str} {r : List Str} (h : wordsOf x = f :: r) (n : x.length ≠ 0) : cmdP x = cmdF f r := by
  unfold cmdP
  rw [if_neg n, h] <;> rfl
theorem cmd_join {f : Str} {r : List Str} (h : f.length ≠ 0) (c : ∀ p ∈ f :: r, 32 ∉ tl p) : cmdP (Txt.join SP (f :: r)) = cmdF f r := by
  refine cmd_of (join_words (by simp) c) ?_
  have := join_len (ps := f :: r) (by simp)
  rw [wide_cons] at this
  omega
theorem cmd_cut {f t : Str} (h : 32 ∉ tl f) (n : f.length ≠ 0) : cmdP (f ++ SP ++ t) = cmdF f (wordsOf t) := by
  refine cmd_of (words_cut h) ?_
  rw [len_append, len_append]
  omega
theorem texts_clean {f : Str} (h : f ∈ wTexts) : 32 ∉ tl f ∧ f.length ≠ 0 := by
  simp only [wTexts, List.mem_cons, List.not_mem_nil, or_false] at h
  rcases h with rfl | rfl | rfl | rfl | rfl | rfl <;> decide +kernel
theorem numbered_clean {f : Str} (h : f ∈ wNumbered) : 32 ∉ tl f ∧ f.length ≠ 0 := by
  simp only [wNumbered, List.mem_cons, List.not_mem_nil, or_false] at h
  rcases h with rfl | rfl | rfl | rfl <;> decide +kernel
theorem rowed_clean {f : Str} (h : f ∈ wRowed) : 32 ∉ tl f ∧ f.length ≠ 0 := by
  simp only [wRowed, List.mem_cons, List.not_mem_nil, or_false] at h
  rcases h with rfl | rfl <;> decide +kernel
theorem bare_clean {f : Str} (h : f ∈ wBare) : 32 ∉ tl f ∧ f.length ≠ 0 := by
  simp only [wBare, List.mem_cons, List.not_mem_nil, or_false] at h
  rcases h with rfl | rfl <;> decide +kernel
theorem good_text {f : Str} (h : f ∈ wTexts) (t : Str) : cmdP (f ++ SP ++ t) ≠ .none := by
  obtain ⟨c, n⟩ := texts_clean h
  rw [cmd_cut c n, cmd_texts h (words_ne t)]
  exact fun z => nomatch z
theorem good_alone {f : Str} (h : f ∈ wBare ∨ f ∈ wRowed) : cmdP f ≠ .none := by
  have cn : 32 ∉ tl f ∧ f.length ≠ 0 := h.elim bare_clean rowed_clean
  rw [cmd_of (words_one cn.1) cn.2]
  rcases h with h | h
  · rw [cmd_bare h]
    exact fun z => nomatch z
  · rw [cmd_rowed h rfl]
    exact fun z => nomatch z
theorem good_numbered {f n : Str} (h : f ∈ wNumbered) (k : isNumber n = true) : cmdP (f ++ SP ++ n) ≠ .none := by
  obtain ⟨c, l⟩ := numbered_clean h
  rw [cmd_cut c l, words_one (clean_number k), cmd_numbered h k]
  exact fun z => nomatch z
theorem good_rowed {f : Str} {r : List Str} (h : f ∈ wRowed) (k : ∀ p ∈ r, isLetters p = true) : cmdP (Txt.join SP (f :: r)) ≠ .none := by
  obtain ⟨c, n⟩ := rowed_clean h
  rw [cmd_join n, cmd_rowed h (List.all_eq_true.mpr k)]
  · exact fun z => nomatch z
  · intro p hp
    rcases List.mem_cons.mp hp with rfl | hp
    · exact c
    · exact clean_letters (k p hp)
theorem good_count {m n : Str} (h : isLetters m = true) (k : isNumber n = true) : cmdP (Txt.join SP [wCount, m, n]) ≠ .none := by
  rw [cmd_join (by decide +kernel), cmd_count]
  · show (if isLetters m = true ∧ isNumber n = true then _ else _) ≠ _
    rw [if_pos ⟨h, k⟩]
    exact fun z => nomatch z
  · intro p hp
    simp only [List.mem_cons, List.not_mem_nil, or_false] at hp
    rcases hp with rfl | rfl | rfl
    · decide +kernel
    · exact clean_letters h
    · exact clean_number k
theorem good_tree {m n o : Str} (h : isLetters m = true) (k : isNumber n = true) (l : isNumber o = true) : cmdP (Txt.join SP [wTree, m, n, o]) ≠ .none := by
  rw [cmd_join (by decide +kernel), cmd_tree]
  · show (if isLetters m = true ∧ isNumber n = true ∧ isNumber o = true then _ else _) ≠ _
    rw [if_pos ⟨h, k, l⟩]
    exact fun z => nomatch z
  · intro p hp
    simp only [List.mem_cons, List.not_mem_nil, or_false] at hp
    rcases hp with rfl | rfl | rfl | rfl
    · decide +kernel
    · exact clean_letters h
    · exact clean_number k
    · exact clean_number l
theorem good_place {m : Str} (h : isLetters m = true) (t : Str) : cmdP (("place " : Str) ++ m ++ SP ++ t) ≠ .none := by
  have e : ("place " : Str) ++ m ++ SP ++ t = wPlace ++ SP ++ (m ++ SP ++ t) := by
    refine ext_tl ?_
    have p : tl ("place " : Str) = tl wPlace ++ tl SP := by decide +kernel
    simp only [tl_append, p, List.append_assoc]
  rw [e, cmd_cut (by decide +kernel) (by decide +kernel), words_cut (clean_letters h), cmd_place]
  cases w : wordsOf t with
  | nil => exact absurd w (words_ne t)
  | cons u r =>
    rw [place_two, if_pos h]
    exact fun z => nomatch z
/-- words and numbers in turn -/
inductive Paired2 : List Str → Prop
  | nil : Paired2 []
  | cons {a b : Str} {r : List Str} : isLetters a = true → isNumber b = true → Paired2 r → Paired2 (a :: b :: r)
theorem Paired2.snoc {a b : Str} (ha : isLetters a = true) (hb : isNumber b = true) : ∀ {l : List Str}, Paired2 l → Paired2 (l ++ [a, b])
  | _, .nil => .cons ha hb .nil
  | _, .cons h k t => .cons h k (Paired2.snoc ha hb t)
theorem Paired2.some : ∀ {l : List Str}, Paired2 l → ∃ ps, pairsP l = some ps
  | _, .nil => ⟨[], rfl⟩
  | _, .cons h k t => by
    obtain ⟨ps, e⟩ := Paired2.some t
    exact ⟨_, by rw [pairs_two, if_pos ⟨h, k⟩, e] <;> rfl⟩
theorem Paired2.clean : ∀ {l : List Str}, Paired2 l → ∀ p ∈ l, 32 ∉ tl p ∧ p ≠ SEMI
  | _, .nil, p, hp => by cases hp
  | _, .cons h k t, p, hp => by
    rcases List.mem_cons.mp hp with rfl | hp
    · exact ⟨clean_letters h, semi_letters h⟩
    · rcases List.mem_cons.mp hp with rfl | hp
      · exact ⟨clean_number k, semi_number k⟩
      · exact Paired2.clean t p hp
theorem cutAt_app {z : Str} : ∀ {l r : List Str}, (∀ p ∈ l, p ≠ z) → cutAt z (l ++ z :: r) = l.length
  | [], r, _ => by
    show (if z = z then 0 else _) = 0
    rw [if_pos rfl]
  | a :: l, r, h => by
    show (if a = z then 0 else cutAt z (l ++ z :: r) + 1) = _
    rw [if_neg (h a (List.mem_cons_self ..)), cutAt_app fun p hp => h p (List.mem_cons_of_mem _ hp), List.length_cons]
theorem count_zero {z : Str} {l : List Str} (h : ∀ p ∈ l, p ≠ z) : l.count z = 0 := List.count_eq_zero.mpr fun m => h z m rfl
theorem good_begin {ps qs : List Str} (h : Paired2 ps) (k : Paired2 qs) : cmdP (Txt.join SP (wBegin :: (ps ++ [SEMI] ++ qs))) ≠ .none := by
  have cp := h.clean
  have cq := k.clean
  have e : ps ++ [SEMI] ++ qs = ps ++ SEMI :: qs := by rw [List.append_assoc] <;> rfl
  rw [cmd_join (by decide +kernel), cmd_begin, e]
  · unfold beginP
    have one : (ps ++ SEMI :: qs).count SEMI = 1 := by
      rw [List.count_append, List.count_cons_self, count_zero fun p hp => (cp p hp).2, count_zero fun p hp => (cq p hp).2]
    rw [if_pos one, cutAt_app fun p hp => (cp p hp).2, List.take_left]
    have d : (ps ++ SEMI :: qs).drop (ps.length + 1) = qs := by
      rw [← List.drop_drop, List.drop_left] <;> rfl
    rw [d]
    obtain ⟨a, ea⟩ := h.some
    obtain ⟨b, eb⟩ := k.some
    rw [ea, eb]
    exact fun z => nomatch z
  · intro p hp
    rcases List.mem_cons.mp hp with rfl | hp
    · decide +kernel
    · rcases List.mem_append.mp hp with hp | hp
      · rcases List.mem_append.mp hp with hp | hp
        · exact (cp p hp).1
        · rw [List.mem_singleton.mp hp]
          decide +kernel
      · exact (cq p hp).1
/-! ### numbers written out -/
theorem num_head : ∀ n : Nat, 0 < n → (numL n).headD 0 ≠ 48 := by
  intro n
  induction n using Nat.strongRecOn with
  | _ n ih =>
    intro hn
    by_cases h : n < 10
    · rw [numL_lt h]
      show 48 + n ≠ 48
      omega
    · rw [numL_step (by omega)]
      have := ih (n / 10) (by omega) (by omega)
      cases e : numL (n / 10) with
      | nil => exact absurd e (numL_ne _)
      | cons c r =>
        rw [e] at this
        exact this
theorem isNumber_num {i : Int} (h0 : 0 ≤ i) (h1 : i ≤ 9999999) : isNumber (toString i) = true ∧ (toString i : Str).length ≤ 7 := by
  obtain ⟨n, rfl⟩ := Int.eq_ofNat_of_zero_le h0
  have t : tl (Str.ofString (toString ((n : Nat) : Int))) = numL n := tl_num n
  have l : (numL n).length ≤ 7 := numL_len (by decide) (by have : (10 : Nat) ^ 7 = 10000000 := by decide
                                                           omega)
  have len : (Str.ofString (toString ((n : Nat) : Int))).length = (numL n).length := by rw [len_tl, t]
  refine ⟨?_, by rw [show ((toString ((n : Nat) : Int) : Str)).length = (numL n).length from len]; exact l⟩
  show isNumber (Str.ofString (toString ((n : Nat) : Int))) = true
  unfold isNumber
  rw [len, t, decide_eq_true (show 1 ≤ (numL n).length from List.length_pos_iff.mpr (numL_ne n)), decide_eq_true l, Bool.and_self, Bool.true_and, Bool.and_eq_true, List.all_eq_true]
  refine ⟨fun c hc => ?_, ?_⟩
  · rw [in_figures]
    have := numL_digits n c hc
    rw [decide_eq_true this.1, decide_eq_true this.2] <;> rfl
  · by_cases z : n = 0
    · subst z
      decide +kernel
    · rw [decide_eq_false (num_head n (by omega))]
      exact Bool.or_true _
end K80

set_option maxRecDepth 100000
set_option maxHeartbeats 8000000
namespace K80
open PySem PySem.Spec PyProof.Rows L2 Evl Pg
/-! ### two answers alike -/
def spSame (K : PySem.W.Frag) : Sp := fun vs H Q _ => ∃ (x y : V) (d : PyData), vs = [x, y] ∧ Dp K H x d ∧ Dp K H y d ∧ Shows 3 TOP d ∧ RetV (.bl true) H Q
theorem shown_one (d : PyData) : (PyData.list [d]).shown.length = d.shown.length + 2 := by
  have e : (PyData.list [d]).shown = ("[" : Str) ++ ("" : String) ++ d.shown ++ "]" := by
    simp only [PyData.shown, PyData.shownAll] <;> rfl
  rw [e, len_append, len_append, len_append]
  have e1 : ("[" : Str).length = 1 := by decide +kernel
  have e2 : (("" : String) : Str).length = 0 := by decide +kernel
  have e3 : ("]" : Str).length = 1 := by decide +kernel
  omega
theorem ev_repr1 {K : PySem.W.Frag} {σ : L2.St} {H : Hp} {te : TE} {d : PyData} (h : EvD K te σ H d) (s : Shows 3 TOP d) : Ev (tCB (rRepr K) (tCons (tLst (tCons te tNil)) tNil)) σ H (.str (PyData.list [d]).shown) := fun H1 e Q q =>
  h H1 e _ fun v H2 e2 hv => ⟨(by show 1 ≤ sizeLine; decide), fun p hp => ⟨p, .list [d], rfl, .lst (sq_of upd_same) (.cons (dp_mono (Evl.Ex.new hp) _ _ hv) .nil), by
    simp only [PyData.showable, PyData.showableAll, s.able, Bool.and_self], by
    simp only [PyData.hasDict, PyData.hasDictAll, s.nodict, Bool.or_self], by
    have := s.deep
    simp only [PyData.depth, PyData.depthAll]
    omega, by
    rw [shown_one]
    have := s.small
    have e : sizeLine = 16777216 := by decide
    rw [e]
    have e2 : TOP = 12000000 := rfl
    omega, q _ (e2.trans (Evl.Ex.new hp))⟩⟩
section
variable {P : Program} {w : World} {K : PySem.W.Frag} {mg : Str → Option Value} {base : Heap} {f : Addr} {fd : FuncData}
theorem ok__law_same (T : Tx K mg) (F : Fun K "_law_same" "_law_same" s__law_same f fd) : FnG P w K mg base CX0 1 f fd ["told", "due"] (spSame K) := by
  refine F.okG sc__law_same (fun vs H Q E h => ?_) (fun cdv A outer s H vs Q E hgd hr h => ?_)
  · obtain ⟨x, y, d, rfl, _⟩ := h
    rfl
  · obtain ⟨x, y, d, rfl, hx, hy, s, k⟩ := h
    refine ⟨_, (pss_one (ps_ret (pe_cmpR op_eq (pe_callB (call_repr_data hgd hr) (by rfl) T.b_repr bt_repr (pa_cons (pe_lst (pa_cons (pv 0) pa_nil)) pa_nil)) (pe_callB (call_repr_data hgd hr) (by rfl) T.b_repr bt_repr (pa_cons (pe_lst (pa_cons (pv 1) pa_nil)) pa_nil)) (nomark _)))), ?_⟩
    refine s_ret (ev_is (ev_op (ev_repr1 (EvD.var rfl hx) s) (ev_repr1 (EvD.var rfl hy) s) (rv_eq rfl)) ?_) k
    exact congrArg V.bl (decide_eq_true rfl)
end

/-! ### the stream and its draws -/
/-- so many numbers drawn from -/
def Stream (ns : List Int) : Prop := ns ≠ [] ∧ ns.length ≤ 4000 ∧ ∀ n ∈ ns, 0 ≤ n ∧ n < 1009
/-- all but what stands at S stays -/
def Kp (S : Addr) (H H' : Hp) : Prop := ∀ a o, a ≠ S → H a = some o → H' a = some o
theorem Kp.of {S : Addr} {H H' : Hp} (e : Evl.Ex H H') : Kp S H H' := fun a o _ h => e a o h
theorem Kp.refl (S : Addr) (H : Hp) : Kp S H H := fun _ _ _ h => h
theorem Kp.trans {S : Addr} {H H1 H2 : Hp} (a : Kp S H H1) (b : Kp S H1 H2) : Kp S H H2 := fun x o n h => b x o n (a x o n h)
theorem Kp.upd {S : Addr} {H : Hp} {o : HO} : Kp S H (upd H S o) := fun a u n h => by rw [upd_ne n]; exact h
def StAt (K : PySem.W.Frag) (H : Hp) (S : Addr) (m : Int) : Prop := ∃ (L : Addr) (c : Int) (ns : List Int), H S = some (.lst [.ref L, .int c]) ∧ 0 ≤ c ∧ c ≤ m ∧ SqL K H L (ns.map V.int) ∧ Stream ns
theorem StAt.ex {K : PySem.W.Frag} {H H' : Hp} {S : Addr} {m : Int} (h : StAt K H S m) (e : Evl.Ex H H') : StAt K H' S m := by
  obtain ⟨L, c, ns, h1, h2, h3, h4, h5⟩ := h
  exact ⟨L, c, ns, e _ _ h1, h2, h3, ex_l e h4, h5⟩
theorem StAt.le {K : PySem.W.Frag} {H : Hp} {S : Addr} {m n : Int} (h : StAt K H S m) (e : m ≤ n) : StAt K H S n := by
  obtain ⟨L, c, ns, h1, h2, h3, h4, h5⟩ := h
  exact ⟨L, c, ns, h1, h2, by omega, h4, h5⟩
theorem rd_upd {H : Hp} {S L : Addr} {xs : List V} {u : HO} (hS : H S = some (.lst xs)) {o : HO} (hne : o ≠ .lst xs) (h : Rd H L o) : Rd (upd H S u) L o := by
  rcases h with h | ⟨ob, h⟩
  · exact .inl (by rw [upd_ne (ne_of h hS hne)]; exact h)
  · exact .inr ⟨ob, by rw [upd_ne (ne_of h hS (by intro z; cases z))]; exact h⟩
theorem ints_ne {ns : List Int} {L : Addr} {c : Int} : HO.lst (ns.map V.int) ≠ HO.lst [.ref L, .int c] := fun z => by
  injection z with z
  cases ns with
  | nil => cases z
  | cons n ns =>
    rw [List.map_cons] at z
    injection z with z _
    cases z
/-- the promise of a draw -/
def spNext (K : PySem.W.Frag) : Sp := fun vs H Q _ => ∃ (S : Addr) (m k : Int), vs = [.ref S, .int k] ∧ StAt K H S m ∧ m ≤ 1000000 ∧ 0 < k ∧
  ∀ H' n, Kp S H H' → StAt K H' S (m + 1) → 0 ≤ n → n < k → Q (.int n) H'
section
variable {P : Program} {w : World} {K : PySem.W.Frag} {mg : Str → Option Value} {base : Heap} {f : Addr} {fd : FuncData}
theorem ok__law_next (T : Tx K mg) (F : Fun K "_law_next" "_law_next" s__law_next f fd) : FnOk P w K mg base CX0 1 f fd ["state", "many"] (spNext K) := by
  refine F.ok sc__law_next (fun vs H Q E h => ?_) (fun cdv A outer s H vs Q E hr h => ?_)
  · obtain ⟨S, m, k, rfl, _⟩ := h
    rfl
  · obtain ⟨S, m, kk, rfl, ⟨L, c, ns, hS, c0, cm, hL, ne, few, all⟩, hm, hk, k⟩ := h
    refine ⟨_, (pss_cons (ps_asg (pe_op op_add (pe_ix ix_list (pv 0) pe_int (fun _ _ => rfl)) pe_int) (pg_sub (pv 0) pe_int set_list))
      (pss_cons (ps_set (i := 2) sc__law_next.nd rfl (Or.inl rfl) (pe_op op_fdivN (pe_ix ix_list (pv 0) pe_int (fun _ _ => rfl)) (pe_callB call_len_seq (by rfl) T.b_len bt_len (pa_cons (pe_ix ix_list (pv 0) pe_int (fun _ _ => rfl)) pa_nil))))
      (pss_one (ps_ret (pe_op op_mod (pe_callTy call_int1 (by rfl) T.b_int bt_int (pa_cons (pe_op op_add (pe_op op_add (pe_ix ix_list (pe_ix ix_list (pv 0) pe_int (fun _ _ => rfl)) (pe_op op_mod (pe_ix ix_list (pv 0) pe_int (fun _ _ => rfl)) (pe_callB call_len_seq (by rfl) T.b_len bt_len (pa_cons (pe_ix ix_list (pv 0) pe_int (fun _ _ => rfl)) pa_nil))) (fun _ _ => rfl)) (pe_op op_mul (pv 2) pe_int)) (pe_op op_mul (pe_op op_mul (pe_ix ix_list (pv 0) pe_int (fun _ _ => rfl)) (pv 2)) pe_int)) pa_nil)) (pv 1)))))), ?_⟩
    have get1 : ∀ {H1 : Hp} {c : Int} {σ : L2.St}, H1 S = some (.lst [.ref L, .int c]) → σ[0]? = some (some (.ref S)) → Ev (tOp (rIxL K) (tVar 0) (tC (.int 1))) σ H1 (.int c) := fun h h0 =>
      ev_op (ev_var h0) ev_c (rv_ixL (sq_of h) (atI_nat (j := 1) rfl))
    have get0 : ∀ {H1 : Hp} {c : Int} {σ : L2.St}, H1 S = some (.lst [.ref L, .int c]) → σ[0]? = some (some (.ref S)) → Ev (tOp (rIxL K) (tVar 0) (tC (.int 0))) σ H1 (.ref L) := fun h h0 =>
      ev_op (ev_var h0) ev_c (rv_ixL (sq_of h) (atI_nat (j := 0) rfl))
    refine q_setL (j := 1) hS (ev_op (get1 hS rfl) ev_c rv_I0) (ev_var rfl) ev_c (by show 1 < 2; decide) fun H1 e1 => ?_
    have hL1 : SqL K (upd H1 S (.lst ([V.ref L, .int c].set 1 (.int (c + 1))))) L (ns.map V.int) := by
      rcases ex_l e1 hL with h | h
      · exact .inl (rd_upd (e1 _ _ hS) ints_ne h)
      · exact .inr h
    have hS1 : (upd H1 S (.lst ([V.ref L, .int c].set 1 (.int (c + 1))))) S = some (.lst [.ref L, .int (c + 1)]) := upd_same
    have keep : Kp S H (upd H1 S (.lst ([V.ref L, .int c].set 1 (.int (c + 1))))) := (Kp.of e1).trans Kp.upd
    generalize upd H1 S (.lst ([V.ref L, .int c].set 1 (.int (c + 1)))) = H2 at hL1 hS1 keep ⊢
    have n0 : 0 < ns.length := List.length_pos_iff.mpr ne
    have len : ∀ {σ : L2.St} {H3 : Hp}, Evl.Ex H2 H3 → σ[0]? = some (some (.ref S)) → Ev (tCB (rLenS K) (tCons (tOp (rIxL K) (tVar 0) (tC (.int 0))) tNil)) σ H3 (.int (ns.length : Int)) := fun {σ H3} e h0 => by
      have := ev_lenL (σ := σ) (H := H3) (ea_cons (get0 (e _ _ hS1) h0) ea_nil) (ex_l e hL1)
      rw [List.length_map] at this
      exact this
    refine q_asg (ev_op (get1 hS1 rfl) (len (Evl.Ex.refl _) rfl) (rv_I ⟨by omega, by omega⟩)) fun H3 e3 => ?_
    have hS3 := e3 _ _ hS1
    have quot : 0 ≤ (c + 1).fdiv (ns.length : Int) ∧ (c + 1).fdiv (ns.length : Int) ≤ 1000001 := by
      rw [Int.fdiv_eq_ediv_of_nonneg _ (by omega)]
      refine ⟨Int.ediv_nonneg (by omega) (by omega), ?_⟩
      exact Int.le_trans (Int.ediv_le_self _ (by omega)) (by omega)
    generalize (c + 1).fdiv (ns.length : Int) = turn at quot ⊢
    have r0 := Int.emod_nonneg (c + 1) (show (ns.length : Int) ≠ 0 by omega)
    have r1 := Int.emod_lt_of_pos (c + 1) (show (0 : Int) < (ns.length : Int) by omega)
    obtain ⟨j, hj⟩ := Int.eq_ofNat_of_zero_le r0
    have jl : j < ns.length := by omega
    refine s_ret (v := .int ((ns[j] + turn * 389 + (c + 1) * turn * 17) % kk)) ?_ fun H4 e4 => k H4 _ (keep.trans (Kp.of (e3.trans e4))) ⟨L, c + 1, ns, e4 _ _ hS3, by omega, by omega, ex_l (e3.trans e4) hL1, ne, few, all⟩ (Int.emod_nonneg _ (by omega)) (Int.emod_lt_of_pos _ hk)
    refine ev_op (ev_cbv (v := .int (ns[j] + turn * 389 + (c + 1) * turn * 17)) (ea_cons (ev_op (ev_op (ev_op (get0 hS3 rfl) (ev_op (get1 hS3 rfl) (len e3 rfl) (rv_I (by omega))) (rv_ixL (v := .int ns[j]) (ex_l e3 hL1) ?_)) (ev_op (ev_var rfl) ev_c (rv_I ?_)) rv_I0) (ev_op (ev_op (get1 hS3 rfl) (ev_var rfl) (rv_I ?_)) ev_c (rv_I ?_)) rv_I0) ea_nil) fun _ _ _ q => .inl ⟨_, rfl, q⟩) (ev_var rfl) (rv_I hk)
    · rw [hj]
      exact atI_nat (by rw [List.getElem?_map, List.getElem?_eq_getElem jl] <;> rfl)
    · exact .inr (by decide)
    · exact .inr ⟨by omega, by omega⟩
    · have p0 : 0 ≤ (c + 1) * turn := Int.mul_nonneg (by omega) quot.1
      have p1 : (c + 1) * turn ≤ 1000001 * 1000001 := Int.mul_le_mul (by omega) quot.2 quot.1 (by omega)
      exact .inr (by decide)
end
end K80

set_option maxRecDepth 100000
set_option maxHeartbeats 8000000
namespace K80
open PySem PySem.Spec PyProof.Rows L2 Evl Pg
/-- the promise of the stream: a new list of numbers to draw from -/
def spStream (K : PySem.W.Frag) : Sp := fun vs H Q _ => ∃ (a : Addr) (ns : List Int), vs = [.ref a] ∧ SqL K H a (ns.map V.int) ∧ ns.length ≤ 63 ∧
  ∀ p H' ms, H p = none → Evl.Ex H H' → H' p = some (.lst (ms.map V.int)) → Stream ms → Q (.ref p) H'
def Small (ms : List Int) : Prop := ∀ m ∈ ms, 0 ≤ m ∧ m < 1009
theorem Small.snoc {ms : List Int} {m : Int} (h : Small ms) (a : 0 ≤ m) (b : m < 1009) : Small (ms ++ [m]) := fun x hx => by
  rcases List.mem_append.mp hx with hx | hx
  · exact h x hx
  · rw [List.mem_singleton.mp hx]
    exact ⟨a, b⟩
theorem mod_small (i : Int) : 0 ≤ i % 1009 ∧ i % 1009 < 1009 := ⟨Int.emod_nonneg _ (by decide), Int.emod_lt_of_pos _ (by decide)⟩
section
variable {P : Program} {w : World} {K : PySem.W.Frag} {mg : Str → Option Value} {base : Heap} {f : Addr} {fd : FuncData}
theorem ev_int1 {σ : L2.St} {H : Hp} {te : TE} {i : Int} (h : Ev te σ H (.int i)) : Ev (tCB (fun xs H Q => (∃ i, xs = [.int i] ∧ Q (.int i) H) ∨ ∃ k, xs = [.bl k] ∧ Q (.int (if k then 1 else 0)) H) (tCons te tNil)) σ H (.int i) :=
  ev_cbv (ea_cons h ea_nil) fun _ _ _ q => .inl ⟨i, rfl, q⟩
theorem ok__law_stream (T : Tx K mg) (F : Fun K "_law_stream" "_law_stream" s__law_stream f fd) : FnOk P w K mg base CX0 1 f fd ["script"] (spStream K) := by
  refine F.ok sc__law_stream (fun vs H Q E h => ?_) (fun cdv A outer s H vs Q E hr h => ?_)
  · obtain ⟨a, ns, rfl, _⟩ := h
    rfl
  · obtain ⟨a, ns, rfl, hS, few, k⟩ := h
    refine ⟨_, (pss_cons (ps_set (i := 1) sc__law_stream.nd rfl (Or.inl rfl) (pe_lst pa_nil))
      (pss_cons (ps_for PassesOwn.never rfl (pi_list (pe_slice sl_list (pv 0) po_none (po_some pe_int))) (pg_name (i := 2) sc__law_stream.nd rfl (Or.inl rfl)) (pss_cons (ps_set (i := 3) sc__law_stream.nd rfl (Or.inl rfl) (pe_callB call_abs (by rfl) T.b_abs bt_abs (pa_cons (pe_callTy call_int1 (by rfl) T.b_int bt_int (pa_cons (pv 2) pa_nil)) pa_nil)))
      (pss_one (ps_if (pt_cmpR op_ge (pv 3) (pe_op op_pow pe_int pe_int) (nomark _)) (pss_one (ps_for PassesOwn.never rfl (pi_range1 (by rfl) T.b_range (pa_cons pe_int pa_nil)) (pg_name (i := 4) sc__law_stream.nd rfl (Or.inl rfl)) (pss_cons (ps_expr (pe_bm PySem.F.plainAttrs_list PySem.F.slot_list_append PySem.F.type_list_append mt_append (pv 1) (pa_cons (pe_op op_mod (pe_callTy call_int1 (by rfl) T.b_int bt_int (pa_cons (pv 3) pa_nil)) pe_int) pa_nil)))
      (pss_cons (ps_set (i := 3) sc__law_stream.nd rfl (Or.inl rfl) (pe_op op_fdiv (pv 3) pe_int))
      (pss_one (ps_if (pt_cmpR op_eq (pv 3) pe_int (nomark _)) (pss_one ps_break) pss_nil)))))) (pss_cons (ps_set (i := 5) sc__law_stream.nd rfl (Or.inl rfl) (pe_op op_mod (pe_callTy call_int1 (by rfl) T.b_int bt_int (pa_cons (pv 3) pa_nil)) pe_int))
      (pss_one (ps_for PassesOwn.never rfl (pi_range1 (by rfl) T.b_range (pa_cons pe_int pa_nil)) (pg_name (i := 4) sc__law_stream.nd rfl (Or.inl rfl)) (pss_cons (ps_set (i := 5) sc__law_stream.nd rfl (Or.inl rfl) (pe_op op_mod (pe_callTy call_int1 (by rfl) T.b_int bt_int (pa_cons (pe_op op_add (pe_op op_add (pe_op op_mul (pv 5) pe_int) (pe_op op_mul pe_int (pv 4))) pe_int) pa_nil)) pe_int))
      (pss_one (ps_expr (pe_bm PySem.F.plainAttrs_list PySem.F.slot_list_append PySem.F.type_list_append mt_append (pv 1) (pa_cons (pe_op op_mod (pe_op op_mod (pe_callTy call_int1 (by rfl) T.b_int bt_int (pa_cons (pe_op op_add (pe_op op_mul (pv 5) pe_int) (pv 4)) pa_nil)) pe_int) pe_int) pa_nil))))))))))))
      (pss_cons (ps_if (pt_cmpR op_eq (pe_callB call_len_seq (by rfl) T.b_len bt_len (pa_cons (pv 1) pa_nil)) pe_int (nomark _)) (pss_one (ps_expr (pe_bm PySem.F.plainAttrs_list PySem.F.slot_list_append PySem.F.type_list_append mt_append (pv 1) (pa_cons pe_int pa_nil)))) pss_nil)
      (pss_one (ps_ret (pv 1)))))), ?_⟩
    refine q_asgL (el_lst ea_nil (by decide)) fun p H1 np e1 h1 => ?_
    -- what stands between two turns
    refine q_forNLn (xs := (ns.map V.int).take 63) (el_take (n := 63) (ev_var rfl) ev_c (ex_l e1 hS))
      (fun q i σ' H' => ∃ (ms : List Int) (c2 c3 c4 c5 : Option V), σ' = [some (.ref a), some (.ref p), c2, c3, c4, c5] ∧ Evl.Ex H H' ∧ H' p = some (.lst (ms.map V.int)) ∧ Small ms ∧ ms.length ≤ 60 * i ∧ q ≠ p ∧ H' q = some (.lst ((ns.map V.int).take 63)))
      (fun q H2 nq e2 h2 => ⟨[], none, none, none, none, rfl, e1.trans e2, e2 _ _ h1, (fun m hm => by cases hm), Nat.le_refl _, (fun z => by rw [z] at nq; rw [h1] at nq; cases nq), h2⟩)
      (fun q i σ' H' hi hp => by
        obtain ⟨ms, c2, c3, c4, c5, _, _, _, _, _, _, hq⟩ := hp
        exact sq_of hq) ?_ ?_
    · rintro q i x σ' H' hx ⟨ms, c2, c3, c4, c5, rfl, ex, hp, sm, len, ne, hq⟩
      have i63 : i < 63 := by
        have := (List.getElem?_eq_some_iff.mp hx).1
        rw [List.length_take, List.length_map] at this
        omega
      obtain ⟨n, rfl⟩ : ∃ n, x = V.int n := by
        have : x ∈ (ns.map V.int).take 63 := List.mem_of_getElem? hx
        obtain ⟨n, _, rfl⟩ := List.mem_map.mp (List.mem_of_mem_take this)
        exact ⟨n, rfl⟩
      refine q_asg (ev_cbv (v := .int (if n < 0 then -n else n)) (ea_cons (ev_int1 (ev_var rfl)) ea_nil) fun _ _ _ q => ⟨n, rfl, q⟩) fun H2 e2 => ?_
      generalize (if n < 0 then -n else n) = r
      refine s_if (et_test (ev_op (ev_var rfl) (ev_op ev_c ev_c (rv_I (by refine ⟨by decide, by decide, by decide⟩))) rv_I0)) (fun _ H3 e3 => ?_) (fun _ H3 e3 => ?_)
      · -- a great number
        have e03 := (ex.trans e2).trans e3
        refine s_forR1 (ea_cons ev_c ea_nil) (by decide) (fun j σ'' H'' => ∃ (ms : List Int) (r : Int) (c4 c5 : Option V), σ'' = [some (.ref a), some (.ref p), some (.int n), some (.int r), c4, c5] ∧ Evl.Ex H H'' ∧ H'' p = some (.lst (ms.map V.int)) ∧ Small ms ∧ ms.length ≤ 60 * i + j ∧ H'' q = some (.lst ((ns.map V.int).take 63)))
          (fun H4 e4 => ⟨ms, r, c4, c5, rfl, e03.trans e4, e4 _ _ (e3 _ _ (e2 _ _ hp)), sm, len, e4 _ _ (e3 _ _ (e2 _ _ hq))⟩) ?_ ?_
        · rintro j σ'' H'' hj ⟨ms, r, c4, c5, rfl, ex, hp, sm, len, hq⟩
          refine q_app hp (ev_var rfl) (ev_op (ev_int1 (ev_var rfl)) ev_c (rv_I (by decide))) (by rw [List.length_map]; omega) fun H4 e4 => ?_
          refine q_asg (ev_op (ev_var rfl) ev_c (rv_I ⟨by decide, by decide⟩)) fun H5 e5 => ?_
          have h5p : H5 p = some (.lst ((ms ++ [r % 1009]).map V.int)) := by
            refine e5 _ _ ?_
            rw [upd_same, List.map_append] <;> rfl
          have h5q : H5 q = some (.lst ((ns.map V.int).take 63)) := e5 _ _ (by rw [upd_ne ne]; exact e4 _ _ hq)
          have e05 : Evl.Ex H H5 := (Evl.Ex.mut (ex.trans e4) np).trans e5
          have sm' := sm.snoc (mod_small r).1 (mod_small r).2
          refine s_when (et_test (ev_op (ev_var rfl) ev_c (rv_eq rfl))) (fun _ H6 e6 => ?_) (fun _ H6 e6 => ?_)
          · exact ⟨_, _, _, _, _, rfl, e05.trans e6, e6 _ _ h5p, sm', by rw [List.length_append, List.length_singleton]; omega, ne, e6 _ _ h5q⟩
          · exact ⟨_, _, _, _, rfl, e05.trans e6, e6 _ _ h5p, sm', by rw [List.length_append, List.length_singleton]; omega, e6 _ _ h5q⟩
        · rintro σ'' H'' ⟨ms, r, c4, c5, rfl, ex, hp, sm, len, hq⟩
          exact ⟨ms, _, _, _, _, rfl, ex, hp, sm, by have e : (60 : Int).toNat = 60 := rfl
                                                     omega, ne, hq⟩
      · have e03 := (ex.trans e2).trans e3
        refine q_asg (ev_op (ev_int1 (ev_var rfl)) ev_c (rv_I (by decide))) fun H4 e4 => ?_
        have m0 := Int.emod_nonneg r (show (2147483647 : Int) ≠ 0 by decide)
        have m1 := Int.emod_lt_of_pos r (show (0 : Int) < 2147483647 by decide)
        generalize r % 2147483647 = x at m0 m1 ⊢
        refine s_forR1 (ea_cons ev_c ea_nil) (by decide) (fun j σ'' H'' => ∃ (ms : List Int) (x : Int) (c4 : Option V), σ'' = [some (.ref a), some (.ref p), some (.int n), some (.int r), c4, some (.int x)] ∧ 0 ≤ x ∧ x < 2147483647 ∧ Evl.Ex H H'' ∧ H'' p = some (.lst (ms.map V.int)) ∧ Small ms ∧ ms.length ≤ 60 * i + j ∧ H'' q = some (.lst ((ns.map V.int).take 63)))
          (fun H5 e5 => ⟨ms, x, c4, rfl, m0, m1, (e03.trans e4).trans e5, e5 _ _ (e4 _ _ (e3 _ _ (e2 _ _ hp))), sm, len, e5 _ _ (e4 _ _ (e3 _ _ (e2 _ _ hq)))⟩) ?_ ?_
        · rintro j σ'' H'' hj ⟨ms, x, c4, rfl, m0, m1, ex, hp, sm, len, hq⟩
          have j10 : j < 10 := by omega
          refine q_asg (ev_op (ev_int1 (ev_op (ev_op (ev_op (ev_var rfl) ev_c (rv_I (.inr (by decide)))) (ev_op ev_c (ev_var rfl) (rv_I (.inl (by decide)))) rv_I0) ev_c rv_I0)) ev_c (rv_I (by decide))) fun H4 e4 => ?_
          have y0 := Int.emod_nonneg (x * 48271 + 7 * (j : Int) + 11) (show (2147483647 : Int) ≠ 0 by decide)
          have y1 := Int.emod_lt_of_pos (x * 48271 + 7 * (j : Int) + 11) (show (0 : Int) < 2147483647 by decide)
          generalize (x * 48271 + 7 * (j : Int) + 11) % 2147483647 = y at y0 y1 ⊢
          refine s_app (e4 _ _ hp) (ev_var rfl) (ev_op (ev_op (ev_int1 (ev_op (ev_op (ev_var rfl) ev_c (rv_I (.inr (by decide)))) (ev_var rfl) rv_I0)) ev_c (rv_I (by decide))) ev_c (rv_I (by decide))) (by rw [List.length_map]; omega) fun H5 e5 => ?_
          refine ⟨ms ++ [(y * 69621 + (j : Int)) % 2147483629 % 1009], y, _, rfl, y0, y1, Evl.Ex.mut ((ex.trans e4).trans e5) np, ?_, sm.snoc (mod_small _).1 (mod_small _).2, by rw [List.length_append, List.length_singleton]; omega, ?_⟩
          · rw [upd_same, List.map_append] <;> rfl
          · rw [upd_ne ne]
            exact e5 _ _ (e4 _ _ hq)
        · rintro σ'' H'' ⟨ms, x, c4, rfl, m0, m1, ex, hp, sm, len, hq⟩
          exact ⟨ms, _, _, _, _, rfl, ex, hp, sm, by have e : (10 : Int).toNat = 10 := rfl
                                                     omega, ne, hq⟩
    · rintro q σ' H' ⟨ms, c2, c3, c4, c5, rfl, ex, hp, sm, len, ne, hq⟩
      have l63 : ((ns.map V.int).take 63).length ≤ 63 := by rw [List.length_take]; omega
      refine q_when (b := decide (ms.length = 0)) (et_is (et_test (ev_op (ev_lenL (ea_cons (ev_var rfl) ea_nil) (sq_of hp)) ev_c (rv_eq rfl))) (by rw [List.length_map, show V.int 0 = V.int ((0 : Nat) : Int) from rfl, eq_num])) (fun b H2 e2 => ?_) (fun b H2 e2 => ?_)
      · obtain rfl : ms = [] := List.length_eq_zero_iff.mp (of_decide_eq_true b)
        refine s_app (e2 _ _ hp) (ev_var rfl) ev_c (by decide) fun H3 e3 => ?_
        refine s_ret (ev_var rfl) fun H4 e4 => ?_
        refine k p H4 [0] np ((Evl.Ex.mut ((ex.trans e2).trans e3) np).trans e4) (e4 _ _ upd_same) ⟨by simp, by decide, fun m hm => ?_⟩
        rw [List.mem_singleton.mp hm]
        decide
      · have := of_decide_eq_false b
        exact s_ret (ev_var rfl) fun H4 e4 => k p H4 ms np ((ex.trans e2).trans e4) (e4 _ _ (e2 _ _ hp)) ⟨fun z => this (by rw [z] <;> rfl), by omega, sm⟩
end
end K80

set_option maxRecDepth 100000
set_option maxHeartbeats 8000000
namespace K80
open PySem PySem.Spec PyProof.Rows L2 Evl Pg
theorem at_pick {α : Type} {l : List α} {n : Int} (h0 : 0 ≤ n) (h1 : n < (l.length : Int)) : ∃ v, atI l n = some v ∧ v ∈ l := by
  obtain ⟨j, rfl⟩ := Int.eq_ofNat_of_zero_le h0
  have jl : j < l.length := by omega
  exact ⟨l[j], atI_nat (List.getElem?_eq_getElem jl), List.getElem_mem jl⟩
theorem sql_kp {K : PySem.W.Frag} {H H' : Hp} {S a : Addr} {xs ys : List V} (hS : H S = some (.lst xs)) (ne : HO.lst ys ≠ .lst xs) (k : Kp S H H') (h : SqL K H a ys) : SqL K H' a ys := by
  rcases h with (h | ⟨o, h⟩) | h
  · exact .inl (.inl (k _ _ (ne_of h hS ne) h))
  · exact .inl (.inr ⟨o, k _ _ (ne_of h hS (by intro z; cases z)) h⟩)
  · exact .inr h
theorem new_ne {H : Hp} {S p : Addr} {o : HO} (hS : H S = some o) (hp : H p = none) : p ≠ S := fun e => by
  rw [e, hS] at hp
  cases hp
theorem StAt.there {K : PySem.W.Frag} {H : Hp} {S : Addr} {m : Int} (h : StAt K H S m) : ∃ xs, H S = some (.lst xs) := by
  obtain ⟨L, c, ns, h1, _⟩ := h
  exact ⟨_, h1⟩
theorem StAt.new {K : PySem.W.Frag} {H : Hp} {S p : Addr} {m : Int} (h : StAt K H S m) (hp : H p = none) : p ≠ S := by
  obtain ⟨xs, h1⟩ := h.there
  exact new_ne h1 hp
theorem StAt.laid {K : PySem.W.Frag} {H : Hp} {S p : Addr} {m : Int} {o : HO} (h : StAt K H S m) (hp : H p = none) : StAt K (upd H p o) S m := h.ex (Evl.Ex.new hp)
theorem StAt.apart {K : PySem.W.Frag} {H H' : Hp} {S a : Addr} {m : Int} {ys : List V} (h : StAt K H S m) (ne : ∀ L c, HO.lst ys ≠ .lst [.ref L, .int c]) (k : Kp S H H') (q : SqL K H a ys) : SqL K H' a ys := by
  obtain ⟨L, c, ns, h1, _⟩ := h
  exact sql_kp h1 (ne L c) k q
theorem nil_ne (L : Addr) (c : Int) : HO.lst [] ≠ HO.lst [.ref L, .int c] := fun z => by
  injection z with z
  cases z
theorem strs_ne {ys : List Str} (L : Addr) (c : Int) : HO.lst (ys.map V.str) ≠ HO.lst [.ref L, .int c] := fun z => by
  injection z with z
  cases ys with
  | nil => cases z
  | cons y ys =>
    rw [List.map_cons] at z
    injection z with z _
    cases z
theorem sql_off {K : PySem.W.Frag} {H : Hp} {a D : Addr} {u : HO} {xs : List V} (h : SqL K H a xs) (ne : a ≠ D) : SqL K (upd H D u) a xs := by
  rcases h with (h | ⟨o, h⟩) | h
  · exact .inl (.inl (by rw [upd_ne ne]; exact h))
  · exact .inl (.inr ⟨o, by rw [upd_ne ne]; exact h⟩)
  · exact .inr h
theorem StAt.mut {K : PySem.W.Frag} {H : Hp} {S D : Addr} {m : Int} {ys : List V} {u : HO} (h : StAt K H S m) (hD : H D = some (.lst ys)) (DS : D ≠ S) (ne : ∀ ns : List Int, ns ≠ [] → HO.lst (ns.map V.int) ≠ .lst ys) : StAt K (upd H D u) S m := by
  obtain ⟨L, c, ns, h1, h2, h3, h4, h5⟩ := h
  refine ⟨L, c, ns, by rw [upd_ne DS.symm]; exact h1, h2, h3, ?_, h5⟩
  rcases h4 with h4 | h4
  · exact .inl (rd_upd hD (ne ns h5.1) h4)
  · exact .inr h4
theorem ints_strs (ys : List Str) : ∀ ns : List Int, ns ≠ [] → HO.lst (ns.map V.int) ≠ .lst (ys.map V.str) := fun ns n z => by
  injection z with z
  cases ns with
  | nil => exact n rfl
  | cons a ns =>
    cases ys with
    | nil => cases z
    | cons y ys =>
      rw [List.map_cons, List.map_cons] at z
      injection z with z _
      cases z
theorem Kp.mut {S D : Addr} {H H' : Hp} {u : HO} (k : Kp S H H') (hD : H D = none) : Kp S H (L2.upd H' D u) := fun a o n h => by
  rw [upd_ne (ne_of_none h hD)]
  exact k a o n h
theorem Kp.back {S D : Addr} {H H' : Hp} (k : Kp S H H') (DS : D ≠ S) (h : H' D = none) : H D = none := by
  cases e : H D with
  | none => rfl
  | some o =>
    rw [k D o DS e] at h
    cases h
def spWord (K : PySem.W.Frag) : Sp := fun vs H Q _ => ∃ (S a : Addr) (m : Int), vs = [.ref S, .ref a] ∧ SqL K H a [] ∧ StAt K H S m ∧ m ≤ 900000 ∧
  ∀ H' x, Kp S H H' → StAt K H' S (m + 10) → isLetters x = true → x.length ≤ 8 → Q (.str x) H'
def spNum (K : PySem.W.Frag) : Sp := fun vs H Q _ => ∃ (S : Addr) (m : Int), vs = [.ref S] ∧ StAt K H S m ∧ m ≤ 900000 ∧
  ∀ H' x, Kp S H H' → StAt K H' S (m + 3) → isNumber x = true → x.length ≤ 7 → Q (.str x) H'
def spText (K : PySem.W.Frag) : Sp := fun vs H Q _ => ∃ (S : Addr) (m : Int), vs = [.ref S] ∧ StAt K H S m ∧ m ≤ 900000 ∧
  ∀ H' x, Kp S H H' → StAt K H' S (m + 4) → Line 70 x → Q (.str x) H'
def wMenu : List Str := ["even(z)", "all x", "", " ", "s(x) if", ";", "not", "0", "state q 0;letter a", "q", "A"]
theorem menu_ok : ∀ y ∈ wMenu, Low y ∧ y.length ≤ 18 := by
  have h : wMenu.all (fun y => (TL.tl y).all (fun c => decide (c < 1000)) && decide (y.length ≤ 18)) = true := by decide +kernel
  intro y hy
  have := List.all_eq_true.mp h y hy
  rw [Bool.and_eq_true, List.all_eq_true, decide_eq_true_iff] at this
  exact ⟨fun c hc => of_decide_eq_true (this.1 c hc), this.2⟩
theorem wide_le_of {n : Nat} : ∀ {ys : List Str}, (∀ y ∈ ys, y.length ≤ n) → wide ys ≤ ys.length * (n + 1)
  | [], _ => Nat.zero_le _
  | y :: ys, h => by
    have ih := wide_le_of fun z hz => h z (List.mem_cons_of_mem _ hz)
    have := h y (List.mem_cons_self ..)
    rw [wide_cons, List.length_cons, Nat.succ_mul]
    omega
section
variable {P : Program} {w : World} {K : PySem.W.Frag} {mg : Str → Option Value} {base : Heap} {f : Addr} {fd : FuncData}
theorem ok__law_word (T : Tx K mg) (C__law_next : CallOk P w K mg base CX0 1 "_law_next" ["state", "many"] (spNext K)) (F : Fun K "_law_word" "_law_word" s__law_word f fd) : FnOk P w K mg base CX0 2 f fd ["state", "taken"] (spWord K) := by
  refine F.ok sc__law_word (fun vs H Q E h => ?_) (fun cdv A outer s H vs Q E hr h => ?_)
  · obtain ⟨S, a, m, rfl, _⟩ := h
    rfl
  · obtain ⟨S, a, m, rfl, ha, st, hm, k⟩ := h
    refine ⟨_, (pss_cons (ps_set (i := 2) sc__law_word.nd rfl (Or.inl rfl) pe_str)
      (pss_cons (ps_for PassesOwn.never rfl (pi_range1 (by rfl) T.b_range (pa_cons (pe_ix ix_list (pe_lst (pa_cons pe_int (pa_cons pe_int (pa_cons (pe_op op_add pe_int (pe_c C__law_next (hr.mono (by decide)) (by rfl) (pa_cons (pv 0) (pa_cons pe_int pa_nil)))) pa_nil)))) (pe_c C__law_next (hr.mono (by decide)) (by rfl) (pa_cons (pv 0) (pa_cons pe_int pa_nil))) (fun _ _ => rfl)) pa_nil)) (pg_name (i := 3) sc__law_word.nd rfl (Or.inl rfl)) (pss_one (ps_set (i := 2) sc__law_word.nd rfl (Or.inl rfl) (pe_op op_add_str (pv 2) (pe_ix ix_str pe_str (pe_c C__law_next (hr.mono (by decide)) (by rfl) (pa_cons (pv 0) (pa_cons pe_int pa_nil))) (fun _ _ => rfl))))))
      (pss_cons (ps_if (pt_cmpR op_in_seq (pv 2) (pv 1) (by rfl)) (pss_one (ps_ret (pe_op op_add_str pe_str (pe_ix ix_str pe_str (pe_callB call_len_seq (by rfl) T.b_len bt_len (pa_cons (pv 1) pa_nil)) (fun _ _ => rfl))))) pss_nil)
      (pss_one (ps_ret (pv 2)))))), ?_⟩
    refine q_asg ev_c fun H1 e1 => ?_
    have st1 := st.ex e1
    have ha1 := ex_l e1 ha
    refine ⟨.ref S, rfl, S, m, 8, rfl, st1, by omega, by decide, fun H2 n kp2 st2 n0 n1 => ⟨1, n, rfl, rfl, (by show 3 ≤ sizeLine; decide), fun p hp =>
      ⟨.ref S, rfl, S, m + 1, 3, rfl, st2.laid hp, by omega, by decide, fun H3 i kp3 st3 i0 i1 => ?_⟩⟩⟩
    obtain ⟨v, hv, mv⟩ := at_pick (l := [V.int 1, V.int 2, V.int (1 + n)]) i0 (by show i < 3; exact i1)
    obtain ⟨j, rfl, j0, j1⟩ : ∃ j, v = V.int j ∧ 1 ≤ j ∧ j ≤ 8 := by
      simp only [List.mem_cons, List.not_mem_nil, or_false] at mv
      rcases mv with rfl | rfl | rfl
      · exact ⟨1, rfl, by decide, by decide⟩
      · exact ⟨2, rfl, by decide, by decide⟩
      · exact ⟨1 + n, rfl, by omega, by omega⟩
    have kp : Kp S H H3 := ((Kp.of e1).trans kp2).trans ((Kp.of (Evl.Ex.new hp)).trans kp3)
    have ha3 := st.apart nil_ne kp ha
    refine ⟨p, _, i, _, rfl, rfl, sq_of (kp3 _ _ (st2.new hp) upd_same), hv, j, rfl, by omega, by omega, ?_⟩
    refine for_range (lo := 0) (n := j.toNat) (fun t σ' H' => ∃ (x : Str) (kk : Option V), σ' = [some (.ref S), some (.ref a), some (.str x), kk] ∧ Kp S H H' ∧ StAt K H' S (m + 2 + t) ∧ x.length = t ∧ ∀ c ∈ TL.tl x, 97 ≤ c ∧ c ≤ 122)
      ⟨Str.ofString "", none, rfl, kp, st3.le (by omega), by decide +kernel, fun c hc => by
        have e : TL.tl (Str.ofString "") = [] := by decide +kernel
        rw [e] at hc
        cases hc⟩ ?_ ?_
    · rintro t σ' H' ht ⟨x, kk, rfl, kp', st', lx, cx⟩
      refine ⟨.str x, rfl, .ref S, rfl, S, m + 2 + t, 4, rfl, st', by omega, by decide, fun H4 i kp4 st4 i0 i1 => ?_⟩
      obtain ⟨c, hc, mc⟩ := at_pick (l := TL.tl (Str.ofString "abyz")) i0 (by
        have e : (TL.tl (Str.ofString "abyz")).length = 4 := by decide +kernel
        rw [e]
        exact i1)
      refine ⟨_, i, c, rfl, rfl, by decide +kernel, hc, x, ⟨#[c]⟩, rfl, rfl, ?_, x ++ ⟨#[c]⟩, _, rfl, kp'.trans kp4, st4.le (by omega), ?_, ?_⟩
      · show x.length + 1 ≤ sizeLine
        exact sz_of (by omega)
      · rw [len_append, lx] <;> rfl
      · intro d hd
        rw [TL.tl_append] at hd
        rcases List.mem_append.mp hd with hd | hd
        · exact cx d hd
        · have : d = c := List.mem_singleton.mp hd
          have e : TL.tl (Str.ofString "abyz") = [97, 98, 121, 122] := by decide +kernel
          rw [e] at mc
          simp only [List.mem_cons, List.not_mem_nil, or_false] at mc
          omega
    · rintro σ' H' ⟨x, kk, rfl, kp', st', lx, cx⟩
      have ha' := st.apart nil_ne kp' ha
      refine q_when (b := false) (et_test (ev_op (ev_var rfl) (ev_var rfl) (rv_isL ha' rfl rfl))) (fun z => nomatch z) (fun _ H4 e4 => ?_)
      exact s_ret (ev_var rfl) fun H5 e5 => k H5 x ((kp'.trans (Kp.of e4)).trans (Kp.of e5)) (((st'.ex e4).ex e5).le (by omega)) (isLetters_iff.mpr ⟨by omega, cx⟩) (by omega)
theorem ok__law_number (T : Tx K mg) (C__law_next : CallOk P w K mg base CX0 1 "_law_next" ["state", "many"] (spNext K)) (F : Fun K "_law_number" "_law_number" s__law_number f fd) : FnOk P w K mg base CX0 2 f fd ["state"] (spNum K) := by
  refine F.ok sc__law_number (fun vs H Q E h => ?_) (fun cdv A outer s H vs Q E hr h => ?_)
  · obtain ⟨S, m, rfl, _⟩ := h
    rfl
  · obtain ⟨S, m, rfl, st, hm, k⟩ := h
    refine ⟨_, (pss_one (ps_ret (pe_callTy call_str_int (by rfl) T.b_str bt_str (pa_cons (pe_ix ix_list (pe_lst (pa_cons (pe_c C__law_next (hr.mono (by decide)) (by rfl) (pa_cons (pv 0) (pa_cons pe_int pa_nil))) (pa_cons (pe_op op_mul (pe_c C__law_next (hr.mono (by decide)) (by rfl) (pa_cons (pv 0) (pa_cons pe_int pa_nil))) pe_int) (pa_cons pe_int (pa_cons pe_int pa_nil))))) (pe_c C__law_next (hr.mono (by decide)) (by rfl) (pa_cons (pv 0) (pa_cons pe_int pa_nil))) (fun _ _ => rfl)) pa_nil)))), ?_⟩
    refine ⟨.ref S, rfl, S, m, 9, rfl, st, by omega, by decide, fun H1 n kp1 st1 n0 n1 => ⟨.ref S, rfl, S, m + 1, 1009, rfl, st1, by omega, by decide, fun H2 o kp2 st2 o0 o1 => ⟨o, 9900, rfl, rfl, .inr (by decide), (by show 4 ≤ sizeLine; decide), fun p hp =>
      ⟨.ref S, rfl, S, m + 1 + 1, 4, rfl, st2.laid hp, by omega, by decide, fun H3 i kp3 st3 i0 i1 => ?_⟩⟩⟩⟩
    obtain ⟨v, hv, mv⟩ := at_pick (l := [V.int n, V.int (o * 9900), V.int 0, V.int 9999999]) i0 (by show i < 4; exact i1)
    obtain ⟨j, rfl, j0, j1⟩ : ∃ j, v = V.int j ∧ 0 ≤ j ∧ j ≤ 9999999 := by
      simp only [List.mem_cons, List.not_mem_nil, or_false] at mv
      rcases mv with rfl | rfl | rfl | rfl
      · exact ⟨n, rfl, by omega, by omega⟩
      · exact ⟨o * 9900, rfl, by omega, by omega⟩
      · exact ⟨0, rfl, by decide, by decide⟩
      · exact ⟨9999999, rfl, by decide, by decide⟩
    have kp : Kp S H H3 := (kp1.trans kp2).trans ((Kp.of (Evl.Ex.new hp)).trans kp3)
    have num := isNumber_num j0 j1
    refine ⟨p, _, i, _, rfl, rfl, sq_of (kp3 _ _ (st2.new hp) upd_same), hv, j, rfl, ?_, k H3 _ kp (st3.le (by omega)) num.1 num.2⟩
    by_cases z : j.natAbs = 0
    · rw [z]; decide
    · exact Nat.lt_trans ((Nat.log2_lt z).mpr (show j.natAbs < 2 ^ 24 by omega)) (by decide)
theorem ok__law_text (T : Tx K mg) (C__law_next : CallOk P w K mg base CX0 1 "_law_next" ["state", "many"] (spNext K)) (F : Fun K "_law_text" "_law_text" s__law_text f fd) : FnOk P w K mg base CX0 2 f fd ["state"] (spText K) := by
  refine F.ok sc__law_text (fun vs H Q E h => ?_) (fun cdv A outer s H vs Q E hr h => ?_)
  · obtain ⟨S, m, rfl, _⟩ := h
    rfl
  · obtain ⟨S, m, rfl, st, hm, k⟩ := h
    refine ⟨_, (pss_cons (ps_set (i := 1) sc__law_text.nd rfl (Or.inr rfl) (pe_lst (pa_cons pe_str (pa_cons pe_str (pa_cons pe_str (pa_cons pe_str (pa_cons pe_str (pa_cons pe_str (pa_cons pe_str (pa_cons pe_str (pa_cons pe_str (pa_cons pe_str (pa_cons pe_str pa_nil)))))))))))))
      (pss_one (ps_ret (pe_join pe_str (pe_lc (own := [("k", 2)]) (g := gName 2) (tt := tYes) rfl sc__law_text.nd (pi_range1 (by rfl) T.b_range (pa_cons (pe_c C__law_next (hr.mono (by decide)) (by rfl) (pa_cons (pv 0) (pa_cons pe_int pa_nil))) pa_nil)) (blkOk_by (own := [("k", 2)]) (N := N__law_text) (sc := defScope s__law_text) (by decide +kernel)) (fun _ _ _ _ _ => (pg_name (i := 2) sc__law_text.nd rfl (Or.inl rfl))) (fun _ _ _ _ _ => pts_nil) (fun _ _ _ _ _ => (pe_ix (ix_listK (K := K) rfl) (pv 1) (pe_c C__law_next (hr.mono (by decide)) (by rfl) (pa_cons (pv 0) (pa_cons (pe_callB (call_len_seqK (K := K) rfl) (by rfl) T.b_len bt_len (pa_cons (pv 1) pa_nil)) pa_nil))) (fun _ _ => rfl)))))))), ?_⟩
    refine q_asgL (xs := wMenu.map V.str) (el_lst (ea_cons ev_c (ea_cons ev_c (ea_cons ev_c (ea_cons ev_c (ea_cons ev_c (ea_cons ev_c (ea_cons ev_c (ea_cons ev_c (ea_cons ev_c (ea_cons ev_c (ea_cons ev_c ea_nil))))))))))) (by decide)) fun p H1 np e1 h1 => ?_
    have st1 := st.ex e1
    refine ⟨⟨SP, rfl⟩, .ref S, rfl, S, m, 4, rfl, st1, by omega, by decide, fun H2 n kp2 st2 n0 n1 => ⟨n, rfl, by omega, by omega, fun D hD => ?_⟩⟩
    have kp : Kp S H H2 := (Kp.of e1).trans kp2
    refine lc_range (lo := 0) (n := n.toNat) (fun t H' => Kp S H H' ∧ StAt K H' S (m + 1 + t) ∧ SqL K H' p (wMenu.map V.str) ∧ ∃ ys : List Str, H' D = some (.lst (ys.map V.str)) ∧ ys.length = t ∧ ∀ y ∈ ys, y ∈ wMenu)
      ⟨kp.trans (Kp.of (Evl.Ex.new hD)), st2.laid hD |>.le (by omega), ex_l (Evl.Ex.new hD) (st1.apart strs_ne kp2 (sq_of h1)), [], upd_same, rfl, fun y hy => by cases hy⟩ ?_ ?_
    · rintro t H' ht ⟨kp', st', hp', ys, hy, ly, my⟩
      refine ⟨rfl, .ref p, rfl, .ref S, rfl, .ref p, rfl, p, _, rfl, .inl hp', S, m + 1 + t, 11, rfl, st', by omega, by decide, fun H4 i kp4 st4 i0 i1 => ?_⟩
      have hp4 := st'.apart strs_ne kp4 hp'
      obtain ⟨v, hv, mv⟩ := at_pick (l := wMenu.map V.str) i0 (by show i < 11; exact i1)
      obtain ⟨y, hyM, rfl⟩ := List.mem_map.mp mv
      have sq4 : SqL K H4 D (ys.map V.str) := st'.apart strs_ne kp4 (sq_of hy)
      have DS : D ≠ S := st2.new hD
      have hD4 : H4 D = some (.lst (ys.map V.str)) := kp4 _ _ DS hy
      refine ⟨p, _, i, .str y, rfl, rfl, hp4, hv, ys.map V.str, hD4, ?_, ?_⟩
      · rw [List.length_map, ly]
        exact sz_lt (by omega)
      · have pD : p ≠ D := ne_of_none (kp2 _ _ (st.new np) h1) hD
        refine ⟨(kp'.trans kp4).mut (kp.back DS hD), (st4.mut hD4 DS (ints_strs ys)).le (by omega), sql_off hp4 pD, ys ++ [y], ?_, ?_, ?_⟩
        · rw [upd_same, List.map_append] <;> rfl
        · rw [List.length_append, ly] <;> rfl
        · intro z hz
          rcases List.mem_append.mp hz with hz | hz
          · exact my z hz
          · rw [List.mem_singleton.mp hz]
            exact hyM
    · rintro H' ⟨kp', st', hp', ys, hy, ly, my⟩
      have low : ∀ y ∈ ys, Low y ∧ y.length ≤ 18 := fun y h => menu_ok y (my y h)
      have wl := wide_le_of (n := 18) fun y h => (low y h).2
      have jl := join_len_le ys
      refine ⟨SP, D, ys, rfl, rfl, .inl (sq_of hy), join_room (by omega), k H' _ kp' (st'.le (by omega)) ⟨by omega, join_signs (by decide) fun y h => (low y h).1⟩⟩
end
end K80

set_option maxRecDepth 100000
set_option maxHeartbeats 16000000
namespace K80
open PySem PySem.Spec PyProof.Rows L2 Evl Pg
/-- a line that is a command -/
def Good (x : Str) : Prop := Line 130 x ∧ cmdP x ≠ .none
def spGood (K : PySem.W.Frag) : Sp := fun vs H Q _ => ∃ (S : Addr) (m : Int), vs = [.ref S] ∧ StAt K H S m ∧ m ≤ 700000 ∧
  ∀ H' x, Kp S H H' → StAt K H' S (m + 200) → Good x → Q (.str x) H'
section
variable {K : PySem.W.Frag} {σ : L2.St} {H : Hp} {ta tb te : TE} {tA : TA} {Q : VK} {r : R2} {S : Addr} {m : Int} {i : Nat} {D : Ends} {tu tz : TS} {g : TG}
theorem op_in (h : ta σ H fun x H1 => tb σ H1 fun y H2 => r x y H2 Q) : tOp r ta tb σ H Q := h
theorem ret_in (h : te σ H D.rt) : tRet te D σ H := h
theorem asg_in (h : te σ H fun x H1 => tz D (σ.set i (some x)) H1) : tSeq (tAsg te (gName i)) tz D σ H := h
theorem cons_in {tr : TA} {R : List V → Hp → Prop} (h : te σ H fun x H1 => tr σ H1 fun xs H2 => R (x :: xs) H2) : tCons te tr σ H R := h
theorem cons1_in {R : List V → Hp → Prop} (h : te σ H fun x H1 => R [x] H1) : tCons te tNil σ H R := h
/-- a draw -/
theorem go_next {n : Int} (h0 : σ[i]? = some (some (.ref S))) (hn : Ev tb σ H (.int n)) (st : StAt K H S m) (hm : m ≤ 900000) (hn0 : 0 < n) (k : ∀ H' j, Kp S H H' → StAt K H' S (m + 1) → 0 ≤ j → j < n → Q (.int j) H') :
    tCall (spNext K) [] E0 (tCons (tVar i) (tCons tb tNil)) σ H Q :=
  ⟨.ref S, h0, hn H (Evl.Ex.refl H) _ fun H1 e1 => ⟨S, m, n, rfl, st.ex e1, by omega, hn0, fun H2 j kp st2 j0 j1 => k H2 j ((Kp.of e1).trans kp) st2 j0 j1⟩⟩
/-- one of a list of texts -/
theorem go_pick {ys : List Str} {n : Int} (ha : EvA tA σ H (ys.map V.str)) (h0 : σ[i]? = some (some (.ref S))) (hn : ∀ H, Ev tb σ H (.int n)) (e : n = (ys.length : Int)) (few : ys.length ≤ 1000) (st : StAt K H S m) (hm : m ≤ 900000) (hn0 : 0 < n)
    (k : ∀ H' y, Kp S H H' → StAt K H' S (m + 1) → y ∈ ys → Q (.str y) H') :
    tOp (rIxL K) (tLst tA) (tCall (spNext K) [] E0 (tCons (tVar i) (tCons tb tNil))) σ H Q := op_in (ha H (Evl.Ex.refl H) _ fun H1 e1 => ⟨sz_of (by rw [List.length_map]; omega), fun p hp =>
  go_next h0 (hn _) ((st.ex e1).laid hp) hm hn0 fun H2 j kp st2 j0 j1 => by
    obtain ⟨v, hv, mv⟩ := at_pick (l := ys.map V.str) j0 (by rw [List.length_map, ← e]; exact j1)
    obtain ⟨y, hy, rfl⟩ := List.mem_map.mp mv
    exact ⟨p, ys.map V.str, j, .str y, rfl, rfl, sq_of (kp _ _ ((st.ex e1).new hp) upd_same), hv, k H2 y (((Kp.of e1).trans (Kp.of (Evl.Ex.new hp))).trans kp) st2 hy⟩⟩)
theorem go_word (h0 : σ[i]? = some (some (.ref S))) (st : StAt K H S m) (hm : m ≤ 800000) (k : ∀ H' x, Kp S H H' → StAt K H' S (m + 10) → isLetters x = true → x.length ≤ 8 → Q (.str x) H') :
    tCall (spWord K) [] E0 (tCons (tVar i) (tCons (tLst tNil) tNil)) σ H Q :=
  ⟨.ref S, h0, Nat.zero_le _, fun p hp => ⟨S, p, m, rfl, sq_of upd_same, st.laid hp, by omega, fun H2 x kp st2 lx nx => k H2 x ((Kp.of (Evl.Ex.new hp)).trans kp) st2 lx nx⟩⟩
theorem go_num (h0 : σ[i]? = some (some (.ref S))) (st : StAt K H S m) (hm : m ≤ 800000) (k : ∀ H' x, Kp S H H' → StAt K H' S (m + 3) → isNumber x = true → x.length ≤ 7 → Q (.str x) H') :
    tCall (spNum K) [] E0 (tCons (tVar i) tNil) σ H Q := ⟨.ref S, h0, S, m, rfl, st, by omega, k⟩
theorem go_text (h0 : σ[i]? = some (some (.ref S))) (st : StAt K H S m) (hm : m ≤ 800000) (k : ∀ H' x, Kp S H H' → StAt K H' S (m + 4) → Line 70 x → Q (.str x) H') :
    tCall (spText K) [] E0 (tCons (tVar i) tNil) σ H Q := ⟨.ref S, h0, S, m, rfl, st, by omega, k⟩
/-- for j in range(a draw) -/
theorem go_for {j : Nat} {hi : Int} (h0 : σ[i]? = some (some (.ref S))) (hn : Ev tb σ H (.int hi)) (st : StAt K H S m) (hm : m ≤ 900000) (hi0 : 0 < hi) (small : hi ≤ 100000)
    (k : ∀ H1 n, Kp S H H1 → StAt K H1 S (m + 1) → 0 ≤ n → n < hi → ∃ Pv : Nat → L2.St → Hp → Prop, Pv 0 σ H1 ∧
      (∀ (t : Nat) σ' H', t < n.toNat → Pv t σ' H' → tu { D with nx := Pv (t + 1), ct := Pv (t + 1), bk := tz D } (σ'.set j (some (.int (0 + (t : Int))))) H') ∧ ∀ σ' H', Pv n.toNat σ' H' → tz D σ' H') :
    tSeq (tFor (iRng1 (tCons (tCall (spNext K) [] E0 (tCons (tVar i) (tCons tb tNil))) tNil)) (gName j) tu) tz D σ H :=
  go_next h0 hn st hm hi0 fun H1 n kp st1 n0 n1 => by
    obtain ⟨Pv, p0, ps, pd⟩ := k H1 n kp st1 n0 n1
    exact ⟨n, rfl, by omega, by omega, for_range (lo := 0) (n := n.toNat) Pv p0 ps pd⟩
theorem StAt.ne {p : Addr} {ys : List Str} (st : StAt K H S m) (hp : H p = some (.lst (ys.map V.str))) : p ≠ S := by
  obtain ⟨L, c, ns, h1, _⟩ := st
  exact ne_of hp h1 (strs_ne L c)
/-- parts = parts + [a word, a number] -/
theorem go_turn {p : Addr} {ws : List Str} {j : Nat} (h0 : σ[0]? = some (some (.ref S))) (hj : σ[j]? = some (some (.ref p))) (hp : H p = some (.lst (ws.map V.str))) (few : ws.length ≤ 100) (st : StAt K H S m) (hm : m ≤ 790000)
    (k : ∀ H' q a b, H q = none → Kp S H H' → StAt K H' S (m + 13) → H' q = some (.lst ((ws ++ [a, b]).map V.str)) → isLetters a = true → a.length ≤ 8 → isNumber b = true → b.length ≤ 7 → D.nx (σ.set j (some (.ref q))) H') :
    tAsg (tOp rCat (tVar j) (tLst (tCons (tCall (spWord K) [] E0 (tCons (tVar 0) (tCons (tLst tNil) tNil))) (tCons (tCall (spNum K) [] E0 (tCons (tVar 0) tNil)) tNil)))) (gName j) D σ H := by
  refine ⟨.ref p, hj, ?_⟩
  refine go_word h0 st (by omega) fun H1 a kp1 st1 la na => ?_
  refine go_num h0 st1 (by omega) fun H2 b kp2 st2 lb nb => ?_
  have hp2 := kp2 _ _ (st.ne hp) (kp1 _ _ (st.ne hp) hp)
  refine ⟨(by show 2 ≤ sizeLine; decide), fun q hq => ?_⟩
  refine ⟨p, q, _, [.str a, .str b], rfl, rfl, (by rw [upd_ne (ne_of_none hp2 hq)]; exact hp2), upd_same, ?_, fun u hu => ?_⟩
  · rw [List.length_map]
    exact sz_of (by show ws.length + 2 ≤ 100000; omega)
  · refine k _ u a b ((kp1.trans kp2).back ((st2.laid hq).new hu) (fresh_back (Evl.Ex.new hq) hu)) ((kp1.trans kp2).trans ((Kp.of (Evl.Ex.new hq)).trans (Kp.of (Evl.Ex.new hu)))) (((st2.laid hq).laid hu).le (by omega)) ?_ la na lb nb
    rw [upd_same, List.map_append] <;> rfl
theorem dec_int (n m : Int) : decide (V.int n = V.int m) = decide (n = m) := by
  by_cases h : n = m
  · rw [decide_eq_true h, decide_eq_true (congrArg V.int h)]
  · rw [decide_eq_false h, decide_eq_false fun e => h (V.int.inj e)]
end
theorem low_letters {x : Str} (h : isLetters x = true) : Low x := fun c hc => by
  have := (isLetters_iff.mp h).2 c hc
  omega
theorem low_number {x : Str} (h : isNumber x = true) : Low x := fun c hc => by
  have := (isNumber_digits h).1 c hc
  omega
theorem low_dec {x : Str} (h : (TL.tl x).all (fun c => decide (c < 1000)) = true) : Low x := fun c hc => of_decide_eq_true (List.all_eq_true.mp h c hc)
theorem low_SP : Low SP := low_dec (by decide +kernel)
theorem texts_low {f : Str} (h : f ∈ wTexts) : Low f ∧ f.length ≤ 5 := by
  simp only [wTexts, List.mem_cons, List.not_mem_nil, or_false] at h
  rcases h with rfl | rfl | rfl | rfl | rfl | rfl <;> exact ⟨low_dec (by decide +kernel), by decide +kernel⟩
theorem numbered_low {f : Str} (h : f ∈ wNumbered) : Low f ∧ f.length ≤ 5 := by
  simp only [wNumbered, List.mem_cons, List.not_mem_nil, or_false] at h
  rcases h with rfl | rfl | rfl | rfl <;> exact ⟨low_dec (by decide +kernel), by decide +kernel⟩
theorem rowed_low {f : Str} (h : f ∈ wRowed) : Low f ∧ f.length ≤ 6 := by
  simp only [wRowed, List.mem_cons, List.not_mem_nil, or_false] at h
  rcases h with rfl | rfl <;> exact ⟨low_dec (by decide +kernel), by decide +kernel⟩
theorem bare_low {f : Str} (h : f ∈ wBare) : Low f ∧ f.length ≤ 6 := by
  simp only [wBare, List.mem_cons, List.not_mem_nil, or_false] at h
  rcases h with rfl | rfl <;> exact ⟨low_dec (by decide +kernel), by decide +kernel⟩
theorem sp_len : SP.length = 1 := by decide +kernel
theorem join_line {ys : List Str} {n : Nat} (h : ∀ y ∈ ys, Low y) (k : wide ys ≤ n) : Line n (Txt.join SP ys) := ⟨Nat.le_trans (join_len_le ys) k, join_signs (by decide) h⟩
section
variable {P : Program} {w : World} {K : PySem.W.Frag} {mg : Str → Option Value} {base : Heap} {f : Addr} {fd : FuncData}
theorem ok__law_good (T : Tx K mg) (C__law_next : CallOk P w K mg base CX0 1 "_law_next" ["state", "many"] (spNext K)) (C__law_word : CallOk P w K mg base CX0 2 "_law_word" ["state", "taken"] (spWord K))
    (C__law_number : CallOk P w K mg base CX0 2 "_law_number" ["state"] (spNum K)) (C__law_text : CallOk P w K mg base CX0 2 "_law_text" ["state"] (spText K))
    (F : Fun K "_law_good" "_law_good" s__law_good f fd) : FnOk P w K mg base CX0 3 f fd ["state"] (spGood K) := by
  refine F.ok sc__law_good (fun vs H Q E h => ?_) (fun cdv A outer s H vs Q E hr h => ?_)
  · obtain ⟨S, m, rfl, _⟩ := h
    rfl
  · obtain ⟨S, m, rfl, st, hm, k⟩ := h
    refine ⟨_, (pss_cons (ps_set (i := 1) sc__law_good.nd rfl (Or.inl rfl) (pe_c C__law_next (hr.mono (by decide)) (by rfl) (pa_cons (pv 0) (pa_cons pe_int pa_nil))))
      (pss_cons (ps_set (i := 2) sc__law_good.nd rfl (Or.inl rfl) (pe_op op_add_str (pe_c C__law_word (hr.mono (by decide)) (by rfl) (pa_cons (pv 0) (pa_cons (pe_lst pa_nil) pa_nil))) (pe_ix ix_list (pe_lst (pa_cons pe_str (pa_cons pe_str pa_nil))) (pe_c C__law_next (hr.mono (by decide)) (by rfl) (pa_cons (pv 0) (pa_cons pe_int pa_nil))) (fun _ _ => rfl))))
      (pss_cons (ps_if (pt_cmpR op_eq (pv 1) pe_int (nomark _)) (pss_one (ps_ret (pe_op op_add_str (pe_op op_add_str (pe_ix ix_list (pe_lst (pa_cons pe_str (pa_cons pe_str (pa_cons pe_str (pa_cons pe_str (pa_cons pe_str (pa_cons pe_str pa_nil))))))) (pe_c C__law_next (hr.mono (by decide)) (by rfl) (pa_cons (pv 0) (pa_cons pe_int pa_nil))) (fun _ _ => rfl)) pe_str) (pe_c C__law_text (hr.mono (by decide)) (by rfl) (pa_cons (pv 0) pa_nil))))) pss_nil)
      (pss_cons (ps_if (pt_cmpR op_eq (pv 1) pe_int (nomark _)) (pss_one (ps_ret (pe_ix ix_list (pe_lst (pa_cons pe_str (pa_cons pe_str (pa_cons pe_str (pa_cons pe_str pa_nil))))) (pe_c C__law_next (hr.mono (by decide)) (by rfl) (pa_cons (pv 0) (pa_cons pe_int pa_nil))) (fun _ _ => rfl)))) pss_nil)
      (pss_cons (ps_if (pt_cmpR op_eq (pv 1) pe_int (nomark _)) (pss_one (ps_ret (pe_op op_add_str (pe_op op_add_str (pe_ix ix_list (pe_lst (pa_cons pe_str (pa_cons pe_str (pa_cons pe_str (pa_cons pe_str pa_nil))))) (pe_c C__law_next (hr.mono (by decide)) (by rfl) (pa_cons (pv 0) (pa_cons pe_int pa_nil))) (fun _ _ => rfl)) pe_str) (pe_c C__law_number (hr.mono (by decide)) (by rfl) (pa_cons (pv 0) pa_nil))))) pss_nil)
      (pss_cons (ps_if (pt_cmpR op_eq (pv 1) pe_int (nomark _)) (pss_one (ps_ret (pe_join pe_str (pe_op op_cat (pe_lst (pa_cons (pe_ix ix_list (pe_lst (pa_cons pe_str (pa_cons pe_str pa_nil))) (pe_c C__law_next (hr.mono (by decide)) (by rfl) (pa_cons (pv 0) (pa_cons pe_int pa_nil))) (fun _ _ => rfl)) pa_nil)) (pe_op op_rep (pe_lst (pa_cons (pv 2) pa_nil)) (pe_op op_add pe_int (pe_c C__law_next (hr.mono (by decide)) (by rfl) (pa_cons (pv 0) (pa_cons pe_int pa_nil))))))))) pss_nil)
      (pss_cons (ps_if (pt_cmpR op_eq (pv 1) pe_int (nomark _)) (pss_cons (ps_set (i := 3) sc__law_good.nd rfl (Or.inl rfl) (pe_ix ix_list (pe_lst (pa_cons (pe_lst (pa_cons pe_str (pa_cons (pv 2) (pa_cons (pe_c C__law_number (hr.mono (by decide)) (by rfl) (pa_cons (pv 0) pa_nil)) pa_nil)))) (pa_cons (pe_lst (pa_cons pe_str (pa_cons (pv 2) (pa_cons (pe_c C__law_number (hr.mono (by decide)) (by rfl) (pa_cons (pv 0) pa_nil)) (pa_cons (pe_c C__law_number (hr.mono (by decide)) (by rfl) (pa_cons (pv 0) pa_nil)) pa_nil))))) pa_nil))) (pe_c C__law_next (hr.mono (by decide)) (by rfl) (pa_cons (pv 0) (pa_cons pe_int pa_nil))) (fun _ _ => rfl)))
      (pss_one (ps_ret (pe_ix ix_list (pe_lst (pa_cons (pe_join pe_str (pv 3)) (pa_cons (pe_op op_add_str (pe_op op_add_str (pe_op op_add_str pe_str (pv 2)) pe_str) (pe_c C__law_text (hr.mono (by decide)) (by rfl) (pa_cons (pv 0) pa_nil))) pa_nil))) (pe_c C__law_next (hr.mono (by decide)) (by rfl) (pa_cons (pv 0) (pa_cons pe_int pa_nil))) (fun _ _ => rfl))))) pss_nil)
      (pss_cons (ps_set (i := 4) sc__law_good.nd rfl (Or.inl rfl) (pe_lst (pa_cons pe_str pa_nil)))
      (pss_cons (ps_for PassesOwn.never rfl (pi_range1 (by rfl) T.b_range (pa_cons (pe_c C__law_next (hr.mono (by decide)) (by rfl) (pa_cons (pv 0) (pa_cons pe_int pa_nil))) pa_nil)) (pg_name (i := 5) sc__law_good.nd rfl (Or.inl rfl)) (pss_one (ps_set (i := 4) sc__law_good.nd rfl (Or.inl rfl) (pe_op op_cat (pv 4) (pe_lst (pa_cons (pe_c C__law_word (hr.mono (by decide)) (by rfl) (pa_cons (pv 0) (pa_cons (pe_lst pa_nil) pa_nil))) (pa_cons (pe_c C__law_number (hr.mono (by decide)) (by rfl) (pa_cons (pv 0) pa_nil)) pa_nil)))))))
      (pss_cons (ps_expr (pe_bm PySem.F.plainAttrs_list PySem.F.slot_list_append PySem.F.type_list_append mt_append (pv 4) (pa_cons pe_str pa_nil)))
      (pss_cons (ps_for PassesOwn.never rfl (pi_range1 (by rfl) T.b_range (pa_cons (pe_c C__law_next (hr.mono (by decide)) (by rfl) (pa_cons (pv 0) (pa_cons pe_int pa_nil))) pa_nil)) (pg_name (i := 5) sc__law_good.nd rfl (Or.inl rfl)) (pss_one (ps_set (i := 4) sc__law_good.nd rfl (Or.inl rfl) (pe_op op_cat (pv 4) (pe_lst (pa_cons (pe_c C__law_word (hr.mono (by decide)) (by rfl) (pa_cons (pv 0) (pa_cons (pe_lst pa_nil) pa_nil))) (pa_cons (pe_c C__law_number (hr.mono (by decide)) (by rfl) (pa_cons (pv 0) pa_nil)) pa_nil)))))))
      (pss_one (ps_ret (pe_join pe_str (pv 4))))))))))))))), ?_⟩
    refine asg_in (go_next rfl ev_c st (by omega) (by decide) fun H1 way kp1 st1 w0 w6 => ?_)
    refine asg_in (op_in (go_word rfl st1 (by omega) fun H2 x kp2 st2 lx nx => ?_))
    refine go_pick (ys := ["", "z"]) (ea_cons ev_c (ea_cons ev_c ea_nil)) rfl (fun _ => ev_c) rfl (by decide) st2 (by omega) (by decide) fun H3 z kp3 st3 hz => ?_
    have kp := (kp1.trans kp2).trans kp3
    have lz : z.length ≤ 1 ∧ ∀ c ∈ TL.tl z, 97 ≤ c ∧ c ≤ 122 := by
      simp only [List.mem_cons, List.not_mem_nil, or_false] at hz
      rcases hz with rfl | rfl
      · exact ⟨by decide +kernel, by decide +kernel⟩
      · exact ⟨by decide +kernel, by decide +kernel⟩
    refine ⟨x, z, rfl, rfl, sz_of (by omega), ?_⟩
    have lw : isLetters (x ++ z) = true := by
      have q := isLetters_iff.mp lx
      refine isLetters_iff.mpr ⟨by rw [len_append]; omega, fun c hc => ?_⟩
      rw [TL.tl_append] at hc
      rcases List.mem_append.mp hc with hc | hc
      · exact q.2 c hc
      · exact lz.2 c hc
    have nw : (x ++ z).length ≤ 9 := by rw [len_append]; omega
    generalize x ++ z = word at lw nw ⊢
    -- way == 0
    refine q_when (et_is (et_test (ev_op (ev_var rfl) ev_c (rv_eq rfl))) (dec_int _ _)) (fun b H4 e4 => ?_) (fun b0 H4 e4 => ?_)
    · refine ret_in (op_in (op_in (go_pick (ys := wTexts) (ea_cons ev_c (ea_cons ev_c (ea_cons ev_c (ea_cons ev_c (ea_cons ev_c (ea_cons ev_c ea_nil)))))) rfl (fun _ => ev_c) rfl (by decide) (st3.ex e4) (by omega) (by decide) fun H5 g kp5 st5 hg => ?_)))
      have low := texts_low hg
      refine ⟨g, SP, rfl, rfl, sz_of (by rw [sp_len]; omega), go_text rfl st5 (by omega) fun H6 t kp6 st6 lt => ?_⟩
      refine ⟨g ++ SP, t, rfl, rfl, sz_of (by rw [len_append, sp_len]; have := lt.1; omega), k H6 _ ((kp.trans (Kp.of e4)).trans (kp5.trans kp6)) (st6.le (by omega)) ⟨⟨?_, (low.1.append low_SP).append lt.2⟩, good_text hg t⟩⟩
      rw [len_append, len_append, sp_len]
      have := lt.1
      omega
    have st4 := st3.ex e4
    have kp := kp.trans (Kp.of e4)
    -- way == 1
    refine q_when (et_is (et_test (ev_op (ev_var rfl) ev_c (rv_eq rfl))) (dec_int _ _)) (fun b H5 e5 => ?_) (fun b1 H5 e5 => ?_)
    · refine ret_in (go_pick (ys := ["undo", "rows", "reader", "win"]) (ea_cons ev_c (ea_cons ev_c (ea_cons ev_c (ea_cons ev_c ea_nil)))) rfl (fun _ => ev_c) rfl (by decide) (st4.ex e5) (by omega) (by decide) fun H6 g kp6 st6 hg => ?_)
      have hg : g ∈ wBare ∨ g ∈ wRowed := by
        simp only [List.mem_cons, List.not_mem_nil, or_false] at hg
        rcases hg with rfl | rfl | rfl | rfl
        · exact .inl (by decide +kernel)
        · exact .inl (by decide +kernel)
        · exact .inr (by decide +kernel)
        · exact .inr (by decide +kernel)
      have low : Low g ∧ g.length ≤ 6 := hg.elim bare_low rowed_low
      exact k H6 g ((kp.trans (Kp.of e5)).trans kp6) (st6.le (by omega)) ⟨⟨by omega, low.1⟩, good_alone hg⟩
    have st5 := st4.ex e5
    have kp := kp.trans (Kp.of e5)
    -- way == 2
    refine q_when (et_is (et_test (ev_op (ev_var rfl) ev_c (rv_eq rfl))) (dec_int _ _)) (fun b H6 e6 => ?_) (fun b2 H6 e6 => ?_)
    · refine ret_in (op_in (op_in (go_pick (ys := wNumbered) (ea_cons ev_c (ea_cons ev_c (ea_cons ev_c (ea_cons ev_c ea_nil)))) rfl (fun _ => ev_c) rfl (by decide) (st5.ex e6) (by omega) (by decide) fun H7 g kp7 st7 hg => ?_)))
      have low := numbered_low hg
      refine ⟨g, SP, rfl, rfl, sz_of (by rw [sp_len]; omega), go_num rfl st7 (by omega) fun H8 t kp8 st8 nt lt => ?_⟩
      refine ⟨g ++ SP, t, rfl, rfl, sz_of (by rw [len_append, sp_len]; omega), k H8 _ ((kp.trans (Kp.of e6)).trans (kp7.trans kp8)) (st8.le (by omega)) ⟨⟨?_, (low.1.append low_SP).append (low_number nt)⟩, good_numbered hg nt⟩⟩
      rw [len_append, len_append, sp_len]
      omega
    have st6 := st5.ex e6
    have kp := kp.trans (Kp.of e6)
    -- way == 3
    refine q_when (et_is (et_test (ev_op (ev_var rfl) ev_c (rv_eq rfl))) (dec_int _ _)) (fun b H7 e7 => ?_) (fun b3 H7 e7 => ?_)
    · refine ⟨⟨SP, rfl⟩, ?_⟩
      refine go_pick (ys := wRowed) (ea_cons ev_c (ea_cons ev_c ea_nil)) rfl (fun _ => ev_c) rfl (by decide) (st6.ex e7) (by omega) (by decide) fun H8 g kp8 st8 hg => ?_
      refine ⟨(by show 1 ≤ sizeLine; decide), fun p hp => ⟨.str word, rfl, (by show 1 ≤ sizeLine; decide), fun q hq => ?_⟩⟩
      refine go_next rfl ev_c ((st8.laid hp).laid hq) (by omega) (by decide) fun H9 n kp9 st9 n0 n4 => ?_
      have low := rowed_low hg
      have hq9 := kp9 _ _ ((st8.laid hp).new hq) upd_same
      have hp9 := kp9 _ _ (st8.new hp) ((Evl.Ex.new hq) _ _ upd_same)
      refine ⟨1, n, rfl, rfl, q, 1 + n, [.str word], rfl, rfl, hq9, by omega, by omega, ?_, fun u hu => ?_⟩
      · show 1 * (1 + n).toNat ≤ sizeLine
        exact sz_of (by omega)
      have hpu : p ≠ u := ne_of_none hp9 hu
      have flat : (List.replicate (1 + n).toNat [V.str word]).flatten = (List.replicate (1 + n).toNat word).map V.str := by
        rw [List.flatten_replicate_singleton, List.map_replicate]
      refine ⟨p, u, [.str g], (List.replicate (1 + n).toNat word).map V.str, rfl, rfl, by rw [upd_ne hpu]; exact hp9, by rw [upd_same, flat], ?_, fun v hv => ?_⟩
      · rw [List.length_map, List.length_replicate]
        exact sz_of (by show 1 + (1 + n).toNat ≤ 100000; omega)
      · have all : ∀ y ∈ List.replicate (1 + n).toNat word, isLetters y = true ∧ y.length ≤ 9 := fun y hy => by
          rw [List.eq_of_mem_replicate hy]
          exact ⟨lw, nw⟩
        have wr := wide_le_of (n := 9) fun y hy => (all y hy).2
        rw [List.length_replicate] at wr
        have wt : wide (g :: List.replicate (1 + n).toNat word) ≤ 57 := by
          rw [wide_cons]
          omega
        refine ⟨SP, v, g :: List.replicate (1 + n).toNat word, rfl, rfl, .inl (sq_of upd_same), join_room (by omega), k _ _ ?_ ?_ ⟨?_, good_rowed hg fun y hy => (all y hy).1⟩⟩
        · exact (((kp.trans (Kp.of e7)).trans kp8).trans ((Kp.of ((Evl.Ex.new hp).trans (Evl.Ex.new hq))).trans kp9)).trans (Kp.of ((Evl.Ex.new hu).trans (Evl.Ex.new hv)))
        · exact ((st9.laid hu).laid hv).le (by omega)
        · refine join_line (fun y hy => ?_) (by omega)
          rcases List.mem_cons.mp hy with rfl | hy
          · exact low.1
          · exact low_letters (all y hy).1
    have st7 := st6.ex e7
    have kp := kp.trans (Kp.of e7)
    -- way == 4
    refine q_when (et_is (et_test (ev_op (ev_var rfl) ev_c (rv_eq rfl))) (dec_int _ _)) (fun b H8 e8 => ?_) (fun b4 H8 e8 => ?_)
    · have st8 := st7.ex e8
      have kp := kp.trans (Kp.of e8)
      refine asg_in (op_in ⟨.str word, rfl, ?_⟩)
      refine go_num rfl st8 (by omega) fun H9 n1 kp9 st9 nn1 ln1 => ?_
      refine ⟨(by show 3 ≤ sizeLine; decide), fun p hp => ⟨.str word, rfl, ?_⟩⟩
      refine go_num rfl (st9.laid hp) (by omega) fun H10 n2 kp10 st10 nn2 ln2 => ?_
      refine go_num rfl st10 (by omega) fun H11 n3 kp11 st11 nn3 ln3 => ?_
      refine ⟨(by show 4 ≤ sizeLine; decide), fun q hq => ⟨(by show 2 ≤ sizeLine; decide), fun u hu => ?_⟩⟩
      refine go_next rfl ev_c ((st11.laid hq).laid hu) (by omega) (by decide) fun H12 i kp12 st12 i0 i1 => ?_
      have pS := st9.new hp
      have qS := st11.new hq
      have uS := (st11.laid hq).new hu
      have hp12 : H12 p = some (.lst ([wCount, word, n1].map V.str)) := kp12 _ _ pS ((Evl.Ex.new hu) _ _ ((Evl.Ex.new hq) _ _ (kp11 _ _ pS (kp10 _ _ pS upd_same))))
      have hq12 : H12 q = some (.lst ([wTree, word, n2, n3].map V.str)) := kp12 _ _ qS ((Evl.Ex.new hu) _ _ upd_same)
      have hu12 := kp12 _ _ uS upd_same
      obtain ⟨v, hv, mv⟩ := at_pick (l := [V.ref p, V.ref q]) i0 (by show i < 2; exact i1)
      refine ⟨u, _, i, v, rfl, rfl, sq_of hu12, hv, ?_⟩
      have kp12 := (((kp.trans kp9).trans (Kp.of (Evl.Ex.new hp))).trans (kp10.trans kp11)).trans ((Kp.of ((Evl.Ex.new hq).trans (Evl.Ex.new hu))).trans kp12)
      have cl : Low wCount ∧ Low wTree := ⟨low_dec (by decide +kernel), low_dec (by decide +kernel)⟩
      have cn : wCount.length = 5 ∧ wTree.length = 4 := by decide +kernel
      obtain ⟨a, ys, rfl, hys, lowys, wys, gys⟩ : ∃ (a : Addr) (ys : List Str), v = .ref a ∧ H12 a = some (.lst (ys.map V.str)) ∧ (∀ y ∈ ys, Low y) ∧ wide ys ≤ 60 ∧ cmdP (Txt.join SP ys) ≠ .none := by
        simp only [List.mem_cons, List.not_mem_nil, or_false] at mv
        rcases mv with rfl | rfl
        · refine ⟨p, _, rfl, hp12, fun y hy => ?_, ?_, good_count lw nn1⟩
          · simp only [List.mem_cons, List.not_mem_nil, or_false] at hy
            rcases hy with rfl | rfl | rfl
            · exact cl.1
            · exact low_letters lw
            · exact low_number nn1
          · rw [wide_cons, wide_cons, wide_cons, wide_nil]
            omega
        · refine ⟨q, _, rfl, hq12, fun y hy => ?_, ?_, good_tree lw nn2 nn3⟩
          · simp only [List.mem_cons, List.not_mem_nil, or_false] at hy
            rcases hy with rfl | rfl | rfl | rfl
            · exact cl.2
            · exact low_letters lw
            · exact low_number nn2
            · exact low_number nn3
          · rw [wide_cons, wide_cons, wide_cons, wide_cons, wide_nil]
            omega
      have pl : ("place " : Str).length = 6 := by decide +kernel
      have lp : Low ("place " : Str) := low_dec (by decide +kernel)
      refine ret_in (op_in ⟨⟨SP, rfl⟩, .ref a, rfl, SP, a, ys, rfl, rfl, .inl (sq_of hys), join_room (by omega), ?_⟩)
      refine cons1_in (op_in (op_in (op_in ⟨.str word, rfl, "place ", word, rfl, rfl, sz_of (by omega), ("place " : Str) ++ word, SP, rfl, rfl, sz_of (by rw [len_append, sp_len]; omega), ?_⟩)))
      refine go_text rfl st12 (by omega) fun H13 t kp13 st13 lt => ?_
      have lt1 := lt.1
      refine ⟨_, t, rfl, rfl, sz_of (by rw [len_append, len_append, sp_len]; omega), (by show 2 ≤ sizeLine; decide), fun d hd => ?_⟩
      refine go_next rfl ev_c (st13.laid hd) (by omega) (by decide) fun H14 i kp14 st14 i0 i1 => ?_
      obtain ⟨v, hv, mv⟩ := at_pick (l := [V.str (Txt.join SP ys), V.str (("place " : Str) ++ word ++ SP ++ t)]) i0 (by show i < 2; exact i1)
      obtain ⟨z, rfl, gz⟩ : ∃ z, v = .str z ∧ Good z := by
        simp only [List.mem_cons, List.not_mem_nil, or_false] at mv
        rcases mv with rfl | rfl
        · exact ⟨_, rfl, join_line lowys (by omega), gys⟩
        · refine ⟨_, rfl, ⟨?_, ((lp.append (low_letters lw)).append low_SP).append lt.2⟩, good_place lw t⟩
          rw [len_append, len_append, len_append, sp_len]
          omega
      exact ⟨d, _, i, .str z, rfl, rfl, sq_of (kp14 _ _ (st13.new hd) upd_same), hv, k _ z ((kp12.trans kp13).trans ((Kp.of (Evl.Ex.new hd)).trans kp14)) (st14.le (by omega)) gz⟩
    have st8 := st7.ex e8
    have kp := kp.trans (Kp.of e8)
    -- begin
    refine q_asgL (xs := [wBegin].map V.str) (el_lst (ea_cons ev_c ea_nil) (by decide)) fun p H9 np e9 h9 => ?_
    have kp8 := kp
    have st9 := st8.ex e9
    have kp := kp.trans (Kp.of e9)
    have lb : Low wBegin ∧ wBegin.length = 5 := ⟨low_dec (by decide +kernel), by decide +kernel⟩
    refine go_for rfl ev_c st9 (by omega) (by decide) (by decide) fun H10 n kp10 st10 n0 n4 => ⟨fun t σ' H' => ∃ (q : Addr) (ys : List Str) (kk : Option V), σ' = [some (.ref S), some (.int way), some (.str word), none, some (.ref q), kk] ∧ Kp S H H' ∧ StAt K H' S (m + 13 + 13 * t) ∧ H q = none ∧ H' q = some (.lst ((wBegin :: ys).map V.str)) ∧ Paired2 ys ∧ (∀ y ∈ ys, Low y) ∧ wide ys ≤ 17 * t,
      ⟨p, [], none, rfl, kp.trans kp10, st10.le (by omega), kp8.back (st8.new np) np, kp10 _ _ (st9.ne h9) h9, .nil, (fun y hy => by cases hy), Nat.zero_le _⟩, ?_, ?_⟩
    · rintro t σ' H' ht ⟨q, ys, kk, rfl, kp', st', fq, hq, pr, lo, wi⟩
      have lys := wide_le (ps := ys)
      refine go_turn (ws := wBegin :: ys) rfl rfl hq (by rw [List.length_cons]; omega) st' (by omega) fun H2 q2 a b fq2 kp2 st2 hq2 la na lb nb => ?_
      refine ⟨q2, ys ++ [a, b], _, rfl, kp'.trans kp2, st2.le (by omega), kp'.back (fun z => by subst z; obtain ⟨xs, h1⟩ := st'.there; rw [h1] at fq2; cases fq2) fq2, hq2, pr.snoc la lb, fun y hy => ?_, ?_⟩
      · rcases List.mem_append.mp hy with hy | hy
        · exact lo y hy
        · simp only [List.mem_cons, List.not_mem_nil, or_false] at hy
          rcases hy with rfl | rfl
          · exact low_letters la
          · exact low_number lb
      · rw [wide_append, wide_cons, wide_cons, wide_nil]
        omega
    · rintro σ' H' ⟨q, ys, kk, rfl, kp', st', fq, hq, pr, lo, wi⟩
      have lys := wide_le (ps := ys)
      have n3 : n.toNat ≤ 3 := by omega
      refine q_app hq (ev_var rfl) ev_c (by rw [List.length_map, List.length_cons]; omega) fun H2 e2 => ?_
      have qS := st'.ne hq
      have st2 : StAt K (L2.upd H2 q (.lst ((wBegin :: ys).map V.str ++ [V.str (Str.ofString ";")]))) S (m + 52) := ((st'.ex e2).mut (e2 _ _ hq) qS (ints_strs _)).le (by omega)
      have kp2 : Kp S H (L2.upd H2 q (.lst ((wBegin :: ys).map V.str ++ [V.str (Str.ofString ";")]))) := (kp'.trans (Kp.of e2)).mut fq
      have hq2 : (L2.upd H2 q (.lst ((wBegin :: ys).map V.str ++ [V.str (Str.ofString ";")]))) q = some (.lst ((wBegin :: (ys ++ [SEMI])).map V.str)) := by
        rw [upd_same, List.map_cons, List.map_cons, List.map_append] <;> rfl
      generalize L2.upd H2 q (.lst ((wBegin :: ys).map V.str ++ [V.str (Str.ofString ";")])) = H3 at st2 kp2 hq2 ⊢
      refine go_for rfl ev_c st2 (by omega) (by decide) (by decide) fun H10 n kp10 st10 n0 n4 => ⟨fun t σ' H' => ∃ (q : Addr) (zs : List Str) (kk : Option V), σ' = [some (.ref S), some (.int way), some (.str word), none, some (.ref q), kk] ∧ Kp S H H' ∧ StAt K H' S (m + 53 + 13 * t) ∧ H' q = some (.lst ((wBegin :: (ys ++ [SEMI] ++ zs)).map V.str)) ∧ Paired2 zs ∧ (∀ y ∈ zs, Low y) ∧ wide zs ≤ 17 * t,
        ⟨q, [], kk, rfl, kp2.trans kp10, st10.le (by omega), by rw [List.append_nil]; exact kp10 _ _ (st2.ne hq2) hq2, .nil, (fun y hy => by cases hy), Nat.zero_le _⟩, ?_, ?_⟩
      · rintro t σ' H' ht ⟨q, zs, kk, rfl, kp', st', hq, pr, lo, wi⟩
        have lzs := wide_le (ps := zs)
        refine go_turn (ws := wBegin :: (ys ++ [SEMI] ++ zs)) rfl rfl hq (by rw [List.length_cons, List.length_append, List.length_append, List.length_singleton]; omega) st' (by omega) fun H2 q2 a b fq2 kp2 st2 hq2 la na lb nb => ?_
        refine ⟨q2, zs ++ [a, b], _, rfl, kp'.trans kp2, st2.le (by omega), ?_, pr.snoc la lb, fun y hy => ?_, ?_⟩
        · rw [← List.append_assoc]
          exact hq2
        · rcases List.mem_append.mp hy with hy | hy
          · exact lo y hy
          · simp only [List.mem_cons, List.not_mem_nil, or_false] at hy
            rcases hy with rfl | rfl
            · exact low_letters la
            · exact low_number lb
        · rw [wide_append, wide_cons, wide_cons, wide_nil]
          omega
      · rintro σ' H' ⟨q, zs, kk, rfl, kp', st', hq, pz, loz, wz⟩
        have ls : SEMI.length = 1 := by decide +kernel
        have wt : wide (wBegin :: (ys ++ [SEMI] ++ zs)) ≤ 120 := by
          rw [wide_cons, wide_append, wide_append, wide_cons, wide_nil]
          omega
        refine s_ret (ev_join ev_c (ev_var rfl) (sq_of hq) (by omega)) fun H5 e5 => k _ _ (kp'.trans (Kp.of e5)) ((st'.ex e5).le (by omega)) ⟨join_line (fun y hy => ?_) (by omega), good_begin pr pz⟩
        rcases List.mem_cons.mp hy with rfl | hy
        · exact lb.1
        · rcases List.mem_append.mp hy with hy | hy
          · rcases List.mem_append.mp hy with hy | hy
            · exact lo y hy
            · rw [List.mem_singleton.mp hy]
              exact low_dec (by decide +kernel)
          · exact loz y hy
end
end K80

set_option maxRecDepth 100000
set_option maxHeartbeats 16000000
namespace K80
open PySem PySem.Spec PyProof.Rows L2 Evl Pg
theorem pet_ix {X : Cx} {a b : Expr} {pos : Pos} {ta tb : TE} {r : R2} (hr : IxR X r) (ha : PET X a ta) (hb : PE X b tb) (hs : PlainIx b) : PET X (.Subscript a b pos) (tOp r ta tb) := by
  intro pins s σ H Q h0 I h
  exact Subscript_ (thn (ha pins s σ H _ h0 I h) fun v s1 ⟨x, H1, I1, r1, q1⟩ => thn (hb.run pins s1 σ H1 _ I1 q1) fun u s2 ⟨y, H2, I2, r2, q2⟩ => hr a b pins s2 σ H2 x y v u Q I2 r1 r2 q2 (hs _ _))
structure Tb (X : Cx) (ss : List Stmt) (t : TS) : Prop where
  run : PSsT X ss t
theorem tb_cons {X : Cx} {st : Stmt} {rest : List Stmt} {t u : TS} (h1 : PS X st t) (h2 : Tb X rest u) : Tb X (st :: rest) (tSeq t u) := ⟨psst_cons (PST.of h1) h2.run⟩
theorem tb_last {X : Cx} {st : Stmt} {t : TS} (h1 : PST X st t) : Tb X [st] t := ⟨CwR.psst_one h1⟩
theorem okT {P : Program} {w : World} {K : PySem.W.Frag} {mg : Str → Option Value} {base : Heap} {CX : CXT} {k : Nat} {f : Addr} {fd : FuncData} {ps N : List Str} {sp : Sp} {x qual : Str} {st : Stmt} (F : Fun K x qual st f fd) (S : FnScope N ps (defScope st))
    (nocell : ∀ y ∈ (defScope st).names, y.2 ≠ .cell) (some_ : 1 ≤ ps.length) (arity : ∀ vs H Q E, sp vs H Q E → vs.length = ps.length)
    (hbody : ∀ (cdv : Value) (A : Around) (outer : List Env) (s : Shared) (H : Hp) (vs : List V) (Q : VK) (E : XK), Room k (A.deeper (envOfC qual (defScope st) s.heap.objs.size f cdv)) → sp vs H Q E →
      ∃ t, Tb (cxOf CX P w K mg base N qual (defScope st) f cdv A outer s H E) (defBody st) t ∧ t { nx := fun _ H' => Q .non H', rt := Q } (start N vs) H) : FnOk P w K mg base CX (k + 1) f fd ps sp := by
  obtain ⟨oc, od, kV, doc, pm, an, cdv, ct, osl, rfl, look, code⟩ := F.ex
  exact fn_ofT look code S nocell some_ arity fun A outer s H vs Q E room want => match hbody cdv A outer s H vs Q E room want with | ⟨t, h, q⟩ => ⟨t, h.run, q⟩
def spSpoilt (K : PySem.W.Frag) : Sp := fun vs H Q _ => ∃ (S : Addr) (x : Str) (m : Int), vs = [.ref S, .str x] ∧ StAt K H S m ∧ m ≤ 800000 ∧ Line 130 x ∧
  ∀ H' y, Kp S H H' → StAt K H' S (m + 10) → Line 400 y → Q (.str y) H'
/-- a slice of a list of texts -/
def cutW (ws : List Str) (lo hi : Option Int) : List Str := (ws.drop (HT.sIx ws.length 0 lo)).take (HT.sIx ws.length ws.length hi - HT.sIx ws.length 0 lo)
theorem cutV_strs (ws : List Str) (lo hi : Option Int) : cutV (ws.map V.str) lo hi = (cutW ws lo hi).map V.str := by
  unfold cutV cutW
  rw [List.length_map, List.map_take, List.map_drop]
theorem cutW_mem {ws : List Str} {lo hi : Option Int} {y : Str} (h : y ∈ cutW ws lo hi) : y ∈ ws := List.mem_of_mem_drop (List.mem_of_mem_take h)
theorem cutW_take (ws : List Str) (n : Nat) : cutW ws none (some (n : Int)) = ws.take n := by
  unfold cutW
  rw [HT.sIx_none, HT.sIx_nat, List.drop_zero, Nat.sub_zero]
  by_cases h : n ≤ ws.length
  · rw [Nat.min_eq_left h]
  · rw [Nat.min_eq_right (by omega), List.take_length, List.take_of_length_le (by omega)]
theorem cutW_drop (ws : List Str) (n : Nat) : cutW ws (some (n : Int)) none = ws.drop n := by
  unfold cutW
  rw [HT.sIx_none, HT.sIx_nat]
  by_cases h : n ≤ ws.length
  · rw [Nat.min_eq_left h, List.take_of_length_le (by rw [List.length_drop]; omega)]
  · rw [Nat.min_eq_right (by omega), List.drop_length, List.take_nil, List.drop_eq_nil_of_le (by omega)]
theorem cutW_one (ws : List Str) (n : Nat) : cutW ws (some (n : Int)) (some ((n + 1 : Nat) : Int)) = (ws.drop n).take 1 := by
  unfold cutW
  rw [HT.sIx_nat, HT.sIx_nat]
  by_cases h : n + 1 ≤ ws.length
  · rw [Nat.min_eq_left h, Nat.min_eq_left (by omega), show n + 1 - n = 1 by omega]
  · rw [Nat.min_eq_right (show ws.length ≤ n + 1 by omega), List.drop_eq_nil_of_le (show ws.length ≤ n by omega), List.take_nil]
    by_cases k : n ≤ ws.length
    · rw [Nat.min_eq_left k, List.drop_eq_nil_of_le (show ws.length ≤ n by omega), List.take_nil]
    · rw [Nat.min_eq_right (by omega), List.drop_length, List.take_nil]
/-- words that come of words of a line -/
def From (ws : List Str) (n : Nat) (ys : List Str) : Prop := (∀ y ∈ ys, Low y) ∧ wide ys ≤ n
theorem dbl_len (c : Nat) : ∀ l : List Nat, (StrLaws.dbl c l).length ≤ 2 * l.length
  | [] => Nat.le_refl _
  | k :: r => by
    have := dbl_len c r
    unfold StrLaws.dbl
    split
    · rw [List.length_cons, List.length_cons, List.length_cons]; omega
    · rw [List.length_cons, List.length_cons]; omega
theorem dbl_mem (c d : Nat) : ∀ l : List Nat, d ∈ StrLaws.dbl c l → d ∈ l
  | [], h => h
  | k :: r, h => by
    unfold StrLaws.dbl at h
    split at h
    · rcases List.mem_cons.mp h with rfl | h
      · exact List.mem_cons_self ..
      · rcases List.mem_cons.mp h with rfl | h
        · exact List.mem_cons_self ..
        · exact List.mem_cons_of_mem _ (dbl_mem c d r h)
    · rcases List.mem_cons.mp h with rfl | h
      · exact List.mem_cons_self ..
      · exact List.mem_cons_of_mem _ (dbl_mem c d r h)
theorem repl_line {x : Str} (h : Line 130 x) : Line 400 (Txt.replace x (Str.ofString " ") (Str.ofString "  ")) := by
  have e1 : (Str.ofString " ") = ⟨#[32]⟩ := by decide +kernel
  have e2 : (Str.ofString "  ") = ⟨#[32, 32]⟩ := by decide +kernel
  rw [e1, e2]
  have d := StrLaws.replace_double x 32
  refine ⟨?_, fun c hc => ?_⟩
  · rw [TL.len_tl]
    show (Txt.replace x ⟨#[32]⟩ ⟨#[32, 32]⟩).cps.toList.length ≤ 400
    rw [d]
    have := dbl_len 32 x.cps.toList
    have l := h.1
    rw [TL.len_tl] at l
    have : x.cps.toList.length ≤ 130 := l
    omega
  · have hc : c ∈ (Txt.replace x ⟨#[32]⟩ ⟨#[32, 32]⟩).cps.toList := hc
    rw [d] at hc
    exact h.2 c (dbl_mem 32 c _ hc)
section
variable {K : PySem.W.Frag} {σ : L2.St} {H : Hp} {te ta tb : TE} {tl th : TO} {ys zs : List Str}
theorem el_cut {p : Addr} {lo hi : Option Int} (h : Ev te σ H (.ref p)) (h1 : EvO tl σ H lo) (h2 : EvO th σ H hi) (hp : SqL K H p (ys.map V.str)) : EvL (tSl (rSlL K) te tl th) σ H ((cutW ys lo hi).map V.str) := by
  have := el_sl h h1 h2 hp
  rw [cutV_strs] at this
  exact this
theorem el_cat (ha : EvL ta σ H (ys.map V.str)) (hb : EvL tb σ H (zs.map V.str)) (few : ys.length + zs.length ≤ 100000) : EvL (tOp rCat ta tb) σ H ((ys ++ zs).map V.str) := fun H1 e Q q =>
  ha H1 e _ fun p H2 np e2 hp => hb H2 (e.trans e2) _ fun r H3 nr e3 hr => ⟨p, r, _, _, rfl, rfl, e3 _ _ hp, hr, by rw [List.length_map, List.length_map]; exact sz_of few, fun u hu =>
    q u _ (fresh_back (e2.trans e3) hu) ((e2.trans e3).trans (Evl.Ex.new hu)) (by rw [upd_same, List.map_append])⟩
end
def wOther : List Str := ["x", "01", "12345678", "-1", "Rule", "undo", ";", "", "0", "count", "q7", "place", "rule"]
theorem other_ok : ∀ y ∈ wOther, Low y ∧ y.length ≤ 8 := by
  have h : wOther.all (fun y => (TL.tl y).all (fun c => decide (c < 1000)) && decide (y.length ≤ 8)) = true := by decide +kernel
  intro y hy
  have := List.all_eq_true.mp h y hy
  rw [Bool.and_eq_true, List.all_eq_true, decide_eq_true_iff] at this
  exact ⟨fun c hc => of_decide_eq_true (this.1 c hc), this.2⟩
section
variable {P : Program} {w : World} {K : PySem.W.Frag} {mg : Str → Option Value} {base : Heap} {f : Addr} {fd : FuncData}
theorem ok__law_spoilt (T : Tx K mg) (C__law_next : CallOk P w K mg base CX0 1 "_law_next" ["state", "many"] (spNext K)) (F : Fun K "_law_spoilt" "_law_spoilt" s__law_spoilt f fd) : FnOk P w K mg base CX0 2 f fd ["state", "line"] (spSpoilt K) := by
  refine okT F sc__law_spoilt (by decide +kernel) (by decide) (fun vs H Q E h => ?_) (fun cdv A outer s H vs Q E hr h => ?_)
  · obtain ⟨S, x, m, rfl, _⟩ := h
    rfl
  · obtain ⟨S, x, m, rfl, st, hm, line, k⟩ := h
    have len := line.1
    refine ⟨_, (tb_cons (ps_set (i := 2) sc__law_spoilt.nd rfl (Or.inl rfl) (pe_split (pv 1) pe_str))
      (tb_cons (ps_set (i := 3) sc__law_spoilt.nd rfl (Or.inl rfl) (pe_c C__law_next (hr.mono (by decide)) (by rfl) (pa_cons (pv 0) (pa_cons (pe_callB call_len_seq (by rfl) T.b_len bt_len (pa_cons (pv 2) pa_nil)) pa_nil))))
      (tb_cons (ps_set (i := 4) sc__law_spoilt.nd rfl (Or.inl rfl) (pe_lst (pa_cons pe_str (pa_cons pe_str (pa_cons pe_str (pa_cons pe_str (pa_cons pe_str (pa_cons pe_str (pa_cons pe_str (pa_cons pe_str (pa_cons pe_str (pa_cons pe_str (pa_cons pe_str (pa_cons pe_str (pa_cons pe_str pa_nil)))))))))))))))
      (tb_cons (ps_set (i := 5) sc__law_spoilt.nd rfl (Or.inl rfl) (pe_ix ix_list (pv 4) (pe_c C__law_next (hr.mono (by decide)) (by rfl) (pa_cons (pv 0) (pa_cons (pe_callB call_len_seq (by rfl) T.b_len bt_len (pa_cons (pv 4) pa_nil)) pa_nil))) (fun _ _ => rfl)))
      (tb_cons (ps_set (i := 6) sc__law_spoilt.nd rfl (Or.inl rfl) (pe_c C__law_next (hr.mono (by decide)) (by rfl) (pa_cons (pv 0) (pa_cons pe_int pa_nil))))
      (tb_cons (ps_if (pt_cmpR op_eq (pv 6) pe_int (nomark _)) (pss_one (ps_ret (pe_join pe_str (pe_op op_cat (pe_slice sl_list (pv 2) po_none (po_some (pv 3))) (pe_slice sl_list (pv 2) (po_some (pe_op op_add (pv 3) pe_int)) po_none))))) pss_nil)
      (tb_cons (ps_if (pt_cmpR op_eq (pv 6) pe_int (nomark _)) (pss_one (ps_ret (pe_join pe_str (pe_op op_cat (pe_op op_cat (pe_slice sl_list (pv 2) po_none (po_some (pv 3))) (pe_lst (pa_cons (pv 5) pa_nil))) (pe_slice sl_list (pv 2) (po_some (pv 3)) po_none))))) pss_nil)
      (tb_cons (ps_if (pt_cmpR op_eq (pv 6) pe_int (nomark _)) (pss_one (ps_ret (pe_join pe_str (pe_op op_cat (pe_op op_cat (pe_slice sl_list (pv 2) po_none (po_some (pv 3))) (pe_lst (pa_cons (pv 5) pa_nil))) (pe_slice sl_list (pv 2) (po_some (pe_op op_add (pv 3) pe_int)) po_none))))) pss_nil)
      (tb_cons (ps_if (pt_cmpR op_eq (pv 6) pe_int (nomark _)) (pss_one (ps_ret (pe_join pe_str (pe_op op_cat (pe_op op_cat (pe_op op_cat (pe_slice sl_list (pv 2) po_none (po_some (pv 3))) (pe_slice sl_list (pv 2) (po_some (pe_op op_add (pv 3) pe_int)) (po_some (pe_op op_add (pv 3) pe_int)))) (pe_slice sl_list (pv 2) (po_some (pv 3)) (po_some (pe_op op_add (pv 3) pe_int)))) (pe_slice sl_list (pv 2) (po_some (pe_op op_add (pv 3) pe_int)) po_none))))) pss_nil)
      (tb_last (CwR.pst_ret (pet_ix ix_list (pet_lst (pat_cons (CwR.PET.of (pe_op op_add_str (pv 1) pe_str)) (pat_cons (CwR.PET.of (pe_op op_add_str pe_str (pv 1))) (pat_cons (CwR.PET.of (pe_op op_add_str (pv 1) pe_str)) (pat_cons (CwR.pet_replC (pv 1)) pat_nil))))) (pe_c C__law_next (hr.mono (by decide)) (by rfl) (pa_cons (pv 0) (pa_cons pe_int pa_nil))) (fun _ _ => rfl))))))))))))), ?_⟩
    refine q_asgL (el_split (ev_var rfl) ev_c (by omega)) fun p H1 np e1 h1 => ?_
    have wne := words_ne x
    have wl := words_wide x
    have lows : ∀ y ∈ wordsOf x, Low y := fun y hy => word_signs line.2 hy
    generalize wordsOf x = ws at h1 wne wl lows
    have few := wide_le (ps := ws)
    have st1 := st.ex e1
    have pos := List.length_pos_iff.mpr wne
    refine asg_in (go_next (n := (ws.length : Int)) rfl ?_ st1 (by omega) (by omega) fun H2 a kp2 st2 a0 a1 => ?_)
    · have := ev_lenL (K := K) (ea_cons (ev_var (σ := [some (.ref S), some (.str x), some (.ref p), none, none, none, none]) (i := 2) rfl) ea_nil) (sq_of h1)
      rw [List.length_map] at this
      exact this
    obtain ⟨n, rfl⟩ := Int.eq_ofNat_of_zero_le a0
    have h2 := kp2 _ _ (st1.ne h1) h1
    refine q_asgL (xs := wOther.map V.str) (el_lst (ea_cons ev_c (ea_cons ev_c (ea_cons ev_c (ea_cons ev_c (ea_cons ev_c (ea_cons ev_c (ea_cons ev_c (ea_cons ev_c (ea_cons ev_c (ea_cons ev_c (ea_cons ev_c (ea_cons ev_c (ea_cons ev_c ea_nil))))))))))))) (by decide)) fun q H3 nq e3 h3 => ?_
    have st3 := st2.ex e3
    have h23 := e3 _ _ h2
    refine asg_in (op_in ⟨.ref q, rfl, ?_⟩)
    refine go_next (n := 13) rfl ?_ st3 (by omega) (by decide) fun H4 j kp4 st4 j0 j1 => ?_
    · exact ev_lenL (K := K) (xs := wOther.map V.str) (ea_cons (ev_var (σ := [some (.ref S), some (.str x), some (.ref p), some (.int n), some (.ref q), none, none]) (i := 4) rfl) ea_nil) (sq_of h3)
    have h34 := kp4 _ _ (st3.ne h3) h3
    have h24 := kp4 _ _ (st3.ne h23) h23
    obtain ⟨v, hv, mv⟩ := at_pick (l := wOther.map V.str) j0 (by show j < 13; exact j1)
    obtain ⟨o, ho, rfl⟩ := List.mem_map.mp mv
    have lo := other_ok o ho
    refine ⟨q, _, j, .str o, rfl, rfl, sq_of h34, hv, ?_⟩
    refine asg_in (go_next rfl ev_c st4 (by omega) (by decide) fun H5 way kp5 st5 w0 w5 => ?_)
    have h25 := kp5 _ _ (st4.ne h24) h24
    have kp := (((Kp.of e1).trans kp2).trans (Kp.of e3)).trans (kp4.trans kp5)
    have h5 : SqL K H5 p (ws.map V.str) := sq_of h25
    -- slices
    have cutT : ∀ {H6 : Hp}, Evl.Ex H5 H6 → EvL (tSl (rSlL K) (tVar 2) tNoPart (tPart (tVar 3))) [some (.ref S), some (.str x), some (.ref p), some (.int n), some (.ref q), some (.str o), some (.int way)] H6 ((ws.take n).map V.str) := fun {H6} e => by
      have := el_cut (H := H6) (σ := [some (.ref S), some (.str x), some (.ref p), some (.int n), some (.ref q), some (.str o), some (.int way)]) (te := tVar 2) (ev_var rfl) eo_none (eo_some (te := tVar 3) (ev_var rfl)) (ex_l e h5)
      rw [cutW_take] at this
      exact this
    have cutD : ∀ {H6 : Hp} {t : TE} {d : Nat}, Evl.Ex H5 H6 → Ev t [some (.ref S), some (.str x), some (.ref p), some (.int n), some (.ref q), some (.str o), some (.int way)] H6 (.int ((d : Nat) : Int)) → EvL (tSl (rSlL K) (tVar 2) (tPart t) tNoPart) [some (.ref S), some (.str x), some (.ref p), some (.int n), some (.ref q), some (.str o), some (.int way)] H6 ((ws.drop d).map V.str) := fun {H6 t d} e ht => by
      have := el_cut (H := H6) (σ := [some (.ref S), some (.str x), some (.ref p), some (.int n), some (.ref q), some (.str o), some (.int way)]) (te := tVar 2) (ev_var rfl) (eo_some ht) eo_none (ex_l e h5)
      rw [cutW_drop] at this
      exact this
    have cut1 : ∀ {H6 : Hp} {t u : TE} {d : Nat}, Evl.Ex H5 H6 → Ev t [some (.ref S), some (.str x), some (.ref p), some (.int n), some (.ref q), some (.str o), some (.int way)] H6 (.int ((d : Nat) : Int)) → Ev u [some (.ref S), some (.str x), some (.ref p), some (.int n), some (.ref q), some (.str o), some (.int way)] H6 (.int ((d + 1 : Nat) : Int)) → EvL (tSl (rSlL K) (tVar 2) (tPart t) (tPart u)) [some (.ref S), some (.str x), some (.ref p), some (.int n), some (.ref q), some (.str o), some (.int way)] H6 (((ws.drop d).take 1).map V.str) := fun {H6 t u d} e ht hu => by
      have := el_cut (H := H6) (σ := [some (.ref S), some (.str x), some (.ref p), some (.int n), some (.ref q), some (.str o), some (.int way)]) (te := tVar 2) (ev_var rfl) (eo_some ht) (eo_some hu) (ex_l e h5)
      rw [cutW_one] at this
      exact this
    have plus : ∀ {H6 : Hp} {c : Nat}, Ev (tOp (rI0 fun i j => V.int (i + j)) (tVar 3) (tC (.int (c : Int)))) [some (.ref S), some (.str x), some (.ref p), some (.int n), some (.ref q), some (.str o), some (.int way)] H6 (.int ((n + c : Nat) : Int)) := fun {H6 c} => by
      have := ev_op (H := H6) (ev_var (σ := [some (.ref S), some (.str x), some (.ref p), some (.int n), some (.ref q), some (.str o), some (.int way)]) (i := 3) rfl) (ev_c (v := .int (c : Int))) (rv_I0 (g := fun i j => V.int (i + j)) (i := (n : Int)) (j := (c : Int)))
      rw [← Int.natCast_add] at this
      exact this
    have other : ∀ {H6 : Hp}, EvL (tLst (tCons (tVar 5) tNil)) [some (.ref S), some (.str x), some (.ref p), some (.int n), some (.ref q), some (.str o), some (.int way)] H6 (([o] : List Str).map V.str) := fun {H6} => el_lst (ea_cons (ev_var rfl) ea_nil) (by show 1 ≤ 100000; decide)
    have split1 : wide (ws.take n) + wide (ws.drop n) = wide ws := by rw [← wide_append, List.take_append_drop]
    have split2 : wide ((ws.drop n).take 1) + wide (ws.drop (n + 1)) = wide (ws.drop n) := by rw [← List.drop_drop, ← wide_append, List.take_append_drop]
    have split3 : wide ((ws.drop (n + 1)).take 1) + wide (ws.drop (n + 2)) = wide (ws.drop (n + 1)) := by
      rw [show n + 2 = (n + 1) + 1 from rfl, ← List.drop_drop (i := 1) (j := n + 1), ← wide_append, List.take_append_drop]
    have done : ∀ {H6 : Hp} (ys : List Str), Evl.Ex H5 H6 → (∀ y ∈ ys, Low y) → wide ys ≤ 300 → Q (.str (Txt.join SP ys)) H6 := fun ys e ly wy => k _ _ (kp.trans (Kp.of e)) ((st5.ex e).le (by omega)) (join_line ly (by omega))
    have lowT : ∀ {d : Nat} y, y ∈ ws.take d → Low y := fun y hy => lows y (List.mem_of_mem_take hy)
    have lowD : ∀ {d : Nat} y, y ∈ ws.drop d → Low y := fun y hy => lows y (List.mem_of_mem_drop hy)
    have ls : ∀ l : List Str, wide l ≤ 300 → l.length ≤ 300 := fun l h => Nat.le_trans wide_le h
    have ow : wide [o] ≤ 9 := by rw [wide_cons, wide_nil]; omega
    -- way == 0
    refine q_when (et_is (et_test (ev_op (ev_var rfl) ev_c (rv_eq rfl))) (dec_int _ _)) (fun b H6 e6 => ?_) (fun b0 H6 e6 => ?_)
    · refine s_ret (ev_joinL ev_c (el_cat (cutT e6) (cutD (d := n + 1) e6 plus) ?_) ?_) fun H7 e7 => done _ (e6.trans e7) (fun y hy => ?_) ?_
      · have a := ls (ws.take n) (by omega)
        have b := ls (ws.drop (n + 1)) (by omega)
        omega
      · rw [wide_append]; omega
      · exact (List.mem_append.mp hy).elim (lowT y) (lowD y)
      · rw [wide_append]; omega
    have f6 := e6
    refine q_when (et_is (et_test (ev_op (ev_var rfl) ev_c (rv_eq rfl))) (dec_int _ _)) (fun b H7 e7 => ?_) (fun b1 H7 e7 => ?_)
    · refine s_ret (ev_joinL ev_c (el_cat (el_cat (cutT (f6.trans e7)) other ?_) (cutD (d := n) (f6.trans e7) (ev_var rfl)) ?_) ?_) fun H8 e8 => done _ ((f6.trans e7).trans e8) (fun y hy => ?_) ?_
      · have a := ls (ws.take n) (by omega)
        show _ + 1 ≤ _
        omega
      · have a := ls (ws.take n) (by omega)
        have b := ls (ws.drop n) (by omega)
        rw [List.length_append, List.length_singleton]
        omega
      · rw [wide_append, wide_append]; omega
      · rcases List.mem_append.mp hy with hy | hy
        · rcases List.mem_append.mp hy with hy | hy
          · exact lowT y hy
          · rw [List.mem_singleton.mp hy]; exact lo.1
        · exact lowD y hy
      · rw [wide_append, wide_append]; omega
    have f7 := f6.trans e7
    refine q_when (et_is (et_test (ev_op (ev_var rfl) ev_c (rv_eq rfl))) (dec_int _ _)) (fun b H8 e8 => ?_) (fun b2 H8 e8 => ?_)
    · refine s_ret (ev_joinL ev_c (el_cat (el_cat (cutT (f7.trans e8)) other ?_) (cutD (d := n + 1) (f7.trans e8) plus) ?_) ?_) fun H9 e9 => done _ ((f7.trans e8).trans e9) (fun y hy => ?_) ?_
      · have a := ls (ws.take n) (by omega)
        show _ + 1 ≤ _
        omega
      · have a := ls (ws.take n) (by omega)
        have b := ls (ws.drop (n + 1)) (by omega)
        rw [List.length_append, List.length_singleton]
        omega
      · rw [wide_append, wide_append]; omega
      · rcases List.mem_append.mp hy with hy | hy
        · rcases List.mem_append.mp hy with hy | hy
          · exact lowT y hy
          · rw [List.mem_singleton.mp hy]; exact lo.1
        · exact lowD y hy
      · rw [wide_append, wide_append]; omega
    have f8 := f7.trans e8
    refine q_when (et_is (et_test (ev_op (ev_var rfl) ev_c (rv_eq rfl))) (dec_int _ _)) (fun b H9 e9 => ?_) (fun b3 H9 e9 => ?_)
    · have a := ls (ws.take n) (by omega)
      have b := ls (ws.drop (n + 2)) (by omega)
      have c := ls ((ws.drop (n + 1)).take 1) (by omega)
      have d := ls ((ws.drop n).take 1) (by omega)
      refine s_ret (ev_joinL ev_c (el_cat (el_cat (el_cat (cutT (f8.trans e9)) (cut1 (d := n + 1) (f8.trans e9) plus plus) ?_) (cut1 (d := n) (f8.trans e9) (ev_var rfl) plus) ?_) (cutD (d := n + 2) (f8.trans e9) plus) ?_) ?_) fun H10 e10 => done _ ((f8.trans e9).trans e10) (fun y hy => ?_) ?_
      · omega
      · rw [List.length_append]; omega
      · rw [List.length_append, List.length_append]; omega
      · rw [wide_append, wide_append, wide_append]; omega
      · rcases List.mem_append.mp hy with hy | hy
        · rcases List.mem_append.mp hy with hy | hy
          · rcases List.mem_append.mp hy with hy | hy
            · exact lowT y hy
            · exact lowD y (List.mem_of_mem_take hy)
          · exact lowD y (List.mem_of_mem_take hy)
        · exact lowD y hy
      · rw [wide_append, wide_append, wide_append]; omega
    have f9 := f8.trans e9
    have st9 := st5.ex f9
    have kp := kp.trans (Kp.of f9)
    have l1 : (Str.ofString " ").length = 1 ∧ (Str.ofString " 0").length = 2 ∧ (Str.ofString "  ").length = 2 := by decide +kernel
    have lw : Low (Str.ofString " ") ∧ Low (Str.ofString " 0") := ⟨low_dec (by decide +kernel), low_dec (by decide +kernel)⟩
    refine ret_in (op_in ⟨.str x, rfl, x, _, rfl, rfl, sz_of (by omega), .str x, rfl, _, x, rfl, rfl, sz_of (by omega), .str x, rfl, x, _, rfl, rfl, sz_of (by omega), .str x, rfl, x, rfl, (by rw [l1.2.2]; omega), (by show 4 ≤ sizeLine; decide), fun u hu => ?_⟩)
    refine go_next rfl ev_c (st9.laid hu) (by omega) (by decide) fun H10 i kp10 st10 i0 i4 => ?_
    obtain ⟨v, hv, mv⟩ := at_pick (l := [V.str (x ++ Str.ofString " "), V.str (Str.ofString " " ++ x), V.str (x ++ Str.ofString " 0"), V.str (Txt.replace x (Str.ofString " ") (Str.ofString "  "))]) i0 (by show i < 4; exact i4)
    obtain ⟨y, rfl, ly⟩ : ∃ y, v = .str y ∧ Line 400 y := by
      simp only [List.mem_cons, List.not_mem_nil, or_false] at mv
      rcases mv with rfl | rfl | rfl | rfl
      · exact ⟨_, rfl, by rw [len_append]; omega, line.2.append lw.1⟩
      · exact ⟨_, rfl, by rw [len_append]; omega, lw.1.append line.2⟩
      · exact ⟨_, rfl, by rw [len_append]; omega, line.2.append lw.2⟩
      · exact ⟨_, rfl, repl_line line⟩
    exact ⟨u, _, i, .str y, rfl, rfl, sq_of (kp10 _ _ (st9.new hu) upd_same), hv, k _ y (kp.trans ((Kp.of (Evl.Ex.new hu)).trans kp10)) (st10.le (by omega)) ly⟩
end
end K80

set_option maxRecDepth 100000
set_option maxHeartbeats 8000000
namespace K80
open PySem PySem.Spec PyProof.Rows L2 Evl Pg
/-! ### the law -/
def spLaw (K : PySem.W.Frag) : Sp := fun vs H Q _ => ∃ (a : Addr) (ns : List Int), vs = [.ref a] ∧ SqL K H a (ns.map V.int) ∧ ns.length ≤ 63 ∧ ∀ H', Q (.bl true) H'
theorem dp_some {K : PySem.W.Frag} {H : Hp} {v : V} {d : PyData} (h : Dp K H v d) (n : d ≠ .none) : decide (v = V.non) = false := by
  refine decide_eq_false fun e => ?_
  subst e
  cases h
  exact n rfl
theorem ev_same {K : PySem.W.Frag} {σ : L2.St} {H : Hp} {ta tb : TE} {d : PyData} (h1 : EvD K ta σ H d) (h2 : EvD K tb σ H d) (s : Shows 3 TOP d) : Ev (tCall (spSame K) [] E0 (tCons ta (tCons tb tNil))) σ H (.bl true) := fun H1 e Q q =>
  h1 H1 e _ fun v H2 e2 hv => h2 H2 (e.trans e2) _ fun u H3 e3 hu => ⟨v, u, d, rfl, dp_mono e3 _ _ hv, hu, s, fun H4 e4 => q H4 (e2.trans (e3.trans e4))⟩
theorem ed_line {K : PySem.W.Frag} {σ : L2.St} {H : Hp} {te : TE} {x : Str} (h : Ev te σ H (.str x)) (l : Line 400 x) : EvD K (tCall (spLine K cmdP) [] E0 (tCons te tNil)) σ H (cmdP x) :=
  .call (ea_cons h ea_nil) fun H1 e Q k E => ⟨x, rfl, l, k⟩
theorem line_nil : Line 400 (Str.ofString "") := ⟨by decide +kernel, low_dec (by decide +kernel)⟩
theorem cmd_nil : cmdP (Str.ofString "") = .tuple [] := if_pos (by decide +kernel)
section
variable {P : Program} {w : World} {K : PySem.W.Frag} {mg : Str → Option Value} {base : Heap} {f : Addr} {fd : FuncData}
theorem ok_law (T : Tx K mg) (C__law_stream : CallOk P w K mg base CX0 1 "_law_stream" ["script"] (spStream K)) (C__law_same : CallG P w K mg base CX0 1 "_law_same" ["told", "due"] (spSame K))
    (C_read_command : CallOk P w K mg base CX0 4 "read_command" ["line"] (spLine K cmdP)) (C__law_good : CallOk P w K mg base CX0 3 "_law_good" ["state"] (spGood K))
    (C__law_due : CallOk P w K mg base CX0 3 "_law_due" ["line"] (spLine K cmdP)) (C__law_spoilt : CallOk P w K mg base CX0 2 "_law_spoilt" ["state", "line"] (spSpoilt K))
    (F : Fun K "law" "law" s_law f fd) : FnG P w K mg base CX0 5 f fd ["script"] (spLaw K) := by
  refine F.okG sc_law (fun vs H Q E h => ?_) (fun cdv A outer s H vs Q E hgd hr h => ?_)
  · obtain ⟨a, ns, rfl, _⟩ := h
    rfl
  · obtain ⟨a, ns, rfl, hS, hl, q⟩ := h
    refine ⟨_, (pss_cons (ps_set (i := 1) sc_law.nd rfl (Or.inl rfl) (pe_lst (pa_cons (pe_c C__law_stream (hr.mono (by decide)) (by rfl) (pa_cons (pv 0) pa_nil)) (pa_cons pe_int pa_nil))))
      (pss_cons (ps_if (pt_not (pt_val (pe_cg C__law_same hgd (hr.mono (by decide)) (by rfl) (pa_cons (pe_c C_read_command (hr.mono (by decide)) (by rfl) (pa_cons pe_str pa_nil)) (pa_cons (pe_tup pa_nil) pa_nil))))) (pss_one (ps_ret pe_bl)) pss_nil)
      (pss_cons (ps_for (passes_of rfl) rfl (pi_range1 (by rfl) T.b_range (pa_cons pe_int pa_nil)) (pg_name (i := 2) sc_law.nd rfl (Or.inl rfl)) (pss_cons (ps_set (i := 3) sc_law.nd rfl (Or.inl rfl) (pe_c C__law_good (hr.mono (by decide)) (by rfl) (pa_cons (pv 1) pa_nil)))
      (pss_cons (ps_set (i := 4) sc_law.nd rfl (Or.inl rfl) (pe_c C__law_due (hr.mono (by decide)) (by rfl) (pa_cons (pv 3) pa_nil)))
      (pss_cons (ps_if (PW.pt (pw_or (pt_cmpR op_isN (pv 4) pe_non (nomark _)) (pw_or1 (pt_not (pt_val (pe_cg C__law_same hgd (hr.mono (by decide)) (by rfl) (pa_cons (pe_c C_read_command (hr.mono (by decide)) (by rfl) (pa_cons (pv 3) pa_nil)) (pa_cons (pv 4) pa_nil)))))))) (pss_one (ps_ret pe_bl)) pss_nil)
      (pss_cons (ps_set (i := 5) sc_law.nd rfl (Or.inl rfl) (pe_c C__law_spoilt (hr.mono (by decide)) (by rfl) (pa_cons (pv 1) (pa_cons (pv 3) pa_nil))))
      (pss_cons (ps_set (i := 4) sc_law.nd rfl (Or.inl rfl) (pe_c C__law_due (hr.mono (by decide)) (by rfl) (pa_cons (pv 5) pa_nil)))
      (pss_cons (ps_set (i := 6) sc_law.nd rfl (Or.inl rfl) (pe_c C_read_command (hr.mono (by decide)) (by rfl) (pa_cons (pv 5) pa_nil)))
      (pss_one (ps_if (pt_not (pt_val (pe_cg C__law_same hgd (hr.mono (by decide)) (by rfl) (pa_cons (pv 6) (pa_cons (pv 4) pa_nil))))) (pss_one (ps_ret pe_bl)) pss_nil)))))))))
      (pss_one (ps_ret pe_bl))))), ?_⟩
    refine asg_in ⟨.ref a, rfl, a, ns, rfl, hS, hl, fun p H1 ms np e1 hp sm => ?_⟩
    refine ⟨(by show 2 ≤ sizeLine; decide), fun S nS => ?_⟩
    have st0 : StAt K (upd H1 S (.lst [.ref p, .int 0])) S 0 := ⟨p, 0, ms, upd_same, by omega, by omega, ex_l (Evl.Ex.new nS) (sq_of hp), sm⟩
    generalize upd H1 S (.lst [.ref p, .int 0]) = H2 at st0 ⊢
    refine q_when (et_not (et_test (ev_same (ed_line ev_c line_nil) (by rw [cmd_nil]; exact EvD.tup EvDs.nil (by decide)) (shows_cmd line_nil)))) (fun b => by cases b) (fun _ H3 e3 => ?_)
    refine q_forR1 (ea_cons ev_c ea_nil) (by decide) (fun i σ' H' => ∃ c2 c3 c4 c5 c6 : Option V, σ' = [some (.ref a), some (.ref S), c2, c3, c4, c5, c6] ∧ StAt K H' S (210 * (i : Int)))
      (fun H4 e4 => ⟨none, none, none, none, none, rfl, (st0.ex (e3.trans e4)).le (by omega)⟩) (fun i σ' H' hi inv => ?_) (fun σ' H' inv => s_ret ev_c fun H5 _ => q H5)
    obtain ⟨c2, c3, c4, c5, c6, rfl, st⟩ := inv
    refine asg_in ⟨.ref S, rfl, S, _, rfl, st, by omega, fun H4 x kp4 st4 good => ?_⟩
    obtain ⟨line, some_⟩ := good
    have line4 : Line 400 x := ⟨Nat.le_trans line.1 (by decide), line.2⟩
    refine q_asgD (ed_line (ev_var rfl) line4) fun v H5 e5 hv => ?_
    refine q_when (et_or (et_test (ev_is (ev_isN rfl) (congrArg V.bl (dp_some hv some_)))) fun _ => et_not (et_test (ev_same (ed_line (ev_var rfl) line4) (EvD.var rfl hv) (shows_cmd line4)))) (fun b => by cases b) (fun _ H6 e6 => ?_)
    refine asg_in ⟨.ref S, rfl, .str x, rfl, S, x, _, rfl, st4.ex (e5.trans e6), by omega, line, fun H7 y kp7 st7 ly => ?_⟩
    refine q_asgD (ed_line (ev_var rfl) ly) fun v8 H8 e8 hv8 => ?_
    refine q_asgD (ed_line (ev_var rfl) ly) fun v9 H9 e9 hv9 => ?_
    refine s_when (et_not (et_test (ev_same (EvD.var rfl hv9) (EvD.var rfl (dp_mono e9 _ _ hv8)) (shows_cmd ly)))) (fun b => by cases b) (fun _ H10 e10 => ?_)
    exact ⟨_, _, _, _, _, rfl, ((st7.ex (e8.trans (e9.trans e10))).le (by omega))⟩
end
end K80

set_option maxRecDepth 100000
set_option maxHeartbeats 16000000
namespace K80
open PySem PySem.Spec PyProof.Rows L2 Evl Pg
/-! ### what the top has written; the law's own head -/
/-- a def of the module, where it stands -/
structure FunAt (K : PySem.W.Frag) (x : Str) (st : Stmt) : Prop where
  ex : ∃ (f : Addr) (fd : FuncData), PySem.W.nsIn K mainGlobals x = some (some (.ref f)) ∧ Fun K x x st f fd ∧ ∃ (kV doc pm cd ct : Value) (an : Option Addr), fd = PySem.W.fnOf x x (defArgs st) (defBody st) (defScope st) .none kV doc pm an cd ct
theorem funAt {K : PySem.W.Frag} {x : Str} {st : Stmt} {f : Addr} {oc : Value} {od an : Option Addr} {osl : Array (Option Value)} {kV doc pm cdv ct : Value}
    (a : PySem.W.nsIn K mainGlobals x = some (some (.ref f))) (l : K.lookup f = some ⟨oc, od, .func (PySem.W.fnOf x x (defArgs st) (defBody st) (defScope st) .none kV doc pm an cdv ct), osl⟩)
    (c : PySem.W.codeIn K cdv x = true) (k : PySem.W.keepIn K (.ref f) = true) : FunAt K x st := ⟨⟨f, _, a, fun_mk l c k, kV, doc, pm, cdv, ct, an, rfl⟩⟩

theorem tup_TEXTS {K : PySem.W.Frag} {a : Addr} {od : Option Addr} {n : Nat} {sl : Array (Option Value)} {t0 t1 t2 t3 t4 t5 : Tok} (h : K.lookup a = some ⟨.type "tuple", od, .seq #[.str (Str.ofString "rule") t0, .str (Str.ofString "keep") t1, .str (Str.ofString "ask") t2, .str (Str.ofString "find") t3, .str (Str.ofString "marks") t4, .str (Str.ofString "game") t5] n, sl⟩) (H : Hp) : SqT K H a (wTexts.map V.str) :=
  .inr ⟨_, _, _, h, rfl, rfl, (by show 6 ≤ sizeLine; decide), .cons ⟨_, rfl⟩ (.cons ⟨_, rfl⟩ (.cons ⟨_, rfl⟩ (.cons ⟨_, rfl⟩ (.cons ⟨_, rfl⟩ (.cons ⟨_, rfl⟩ .nil)))))⟩
theorem tup_BARE {K : PySem.W.Frag} {a : Addr} {od : Option Addr} {n : Nat} {sl : Array (Option Value)} {t0 t1 : Tok} (h : K.lookup a = some ⟨.type "tuple", od, .seq #[.str (Str.ofString "undo") t0, .str (Str.ofString "rows") t1] n, sl⟩) (H : Hp) : SqT K H a (wBare.map V.str) :=
  .inr ⟨_, _, _, h, rfl, rfl, (by show 2 ≤ sizeLine; decide), .cons ⟨_, rfl⟩ (.cons ⟨_, rfl⟩ .nil)⟩
theorem tup_NUMBERED {K : PySem.W.Frag} {a : Addr} {od : Option Addr} {n : Nat} {sl : Array (Option Value)} {t0 t1 t2 t3 : Tok} (h : K.lookup a = some ⟨.type "tuple", od, .seq #[.str (Str.ofString "drop") t0, .str (Str.ofString "let") t1, .str (Str.ofString "since") t2, .str (Str.ofString "row") t3] n, sl⟩) (H : Hp) : SqT K H a (wNumbered.map V.str) :=
  .inr ⟨_, _, _, h, rfl, rfl, (by show 4 ≤ sizeLine; decide), .cons ⟨_, rfl⟩ (.cons ⟨_, rfl⟩ (.cons ⟨_, rfl⟩ (.cons ⟨_, rfl⟩ .nil)))⟩
theorem tup_ROWED {K : PySem.W.Frag} {a : Addr} {od : Option Addr} {n : Nat} {sl : Array (Option Value)} {t0 t1 : Tok} (h : K.lookup a = some ⟨.type "tuple", od, .seq #[.str (Str.ofString "reader") t0, .str (Str.ofString "win") t1] n, sl⟩) (H : Hp) : SqT K H a (wRowed.map V.str) :=
  .inr ⟨_, _, _, h, rfl, rfl, (by show 2 ≤ sizeLine; decide), .cons ⟨_, rfl⟩ (.cons ⟨_, rfl⟩ .nil)⟩
theorem all_mk {l : PySem.W.OpenLaw} {w : World} {K : PySem.W.Frag} {h : Heap} {mg : Str → Option Value} {fa : Addr} {t1 t2 t3 : Tok} {a_TEXTS a_BARE a_NUMBERED a_ROWED : Addr} (X : K.In h) (G : h.Ns mainGlobals mg) (hfa : mg "law" = some (.ref fa))
    (A_is_letters : FunAt K "is_letters" s_is_letters)
    (A_is_number : FunAt K "is_number" s_is_number)
    (A_pairs_of : FunAt K "pairs_of" s_pairs_of)
    (A_begin_command : FunAt K "begin_command" s_begin_command)
    (A_counted_command : FunAt K "counted_command" s_counted_command)
    (A_place_command : FunAt K "place_command" s_place_command)
    (A_read_command : FunAt K "read_command" s_read_command)
    (A__law_same : FunAt K "_law_same" s__law_same)
    (A__law_stream : FunAt K "_law_stream" s__law_stream)
    (A__law_next : FunAt K "_law_next" s__law_next)
    (A__law_word : FunAt K "_law_word" s__law_word)
    (A__law_number : FunAt K "_law_number" s__law_number)
    (A__law_text : FunAt K "_law_text" s__law_text)
    (A__law_good : FunAt K "_law_good" s__law_good)
    (A__law_spoilt : FunAt K "_law_spoilt" s__law_spoilt)
    (A__law_is_letters : FunAt K "_law_is_letters" s__law_is_letters)
    (A__law_is_number : FunAt K "_law_is_number" s__law_is_number)
    (A__law_pairs : FunAt K "_law_pairs" s__law_pairs)
    (A__law_due : FunAt K "_law_due" s__law_due)
    (A_law : FunAt K "law" s_law)
    (z_len : PySem.W.nsIn K mainGlobals "len" = some none)
    (z_all : PySem.W.nsIn K mainGlobals "all" = some none)
    (z_int : PySem.W.nsIn K mainGlobals "int" = some none)
    (z_str : PySem.W.nsIn K mainGlobals "str" = some none)
    (z_abs : PySem.W.nsIn K mainGlobals "abs" = some none)
    (z_repr : PySem.W.nsIn K mainGlobals "repr" = some none)
    (z_range : PySem.W.nsIn K mainGlobals "range" = some none)
    (z_tuple : PySem.W.nsIn K mainGlobals "tuple" = some none)
    (c_LETTERS : PySem.W.nsIn K mainGlobals "LETTERS" = some (some (.str alphabet t1)))
    (c_DIGITS : PySem.W.nsIn K mainGlobals "DIGITS" = some (some (.str figures t2)))
    (c_MAX : PySem.W.nsIn K mainGlobals "MAX_DIGITS" = some (some (.int 7 t3)))
    (c_TEXTS : PySem.W.nsIn K mainGlobals "TEXTS" = some (some (.ref a_TEXTS))) (q_TEXTS : ∀ H, SqT K H a_TEXTS (wTexts.map V.str))
    (c_BARE : PySem.W.nsIn K mainGlobals "BARE" = some (some (.ref a_BARE))) (q_BARE : ∀ H, SqT K H a_BARE (wBare.map V.str))
    (c_NUMBERED : PySem.W.nsIn K mainGlobals "NUMBERED" = some (some (.ref a_NUMBERED))) (q_NUMBERED : ∀ H, SqT K H a_NUMBERED (wNumbered.map V.str))
    (c_ROWED : PySem.W.nsIn K mainGlobals "ROWED" = some (some (.ref a_ROWED))) (q_ROWED : ∀ H, SqT K H a_ROWED (wRowed.map V.str)) :
    ∃ fd : FuncData, (∀ (s : Shared) (v : Value), BindsTo s fd ⟨[v], []⟩ [("script", v)]) ∧ ∀ base : Heap, K.In base → base.Ns mainGlobals mg → FnG l.prog w K mg base CX0 5 fa fd ["script"] (spLaw K) := by
  have T : Tx K mg := ⟨PySem.W.mg_none_of X G z_len, PySem.W.mg_none_of X G z_all, PySem.W.mg_none_of X G z_int, PySem.W.mg_none_of X G z_str, PySem.W.mg_none_of X G z_abs, PySem.W.mg_none_of X G z_repr, PySem.W.mg_none_of X G z_range, PySem.W.mg_none_of X G z_tuple,
    ⟨_, PySem.W.mg_of X G c_LETTERS⟩, ⟨_, PySem.W.mg_of X G c_DIGITS⟩, ⟨_, PySem.W.mg_of X G c_MAX⟩, ⟨_, PySem.W.mg_of X G c_TEXTS, q_TEXTS⟩, ⟨_, PySem.W.mg_of X G c_BARE, q_BARE⟩, ⟨_, PySem.W.mg_of X G c_NUMBERED, q_NUMBERED⟩, ⟨_, PySem.W.mg_of X G c_ROWED, q_ROWED⟩⟩
  obtain ⟨f_is_letters, fd_is_letters, m_is_letters, F_is_letters, kV_is_letters, dc_is_letters, pm_is_letters, cd_is_letters, ct_is_letters, an_is_letters, e_is_letters⟩ := A_is_letters.ex
  obtain ⟨f_is_number, fd_is_number, m_is_number, F_is_number, kV_is_number, dc_is_number, pm_is_number, cd_is_number, ct_is_number, an_is_number, e_is_number⟩ := A_is_number.ex
  obtain ⟨f_pairs_of, fd_pairs_of, m_pairs_of, F_pairs_of, kV_pairs_of, dc_pairs_of, pm_pairs_of, cd_pairs_of, ct_pairs_of, an_pairs_of, e_pairs_of⟩ := A_pairs_of.ex
  obtain ⟨f_begin_command, fd_begin_command, m_begin_command, F_begin_command, kV_begin_command, dc_begin_command, pm_begin_command, cd_begin_command, ct_begin_command, an_begin_command, e_begin_command⟩ := A_begin_command.ex
  obtain ⟨f_counted_command, fd_counted_command, m_counted_command, F_counted_command, kV_counted_command, dc_counted_command, pm_counted_command, cd_counted_command, ct_counted_command, an_counted_command, e_counted_command⟩ := A_counted_command.ex
  obtain ⟨f_place_command, fd_place_command, m_place_command, F_place_command, kV_place_command, dc_place_command, pm_place_command, cd_place_command, ct_place_command, an_place_command, e_place_command⟩ := A_place_command.ex
  obtain ⟨f_read_command, fd_read_command, m_read_command, F_read_command, kV_read_command, dc_read_command, pm_read_command, cd_read_command, ct_read_command, an_read_command, e_read_command⟩ := A_read_command.ex
  obtain ⟨f__law_same, fd__law_same, m__law_same, F__law_same, kV__law_same, dc__law_same, pm__law_same, cd__law_same, ct__law_same, an__law_same, e__law_same⟩ := A__law_same.ex
  obtain ⟨f__law_stream, fd__law_stream, m__law_stream, F__law_stream, kV__law_stream, dc__law_stream, pm__law_stream, cd__law_stream, ct__law_stream, an__law_stream, e__law_stream⟩ := A__law_stream.ex
  obtain ⟨f__law_next, fd__law_next, m__law_next, F__law_next, kV__law_next, dc__law_next, pm__law_next, cd__law_next, ct__law_next, an__law_next, e__law_next⟩ := A__law_next.ex
  obtain ⟨f__law_word, fd__law_word, m__law_word, F__law_word, kV__law_word, dc__law_word, pm__law_word, cd__law_word, ct__law_word, an__law_word, e__law_word⟩ := A__law_word.ex
  obtain ⟨f__law_number, fd__law_number, m__law_number, F__law_number, kV__law_number, dc__law_number, pm__law_number, cd__law_number, ct__law_number, an__law_number, e__law_number⟩ := A__law_number.ex
  obtain ⟨f__law_text, fd__law_text, m__law_text, F__law_text, kV__law_text, dc__law_text, pm__law_text, cd__law_text, ct__law_text, an__law_text, e__law_text⟩ := A__law_text.ex
  obtain ⟨f__law_good, fd__law_good, m__law_good, F__law_good, kV__law_good, dc__law_good, pm__law_good, cd__law_good, ct__law_good, an__law_good, e__law_good⟩ := A__law_good.ex
  obtain ⟨f__law_spoilt, fd__law_spoilt, m__law_spoilt, F__law_spoilt, kV__law_spoilt, dc__law_spoilt, pm__law_spoilt, cd__law_spoilt, ct__law_spoilt, an__law_spoilt, e__law_spoilt⟩ := A__law_spoilt.ex
  obtain ⟨f__law_is_letters, fd__law_is_letters, m__law_is_letters, F__law_is_letters, kV__law_is_letters, dc__law_is_letters, pm__law_is_letters, cd__law_is_letters, ct__law_is_letters, an__law_is_letters, e__law_is_letters⟩ := A__law_is_letters.ex
  obtain ⟨f__law_is_number, fd__law_is_number, m__law_is_number, F__law_is_number, kV__law_is_number, dc__law_is_number, pm__law_is_number, cd__law_is_number, ct__law_is_number, an__law_is_number, e__law_is_number⟩ := A__law_is_number.ex
  obtain ⟨f__law_pairs, fd__law_pairs, m__law_pairs, F__law_pairs, kV__law_pairs, dc__law_pairs, pm__law_pairs, cd__law_pairs, ct__law_pairs, an__law_pairs, e__law_pairs⟩ := A__law_pairs.ex
  obtain ⟨f__law_due, fd__law_due, m__law_due, F__law_due, kV__law_due, dc__law_due, pm__law_due, cd__law_due, ct__law_due, an__law_due, e__law_due⟩ := A__law_due.ex
  obtain ⟨f_law, fd_law, m_law, F_law, kV_law, dc_law, pm_law, cd_law, ct_law, an_law, e_law⟩ := A_law.ex
  have e := hfa.symm.trans (PySem.W.mg_of X G m_law)
  cases e
  refine ⟨fd_law, ?_, fun base _ _ => ?_⟩
  · subst e_law
    exact fun s v => .of_eq rfl
  have C_is_letters : CallOk l.prog w K mg base CX0 _ "is_letters" ["text"] _ := ⟨f_is_letters, fd_is_letters, ok_is_letters T  F_is_letters, PySem.W.mg_of X G m_is_letters, F_is_letters.kp, F_is_letters.binds fun _ _ _ _ _ _ us hl => match us, hl with | [_], _ => rfl⟩
  have C_is_number : CallOk l.prog w K mg base CX0 _ "is_number" ["text"] _ := ⟨f_is_number, fd_is_number, ok_is_number T  F_is_number, PySem.W.mg_of X G m_is_number, F_is_number.kp, F_is_number.binds fun _ _ _ _ _ _ us hl => match us, hl with | [_], _ => rfl⟩
  have C__law_is_letters : CallOk l.prog w K mg base CX0 _ "_law_is_letters" ["text"] _ := ⟨f__law_is_letters, fd__law_is_letters, ok__law_is_letters T  F__law_is_letters, PySem.W.mg_of X G m__law_is_letters, F__law_is_letters.kp, F__law_is_letters.binds fun _ _ _ _ _ _ us hl => match us, hl with | [_], _ => rfl⟩
  have C__law_is_number : CallOk l.prog w K mg base CX0 _ "_law_is_number" ["text"] _ := ⟨f__law_is_number, fd__law_is_number, ok__law_is_number T  F__law_is_number, PySem.W.mg_of X G m__law_is_number, F__law_is_number.kp, F__law_is_number.binds fun _ _ _ _ _ _ us hl => match us, hl with | [_], _ => rfl⟩
  have C__law_same : CallG l.prog w K mg base CX0 _ "_law_same" ["told", "due"] _ := ⟨f__law_same, fd__law_same, ok__law_same T  F__law_same, PySem.W.mg_of X G m__law_same, F__law_same.kp, F__law_same.binds fun _ _ _ _ _ _ us hl => match us, hl with | [_, _], _ => rfl⟩
  have C__law_stream : CallOk l.prog w K mg base CX0 _ "_law_stream" ["script"] _ := ⟨f__law_stream, fd__law_stream, ok__law_stream T  F__law_stream, PySem.W.mg_of X G m__law_stream, F__law_stream.kp, F__law_stream.binds fun _ _ _ _ _ _ us hl => match us, hl with | [_], _ => rfl⟩
  have C__law_next : CallOk l.prog w K mg base CX0 _ "_law_next" ["state", "many"] _ := ⟨f__law_next, fd__law_next, ok__law_next T  F__law_next, PySem.W.mg_of X G m__law_next, F__law_next.kp, F__law_next.binds fun _ _ _ _ _ _ us hl => match us, hl with | [_, _], _ => rfl⟩
  have C_pairs_of : CallOk l.prog w K mg base CX0 _ "pairs_of" ["words"] _ := ⟨f_pairs_of, fd_pairs_of, ok_pairs_of T C_is_letters C_is_number F_pairs_of, PySem.W.mg_of X G m_pairs_of, F_pairs_of.kp, F_pairs_of.binds fun _ _ _ _ _ _ us hl => match us, hl with | [_], _ => rfl⟩
  have C__law_pairs : CallOk l.prog w K mg base CX0 _ "_law_pairs" ["words"] _ := ⟨f__law_pairs, fd__law_pairs, ok__law_pairs T C__law_is_letters C__law_is_number F__law_pairs, PySem.W.mg_of X G m__law_pairs, F__law_pairs.kp, F__law_pairs.binds fun _ _ _ _ _ _ us hl => match us, hl with | [_], _ => rfl⟩
  have C_place_command : CallOk l.prog w K mg base CX0 _ "place_command" ["rest"] _ := ⟨f_place_command, fd_place_command, ok_place_command T C_is_letters F_place_command, PySem.W.mg_of X G m_place_command, F_place_command.kp, F_place_command.binds fun _ _ _ _ _ _ us hl => match us, hl with | [_], _ => rfl⟩
  have C_begin_command : CallOk l.prog w K mg base CX0 _ "begin_command" ["words"] _ := ⟨f_begin_command, fd_begin_command, ok_begin_command T C_pairs_of F_begin_command, PySem.W.mg_of X G m_begin_command, F_begin_command.kp, F_begin_command.binds fun _ _ _ _ _ _ us hl => match us, hl with | [_], _ => rfl⟩
  have C_counted_command : CallOk l.prog w K mg base CX0 _ "counted_command" ["words"] _ := ⟨f_counted_command, fd_counted_command, ok_counted_command T C_is_letters C_is_number F_counted_command, PySem.W.mg_of X G m_counted_command, F_counted_command.kp, F_counted_command.binds fun _ _ _ _ _ _ us hl => match us, hl with | [_], _ => rfl⟩
  have C_read_command : CallOk l.prog w K mg base CX0 _ "read_command" ["line"] _ := ⟨f_read_command, fd_read_command, ok_read_command T C_is_letters C_is_number C_place_command C_begin_command C_counted_command F_read_command, PySem.W.mg_of X G m_read_command, F_read_command.kp, F_read_command.binds fun _ _ _ _ _ _ us hl => match us, hl with | [_], _ => rfl⟩
  have C__law_due : CallOk l.prog w K mg base CX0 _ "_law_due" ["line"] _ := ⟨f__law_due, fd__law_due, ok__law_due T C__law_is_letters C__law_is_number C__law_pairs F__law_due, PySem.W.mg_of X G m__law_due, F__law_due.kp, F__law_due.binds fun _ _ _ _ _ _ us hl => match us, hl with | [_], _ => rfl⟩
  have C__law_word : CallOk l.prog w K mg base CX0 _ "_law_word" ["state", "taken"] _ := ⟨f__law_word, fd__law_word, ok__law_word T C__law_next F__law_word, PySem.W.mg_of X G m__law_word, F__law_word.kp, F__law_word.binds fun _ _ _ _ _ _ us hl => match us, hl with | [_, _], _ => rfl⟩
  have C__law_number : CallOk l.prog w K mg base CX0 _ "_law_number" ["state"] _ := ⟨f__law_number, fd__law_number, ok__law_number T C__law_next F__law_number, PySem.W.mg_of X G m__law_number, F__law_number.kp, F__law_number.binds fun _ _ _ _ _ _ us hl => match us, hl with | [_], _ => rfl⟩
  have C__law_text : CallOk l.prog w K mg base CX0 _ "_law_text" ["state"] _ := ⟨f__law_text, fd__law_text, ok__law_text T C__law_next F__law_text, PySem.W.mg_of X G m__law_text, F__law_text.kp, F__law_text.binds fun _ _ _ _ _ _ us hl => match us, hl with | [_], _ => rfl⟩
  have C__law_good : CallOk l.prog w K mg base CX0 _ "_law_good" ["state"] _ := ⟨f__law_good, fd__law_good, ok__law_good T C__law_next C__law_word C__law_number C__law_text F__law_good, PySem.W.mg_of X G m__law_good, F__law_good.kp, F__law_good.binds fun _ _ _ _ _ _ us hl => match us, hl with | [_], _ => rfl⟩
  have C__law_spoilt : CallOk l.prog w K mg base CX0 _ "_law_spoilt" ["state", "line"] _ := ⟨f__law_spoilt, fd__law_spoilt, ok__law_spoilt T C__law_next F__law_spoilt, PySem.W.mg_of X G m__law_spoilt, F__law_spoilt.kp, F__law_spoilt.binds fun _ _ _ _ _ _ us hl => match us, hl with | [_, _], _ => rfl⟩
  exact ok_law T C__law_stream C__law_same C_read_command C__law_good C__law_due C__law_spoilt F_law
end K80
open PySem PySem.W PyProof.Rows
set_option maxHeartbeats 0 in
theorem PySem.Challenge.cw_pergola_k80_commands_read_holds : PySem.Challenge.rw_pergola_k80_commands_read.Holds := by
  w_on; o_law; k_head; (case hw => w_witness2)
  k_fill
  refine Pg.walk_ofG (l := PySem.Challenge.rw_pergola_k80_commands_read) (n := 63) (k := 5) (x := "script") (sp := fun w => K80.spLaw _) rfl (by decide) rfl ⟨rfl, by decide, by decide⟩ (fun w h Y => PySem.W.kIn_of Y) ?F (fun _ _ a ns hl _ _ hS => ⟨a, ns, rfl, hS, hl, fun _ => rfl⟩)
  case F =>
    intro w mg fa h KX G hmg
    refine' K80.all_mk KX G hmg ?A0 ?A1 ?A2 ?A3 ?A4 ?A5 ?A6 ?A7 ?A8 ?A9 ?A10 ?A11 ?A12 ?A13 ?A14 ?A15 ?A16 ?A17 ?A18 ?A19 ?z0 ?z1 ?z2 ?z3 ?z4 ?z5 ?z6 ?z7 ?c1 ?c2 ?c3 ?d0 ?q0 ?d1 ?q1 ?d2 ?q2 ?d3 ?q3
    (case A0 => refine' K80.funAt ?a ?l ?c ?k; (case a => k_is); (case l => k_is); (case c => k_is); (case k => k_is))
    (case A1 => refine' K80.funAt ?a ?l ?c ?k; (case a => k_is); (case l => k_is); (case c => k_is); (case k => k_is))
    (case A2 => refine' K80.funAt ?a ?l ?c ?k; (case a => k_is); (case l => k_is); (case c => k_is); (case k => k_is))
    (case A3 => refine' K80.funAt ?a ?l ?c ?k; (case a => k_is); (case l => k_is); (case c => k_is); (case k => k_is))
    (case A4 => refine' K80.funAt ?a ?l ?c ?k; (case a => k_is); (case l => k_is); (case c => k_is); (case k => k_is))
    (case A5 => refine' K80.funAt ?a ?l ?c ?k; (case a => k_is); (case l => k_is); (case c => k_is); (case k => k_is))
    (case A6 => refine' K80.funAt ?a ?l ?c ?k; (case a => k_is); (case l => k_is); (case c => k_is); (case k => k_is))
    (case A7 => refine' K80.funAt ?a ?l ?c ?k; (case a => k_is); (case l => k_is); (case c => k_is); (case k => k_is))
    (case A8 => refine' K80.funAt ?a ?l ?c ?k; (case a => k_is); (case l => k_is); (case c => k_is); (case k => k_is))
    (case A9 => refine' K80.funAt ?a ?l ?c ?k; (case a => k_is); (case l => k_is); (case c => k_is); (case k => k_is))
    (case A10 => refine' K80.funAt ?a ?l ?c ?k; (case a => k_is); (case l => k_is); (case c => k_is); (case k => k_is))
    (case A11 => refine' K80.funAt ?a ?l ?c ?k; (case a => k_is); (case l => k_is); (case c => k_is); (case k => k_is))
    (case A12 => refine' K80.funAt ?a ?l ?c ?k; (case a => k_is); (case l => k_is); (case c => k_is); (case k => k_is))
    (case A13 => refine' K80.funAt ?a ?l ?c ?k; (case a => k_is); (case l => k_is); (case c => k_is); (case k => k_is))
    (case A14 => refine' K80.funAt ?a ?l ?c ?k; (case a => k_is); (case l => k_is); (case c => k_is); (case k => k_is))
    (case A15 => refine' K80.funAt ?a ?l ?c ?k; (case a => k_is); (case l => k_is); (case c => k_is); (case k => k_is))
    (case A16 => refine' K80.funAt ?a ?l ?c ?k; (case a => k_is); (case l => k_is); (case c => k_is); (case k => k_is))
    (case A17 => refine' K80.funAt ?a ?l ?c ?k; (case a => k_is); (case l => k_is); (case c => k_is); (case k => k_is))
    (case A18 => refine' K80.funAt ?a ?l ?c ?k; (case a => k_is); (case l => k_is); (case c => k_is); (case k => k_is))
    (case A19 => refine' K80.funAt ?a ?l ?c ?k; (case a => k_is); (case l => k_is); (case c => k_is); (case k => k_is))
    (case z0 => k_is)
    (case z1 => k_is)
    (case z2 => k_is)
    (case z3 => k_is)
    (case z4 => k_is)
    (case z5 => k_is)
    (case z6 => k_is)
    (case z7 => k_is)
    (case c1 => k_is)
    (case c2 => k_is)
    (case c3 => k_is)
    (case d0 => k_is)
    (case q0 => refine' K80.tup_TEXTS ?l; (case l => k_is))
    (case d1 => k_is)
    (case q1 => refine' K80.tup_BARE ?l; (case l => k_is))
    (case d2 => k_is)
    (case q2 => refine' K80.tup_NUMBERED ?l; (case l => k_is))
    (case d3 => k_is)
    (case q3 => refine' K80.tup_ROWED ?l; (case l => k_is))
