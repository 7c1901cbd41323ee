import PyProof.Rows.All
import Wide.All
import OpenK.AllK
import Wide.FinOn
import HandS.ForMost
import HandS.ForExc
import HandS.IsInst
import HandS.WideBits
import HandS.Star
import HandS.Property
import HandS.ExcSuper
import HandS.ExcField
import HandS.Conv
import HandS.TupAny
import HandS.Deep
import KE.KExcSuper
import PyProof.ReprRoads
import HandS.RaiseMore
import HandS.Walk
import PyProof.ReprLen
import PyProof.StrLawsRepr
import PyProof.Rows.RegStrFacts
import HandS.Style
import KE.KRevSl
import KE.GoesMore
import KE.GoesEnum
import KE.KExcIs
import HandS.ExcIs
import HandS.More
import PyProof.NeData
import PySem.Challenge.RW_hookvows_k30_what_is_an_act
set_option Elab.async false
set_option linter.all false
set_option maxRecDepth 100000
set_option maxHeartbeats 4000000
namespace Hv
open PySem PySem.Spec PyProof.Rows L2
/-! ### a def of the module, callable by its name -/
/-- the def x stands in the written part, under its name -/
def DefAt (K : PySem.W.Frag) (mg : Str → Option Value) (x : Str) (st : Stmt) : Prop := ∃ (f : Addr) (fd : FuncData), Fun K x x st f fd ∧ mg x = some (.ref f)
/-- it keeps its promise -/
structure Dn (P : Program) (w : World) (K : PySem.W.Frag) (mg : Str → Option Value) (base : Heap) (k : Nat) (x : Str) (ps : List Str) (sp : Sp) : Prop where
  ex : ∃ (f : Addr) (fd : FuncData), FnOk P w K mg base CX0 k f fd ps sp ∧ mg x = some (.ref f) ∧ PySem.W.keepIn K (.ref f) = true ∧ Binds K fd ps [] ∧ ∃ oc od osl, K.lookup f = some ⟨oc, od, .func fd, osl⟩
section
variable {P : Program} {w : World} {K : PySem.W.Frag} {mg : Str → Option Value} {base : Heap}
theorem dn_mk {x : Str} {st : Stmt} {N ps : List Str} {k : Nat} {sp : Sp} (D : DefAt K mg x st) (S : FnScope N ps (defScope st))
    (hb : ∀ (kV doc pm : Value) (an : Option Addr) (cdv ct : Value) (us : List Value), us.length = ps.length → bindArgs (PySem.W.fnOf x x (defArgs st) (defBody st) (defScope st) .none kV doc pm an cdv ct) ⟨us, []⟩ = pure (ps.zip us))
    (len : ∀ vs H Q E, sp vs H Q E → vs.length = ps.length)
    (hbody : ∀ (f : Addr) (cdv : Value) (A : Around) (outer : List Env) (s : Shared) (H : Hp) (vs : List V) (Q : VK) (E : XK), Room k (A.deeper (envOfC x (defScope st) s.heap.objs.size f cdv)) → sp vs H Q E →
      ∃ t, PSs (cxOf CX0 P w K mg base N x (defScope st) f cdv A outer s H E).nox (defBody st) t ∧ t { nx := fun _ H' => Q .non H', rt := Q } (start N vs) H) : Dn P w K mg base (k + 1) x ps sp := by
  obtain ⟨f, fd, F, hm⟩ := D
  refine ⟨f, fd, F.ok S len (hbody f), hm, F.kp, F.binds hb, ?_⟩
  obtain ⟨oc, od, kV, doc, pm, an, cdv, ct, osl, e, lk, hcd⟩ := F.ex
  exact ⟨oc, od, osl, lk⟩
end
section
variable {X : Cx} {k j : Nat} {x : Str} {ps : List Str} {sp : Sp} {p pos : Pos} {e : Expr} {es : List Expr} {t : TA}
theorem pe_d (c : Dn X.prog X.w X.K X.mg X.base k x ps sp) (hr : Room j X.A) (hk : k ≤ j) (hg : Gl X x) (ha : PA X (e :: es) t)
    (hdb : (x == ("__debug__" : Str)) = false := by decide) (he : starEach (e :: es) X.env = (false, eval e X.env) :: starEach es X.env := by rfl) (hpl : (backTo pos (starEach es X.env)).any (·.1) = false := by rfl) :
    PE X (.Call (.Name x p) (e :: es) [] pos) (tCall sp [] E0 t) := by
  obtain ⟨f, fd, F, hm, kp, b, _⟩ := c.ex
  exact pe_call F (hr.mono hk) hg hm kp b .nil pass0 ha hdb he hpl
end
/-- built-in names that the module leaves free -/
structure Nm (mg : Str → Option Value) : Prop where
  n_len : mg "len" = none
  n_abs : mg "abs" = none
  n_max : mg "max" = none
  n_min : mg "min" = none
  n_int : mg "int" = none
  n_bool : mg "bool" = none
  n_str : mg "str" = none
  n_list : mg "list" = none
  n_tuple : mg "tuple" = none
  n_dict : mg "dict" = none
  n_divmod : mg "divmod" = none
  n_isinstance : mg "isinstance" = none
  n_all : mg "all" = none
  n_sum : mg "sum" = none
  n_repr : mg "repr" = none
  n_range : mg "range" = none
  n_enumerate : mg "enumerate" = none
end Hv

namespace Hv
open PySem PySem.Spec PyProof.Rows L2
/-! ### defs that are called where no repr is running (the model's guards are empty): for repr of lists -/
/-- as FnOk, at an around without guards -/
structure FnG (P : Program) (w : World) (K : PySem.W.Frag) (mg : Str → Option Value) (base : Heap) (k : Nat) (f : Addr) (fd : FuncData) (ps : List Str) (sp : Sp) : Prop where
  len : ∀ vs H Q E, sp vs H Q E → vs.length = ps.length
  run : ∀ (B : Around) (fr : List Env) (z : Shared) (G : Hp) (av : Args) (us : List Value) (vs : List V) (Q : VK) (E : XK), B.guards = some [] → Room k B → Env0 P w K mg base B fr z G →
    BindsTo z fd av (ps.zip us) → Vals vs us → sp vs G Q E → codeAny (model P w) B (.call (.ref f) av) (CR CX0 fr P w G z Q E) z
theorem FnG.of {P : Program} {w : World} {K : PySem.W.Frag} {mg : Str → Option Value} {base : Heap} {k : Nat} {f : Addr} {fd : FuncData} {ps : List Str} {sp : Sp} (F : FnOk P w K mg base CX0 k f fd ps sp) : FnG P w K mg base k f fd ps sp :=
  ⟨F.len, fun B fr z G av us vs Q E _ => F.run B fr z G av us vs Q E⟩
theorem fnG_of {P : Program} {w : World} {K : PySem.W.Frag} {mg : Str → Option Value} {base : Heap} {k : Nat} {f : Addr} {nm ql : Str} {pr : Arguments} {bd : List Stmt} {sc : Scope} {dV kV dc pm cv ct oc : Value} {an od : Option Addr} {osl : Array (Option Value)} {N ps : List Str} {sp : Sp}
    (lk : K.lookup f = some ⟨oc, od, .func (PySem.W.fnOf nm ql pr bd sc dV kV dc pm an cv ct), osl⟩) (hcd : PySem.W.codeIn K cv ql = true) (S : FnScope N ps sc) (len : ∀ vs H Q E, sp vs H Q E → vs.length = ps.length)
    (hbody : ∀ (B : Around) (fr : List Env) (z : Shared) (G : Hp) (vs : List V) (Q : VK) (E : XK), B.guards = some [] → Room k (B.deeper (envOfC ql sc z.heap.objs.size f cv)) → sp vs G Q E →
      ∃ t, PSs (cxOf CX0 P w K mg base N ql sc f cv B fr z G E) bd t ∧ t { nx := fun _ G' => Q .non G', rt := Q } (start N vs) G) :
    FnG P w K mg base (k + 1) f (PySem.W.fnOf nm ql pr bd sc dV kV dc pm an cv ct) ps sp := by
  constructor
  · exact len
  · intro B fr z G av us vs Q E hgd hroom env0 hbinds rel want
    have hlen := len _ _ _ _ want
    have old : ∀ b o, base.get? b = some o → z.heap.get? b = some o := fun b o e => (env0.bs b o e).1
    have inK : K.In z.heap := env0.mod.kin.keeps old
    have par : ∀ y ∈ ps.zip us, sc.names.lookup y.1 = some .local ∨ (sc.names.lookup y.1 = some .cell ∧ ((cellsFrom (z.heap.objs.size + 1) sc.names []).lookup y.1).isSome = true) := by
      rintro ⟨y, v⟩ my
      rcases S.par y (List.of_mem_zip my).1 with q | q
      · left; exact q
      · right; exact ⟨q, PySem.W.cellsFrom_some _ _ _ (.inl q)⟩
    refine codeAny_call_function hroom.depth (inK _ _ lk) rfl S.co S.gen rfl (PySem.W.codeRec_of inK hcd) (hbinds _ _ _ _ (wpAny_newFunctionEnv_cells S.kind par fun ev hev z1 inC => ?_))
    subst hev
    refine ⟨(env0.mod.nolimit.keeps old).keeps inC.toInCall.keep, codeAny_func ?_⟩
    obtain ⟨t, der, rd⟩ := hbody B fr z G vs Q E hgd (hroom.deeper _) want
    have J0 : Inv (cxOf CX0 P w K mg base N ql sc f cv B fr z G E) [] (start N vs) G z1 := inv_start S hroom.hd env0 hlen rel inC
    refine wpAny_mono (der.run [] z1 (start N vs) G _ J0 rd) (fun fl z' hz => ?_) fun _ _ hz => hz
    match fl, hz with
    | .ret u, ⟨v, _, G', J, rv, q⟩ => exact ⟨v, G', J.os, J.bare, J.base, J.hok, rv, q⟩
    | .next, ⟨_, G', J, q⟩ => exact ⟨V.non, G', J.os, J.bare, J.base, J.hok, rfl, q⟩
    | .brk, ⟨_, _, _, q⟩ => exact False.elim q
    | .cont, ⟨_, _, _, q⟩ => exact False.elim q
/-- a def of the module that keeps its promise where no repr is running -/
structure Dg (P : Program) (w : World) (K : PySem.W.Frag) (mg : Str → Option Value) (base : Heap) (k : Nat) (x : Str) (ps : List Str) (sp : Sp) : Prop where
  ex : ∃ (f : Addr) (fd : FuncData), FnG P w K mg base k f fd ps sp ∧ mg x = some (.ref f) ∧ PySem.W.keepIn K (.ref f) = true ∧ Binds K fd ps []
section
variable {P : Program} {w : World} {K : PySem.W.Frag} {mg : Str → Option Value} {base : Heap}
theorem Dn.dg {k : Nat} {x : Str} {ps : List Str} {sp : Sp} (c : Dn P w K mg base k x ps sp) : Dg P w K mg base k x ps sp :=
  let ⟨f, fd, F, r1, r2, r3, _⟩ := c.ex
  ⟨f, fd, .of F, r1, r2, r3⟩
theorem dg_mk {x : Str} {st : Stmt} {N ps : List Str} {k : Nat} {sp : Sp} (D : DefAt K mg x st) (S : FnScope N ps (defScope st))
    (hb : ∀ (kV doc pm : Value) (an : Option Addr) (cdv ct : Value) (us : List Value), us.length = ps.length → bindArgs (PySem.W.fnOf x x (defArgs st) (defBody st) (defScope st) .none kV doc pm an cdv ct) ⟨us, []⟩ = pure (ps.zip us))
    (len : ∀ vs H Q E, sp vs H Q E → vs.length = ps.length)
    (hbody : ∀ (f : Addr) (cdv : Value) (B : Around) (fr : List Env) (z : Shared) (H : Hp) (vs : List V) (Q : VK) (E : XK), B.guards = some [] → Room k (B.deeper (envOfC x (defScope st) z.heap.objs.size f cdv)) → sp vs H Q E →
      ∃ t, PSs (cxOf CX0 P w K mg base N x (defScope st) f cdv B fr z H E).nox (defBody st) t ∧ t { nx := fun _ H' => Q .non H', rt := Q } (start N vs) H) : Dg P w K mg base (k + 1) x ps sp := by
  obtain ⟨f, fd, F, hm⟩ := D
  have bi := F.binds hb
  have kp := F.kp
  obtain ⟨oc, od, kV, doc, pm, an, cdv, ct, osl, e, lk, hcd⟩ := F.ex
  subst e
  refine ⟨f, _, fnG_of lk hcd S len (fun B fr z G vs Q E g hr h => ?_), hm, kp, bi⟩
  obtain ⟨t, ht, q⟩ := hbody f cdv B fr z G vs Q E g hr h
  exact ⟨t, ht.nox, q⟩
end
section
variable {X : Cx} {k j : Nat} {x : Str} {ps : List Str} {sp : Sp} {p pos : Pos} {e : Expr} {es : List Expr} {t : TA}
theorem pe_dg (c : Dg X.prog X.w X.K X.mg X.base k x ps sp) (gd : X.A.guards = some []) (hr : Room j X.A) (hk : k ≤ j) (hg : Gl X x) (ha : PA X (e :: es) t)
    (hdb : (x == ("__debug__" : Str)) = false := by decide) (he : starEach (e :: es) X.env = (false, eval e X.env) :: starEach es X.env := by rfl) (hpl : (backTo pos (starEach es X.env)).any (·.1) = false := by rfl) :
    PE X (.Call (.Name x p) (e :: es) [] pos) (tCall sp [] E0 t) := by
  obtain ⟨f, fd, F, hm, kp, bi⟩ := c.ex
  refine ⟨fun pins z σ H Q I want => wpAny_Call_Name_kw (ld_glob I hg hm ?_ hdb)⟩
  refine PySem.W.callWith_K (h₀ := X.base) I.ok.mod.kin kp (thn (ha.run pos pins z σ H _ I want) fun us z1 ⟨vs, H1, J, rel, q⟩ => ⟨J.kIn, ?_⟩) he hpl
  have q' : sp vs H1 Q E0 := by have q2 : sp (vs ++ []) H1 Q E0 := q; rw [List.append_nil] at q2; exact q2
  have hl : us.length = ps.length := by rw [← rel.length]; exact F.len _ _ _ _ q'
  refine wpAny_call (codeAny_mono (F.run X.A X.stack z1 H1 ⟨us, []⟩ us vs Q E0 gd (hr.mono hk) J.env0 (by have := bi z1 us J.kIn (by rw [List.append_nil]; exact hl); rw [List.append_nil] at this; exact this) rel q') fun r z2 hq => ?_)
  match r, hq with
  | .error _, hq => exact False.elim hq
  | .ok (.ret _), hq => exact J.after hq
  | .ok .next, hq => exact False.elim hq
  | .ok .brk, hq => exact False.elim hq
  | .ok .cont, hq => exact False.elim hq
end

/-! ### the law's end, for a law that asks repr -/
/-- from an abstract heap that tracks the script at most -/
theorem entryG {P : Program} {w : World} {K : PySem.W.Frag} {mg mb : Str → Option Value} {k : Nat} {fa a : Addr} {fd : FuncData} {x : Str} {sp : Sp} {z : Shared} {vals : List Value} {ns : List Int} {G : Hp}
    (inK : K.In z.heap) (gl : z.heap.Ns mainGlobals mg) (bl : z.heap.Ns builtinsNs mb) (bb : ∀ y : Str, y ≠ "__name__" → mb y = bootBuiltins y) (lim : z.heap.NoLimit) (gn : z.gens = #[])
    (at_ : z.heap.get? a = some { cls := .type "list", data := .seq vals.toArray }) (room : Room k callerA)
    (F : ∀ base : Heap, K.In base → base.Ns mainGlobals mg → FnG P w K mg base k fa fd [x] sp) (bind : ∀ (y : Shared) (u : Value), BindsTo y fd ⟨[u], []⟩ [(x, u)])
    (only : Only G) (hok : HOk P w G z.heap) (just : ∀ b, G b ≠ none → b = a) (offK : G a ≠ none → K.lookup a = none) (want : sp [.ref a] G (fun v _ => v = .bl true) fun _ _ _ => False) :
    codeAny (model P w) callerA (.call (.ref fa) ⟨[.ref a], []⟩) (fun r y => r = .ok (.ret (.bool true)) ∧ OldK z.heap y.heap ∧ y.os = z.os ∧ AllBare y.gens) z := by
  have isA : ∀ {b : Addr} {u : HO}, G b = some u → b = a := fun {b u} q => just b fun n => by rw [q] at n; cases n
  have up : ∀ {b : Addr} {m : Str → Option Value}, z.heap.Ns b m → (hidT z.heap G).Ns b m := by
    rintro b m ⟨o, es, ep, e, d, r⟩
    refine ⟨o, es, ep, hidT_get e ?_, d, r⟩
    cases q : G b with
    | none => rfl
    | some u =>
      have eb := isA q
      rw [eb, at_] at e
      injection e with e1
      rw [← e1] at d
      exact nomatch (show Data.seq vals.toArray _ = Data.dict es ep from d)
  have kin : K.In (hidT z.heap G) := by
    intro b o e
    refine hidT_get (inK b o e) ?_
    cases q : G b with
    | none => rfl
    | some u =>
      have eb := isA q
      subst eb
      rw [offK (by rw [q]; exact fun n => nomatch n)] at e
      exact nomatch e
  have md : Mod K mg (hidT z.heap G) := ⟨kin, up gl, ⟨mb, up bl, bb⟩, by obtain ⟨mc, l1, l2⟩ := lim; exact ⟨mc, up l1, l2⟩⟩
  have ev : Env0 P w K mg (hidT z.heap G) callerA [] z G :=
    { frames := rfl, mod := md, bs := fun b o e => of_hidT e, bsz := Nat.le_of_eq (hidT_size _ _), funs := trivial, frf := fun b hb => (List.not_mem_nil hb).elim, hok := hok, bare := .of_eq gn }
  refine codeAny_mono ((F _ kin (up gl)).run callerA [] z G ⟨[.ref a], []⟩ [.ref a] [.ref a] _ _ rfl room ev (bind z (.ref a)) (.cons rfl .nil) want) fun r y h => ?_
  match r, h with
  | .error _, h => exact False.elim h
  | .ok .next, h => exact False.elim h
  | .ok .brk, h => exact False.elim h
  | .ok .cont, h => exact False.elim h
  | .ok (.ret u), ⟨v, G', os, bare, un, hok', rv, q⟩ =>
    have ev : v = .bl true := q
    subst ev
    have eu : u = Value.bool true := rv
    subst eu
    refine ⟨rfl, OldK.of_keep fun b o e => ?_, os, bare⟩
    rcases only b with n | ⟨ob, xs, n⟩
    · exact un.keep b o e n (fun m => (List.not_mem_nil m).elim) (fun m => (List.not_mem_nil m).elim)
    · have e1 := (hok b _ n).1
      have e2 := (hok' b _ (un.frzs b ob _ n)).1
      rw [e] at e1
      injection e1 with e1
      rw [e1]
      exact e2
theorem law_callG {P : Program} {w : World} {K : PySem.W.Frag} {mg mb : Str → Option Value} {k : Nat} {fa a : Addr} {fd : FuncData} {x : Str} {sp : Sp} {z : Shared} {vals : List Value} {ns : List Int}
    (inK : K.In z.heap) (gl : z.heap.Ns mainGlobals mg) (bl : z.heap.Ns builtinsNs mb) (bb : ∀ y : Str, y ≠ "__name__" → mb y = bootBuiltins y) (lim : z.heap.NoLimit) (gn : z.gens = #[])
    (at_ : z.heap.get? a = some { cls := .type "list", data := .seq vals.toArray }) (hInts : IntsAre vals ns) (sz : ns.length ≤ sizeLine) (room : Room k callerA)
    (F : ∀ base : Heap, K.In base → base.Ns mainGlobals mg → FnG P w K mg base k fa fd [x] sp) (bind : ∀ (y : Shared) (u : Value), BindsTo y fd ⟨[u], []⟩ [(x, u)])
    (want : ∀ G : Hp, Only G → SqL K G a (ns.map V.int) → sp [.ref a] G (fun v _ => v = .bl true) fun _ _ _ => False) :
    codeAny (model P w) callerA (.call (.ref fa) ⟨[.ref a], []⟩) (fun r y => r = .ok (.ret (.bool true)) ∧ OldK z.heap y.heap ∧ y.os = z.os ∧ AllBare y.gens) z := by
  have rel := vals_ints hInts
  have nl := hInts.length
  cases hk : K.lookup a with
  | some o =>
    have e := inK a o hk
    rw [at_] at e
    injection e with e
    subst e
    have S : SqL K (fun _ => none) a (ns.map V.int) := .inr ⟨_, vals.toArray, _, hk, rfl, rfl, rfl, by rw [List.size_toArray, nl]; exact sz, by simpa using rel⟩
    exact entryG (ns := ns) (G := fun _ => none) inK gl bl bb lim gn at_ room F bind (fun _ => .inl rfl) (fun b u q => nomatch (show (none : Option HO) = some u from q)) (fun b q => (q rfl).elim) (fun q => (q rfl).elim) (want _ (fun _ => .inl rfl) S)
  | none =>
    have here : ∀ b : Addr, b = a → upd (fun _ => none) a (.frz { cls := .type "list", data := .seq vals.toArray } (.lst (ns.map V.int))) b = some (.frz { cls := .type "list", data := .seq vals.toArray } (.lst (ns.map V.int))) := fun b e => by rw [e]; exact upd_same
    have off : ∀ b : Addr, b ≠ a → upd (fun _ => none) a (.frz { cls := .type "list", data := .seq vals.toArray } (.lst (ns.map V.int))) b = none := fun b e => upd_ne e
    have on : Only (upd (fun _ => none) a (.frz { cls := .type "list", data := .seq vals.toArray } (.lst (ns.map V.int)))) := fun b => by
      by_cases e : b = a
      · exact .inr ⟨_, _, here b e⟩
      · exact .inl (off b e)
    refine entryG (ns := ns) (G := upd (fun _ => none) a (.frz { cls := .type "list", data := .seq vals.toArray } (.lst (ns.map V.int)))) inK gl bl bb lim gn at_ room F bind on (fun b u q => ?_) (fun b q => ?_) (fun _ => hk) (want _ on (.inl (.inr ⟨_, upd_same⟩)))
    · by_cases e : b = a
      · rw [here b e] at q
        injection q with q
        subst q
        subst e
        exact ⟨at_, by rw [List.length_map]; exact sz, vals, _, rel, at_⟩
      · rw [off b e] at q
        exact nomatch q
    · by_cases e : b = a
      · exact e
      · exact (q (off b e)).elim
theorem walkG {l : PySem.W.OpenLaw} {n k : Nat} {q : Program} {loose : List Str} {XP : (Str → Option Value) → Heap → Prop} {YP : World → Heap → Prop} {d : DefRec} {K : Params → PySem.W.Frag} {sp : PySem.W.Frag → Sp} {x : Str}
    (most : l.most = some n) (fits : n ≤ sizeLine) (plain : d.params.defaults = []) (room : Room k callerA) (seen : ∀ (w : World) (h : Heap), YP w h → (K w.params).In h)
    (F : ∀ (w : World) (mg : Str → Option Value) (fa : Addr) (h : Heap), (K w.params).In h → h.Ns mainGlobals mg → mg d.name = some (.ref fa) →
      ∃ fd : FuncData, (∀ (y : Shared) (u : Value), BindsTo y fd ⟨[u], []⟩ [(x, u)]) ∧ ∀ base : Heap, (K w.params).In base → base.Ns mainGlobals mg → FnG l.prog w (K w.params) mg base k fa fd [x] (sp (K w.params)))
    (want : ∀ (K : PySem.W.Frag) (H : Hp) (a : Addr) (ns : List Int), ns.length ≤ n → Only H → SqL K H a (ns.map V.int) → sp K [.ref a] H (fun v _ => v = .bl true) fun _ _ _ => False) :
    PySem.W.WalkO q loose XP YP l.row.toRowW d [] (fun f vs => PySem.call f vs) := by
  refine Att.attach_call most plain fun w z₀ z mg mb fa o pm cd doc a vals ns G Y ho hd hcd hmg hobj hInts len gn => ?_
  have inK := seen w _ Y
  obtain ⟨fd, bi, hF⟩ := F w mg fa _ inK G.T.g hmg
  exact law_callG inK G.T.g G.T.b G.T.builtins G.T.nolimit gn hobj hInts (Nat.le_trans len fits) room hF bi fun H on S => want _ H a ns len on S
end Hv

namespace Hv
open PySem PySem.Spec PyProof.Rows L2
/-! ### data in the heap: None, truths, integers, texts, lists, tuples, dicts with integer and text keys -/
def keyD : Key → PyData
  | .inl i => .int i
  | .inr x => .str x
mutual
/-- the value v stands for the data d; nothing of it lies in Z -/
inductive Dat (Z : Addr → Prop) (H : Hp) : V → PyData → Prop
  | non : Dat Z H .non .none
  | bl (b : Bool) : Dat Z H (.bl b) (.bool b)
  | int (i : Int) : Dat Z H (.int i) (.int i)
  | str (x : Str) : Dat Z H (.str x) (.str x)
  | lst {a : Addr} {xs : List V} {ds : List PyData} : ¬ Z a → H a = some (.lst xs) → Dats Z H xs ds → Dat Z H (.ref a) (.list ds)
  | tup {a : Addr} {xs : List V} {ds : List PyData} : ¬ Z a → H a = some (.tup xs) → Dats Z H xs ds → Dat Z H (.ref a) (.tuple ds)
  | dct {a : Addr} {ks : List (Key × V)} {ds : List PyData} : ¬ Z a → H a = some (.dK ks) → Dats Z H (ks.map (·.2)) ds → Dat Z H (.ref a) (.dict ((ks.map fun p => keyD p.1).zip ds))
inductive Dats (Z : Addr → Prop) (H : Hp) : List V → List PyData → Prop
  | nil : Dats Z H [] []
  | cons {v : V} {vs : List V} {d : PyData} {ds : List PyData} : Dat Z H v d → Dats Z H vs ds → Dats Z H (v :: vs) (d :: ds)
end
theorem Dats.length {Z : Addr → Prop} {H : Hp} : ∀ {vs : List V} {ds : List PyData}, Dats Z H vs ds → vs.length = ds.length
  | _, _, .nil => rfl
  | _, _, .cons _ t => by simp [t.length]
mutual
theorem Dat.mono {Z Z' : Addr → Prop} {H H' : Hp} (hz : ∀ b, Z' b → Z b ∨ H b = none) (hk : ∀ b o, H b = some o → ¬ Z b → H' b = some o) : ∀ {v : V} {d : PyData}, Dat Z H v d → Dat Z' H' v d
  | _, _, .non => .non
  | _, _, .bl b => .bl b
  | _, _, .int i => .int i
  | _, _, .str x => .str x
  | _, _, .lst n e t => .lst (fun q => (hz _ q).elim n fun q => by rw [q] at e; cases e) (hk _ _ e n) (Dats.mono hz hk t)
  | _, _, .tup n e t => .tup (fun q => (hz _ q).elim n fun q => by rw [q] at e; cases e) (hk _ _ e n) (Dats.mono hz hk t)
  | _, _, .dct n e t => .dct (fun q => (hz _ q).elim n fun q => by rw [q] at e; cases e) (hk _ _ e n) (Dats.mono hz hk t)
theorem Dats.mono {Z Z' : Addr → Prop} {H H' : Hp} (hz : ∀ b, Z' b → Z b ∨ H b = none) (hk : ∀ b o, H b = some o → ¬ Z b → H' b = some o) : ∀ {vs : List V} {ds : List PyData}, Dats Z H vs ds → Dats Z' H' vs ds
  | _, _, .nil => .nil
  | _, _, .cons h t => .cons (Dat.mono hz hk h) (Dats.mono hz hk t)
end
theorem Dats.get {Z : Addr → Prop} {H : Hp} : ∀ {vs : List V} {ds : List PyData} {i : Nat} {v : V}, Dats Z H vs ds → vs[i]? = some v → ∃ d, ds[i]? = some d ∧ Dat Z H v d
  | _, _, _, _, .nil, e => by simp at e
  | _, _, 0, _, .cons h _, e => by simp at e; subst e; exact ⟨_, rfl, h⟩
  | _, _, i + 1, v, .cons _ t, e => by
    obtain ⟨d, h1, h2⟩ := Dats.get (i := i) (v := v) t (by simpa using e)
    exact ⟨d, by simpa using h1, h2⟩
theorem Dats.append {Z : Addr → Prop} {H : Hp} : ∀ {vs us : List V} {ds es : List PyData}, Dats Z H vs ds → Dats Z H us es → Dats Z H (vs ++ us) (ds ++ es)
  | _, _, _, _, .nil, h => h
  | _, _, _, _, .cons h t, g => .cons h (Dats.append t g)
theorem Dats.take {Z : Addr → Prop} {H : Hp} : ∀ {vs : List V} {ds : List PyData} (n : Nat), Dats Z H vs ds → Dats Z H (vs.take n) (ds.take n)
  | _, _, 0, _ => .nil
  | _, _, _ + 1, .nil => .nil
  | _, _, n + 1, .cons h t => .cons h (Dats.take n t)
theorem Dats.drop {Z : Addr → Prop} {H : Hp} : ∀ {vs : List V} {ds : List PyData} (n : Nat), Dats Z H vs ds → Dats Z H (vs.drop n) (ds.drop n)
  | _, _, 0, h => h
  | _, _, _ + 1, .nil => .nil
  | _, _, n + 1, .cons _ t => Dats.drop n t
theorem Dats.reverse {Z : Addr → Prop} {H : Hp} : ∀ {vs : List V} {ds : List PyData}, Dats Z H vs ds → Dats Z H vs.reverse ds.reverse
  | _, _, .nil => .nil
  | _, _, .cons h t => by
    rw [List.reverse_cons, List.reverse_cons]
    exact (Dats.reverse t).append (.cons h .nil)
/-! ### the same, in the model's heap, with no dict at sys.modules -/
mutual
inductive RdS (h : Heap) : Value → PyData → Prop
  | non : RdS h .none .none
  | bl (b : Bool) : RdS h (.bool b) (.bool b)
  | int (i : Int) (t : Tok) : RdS h (.int i t) (.int i)
  | str (x : Str) (t : Tok) : RdS h (.str x t) (.str x)
  | lst {a : Addr} {o : Obj} {us : Array Value} {n : Nat} {ds : List PyData} : h.get? a = some o → o.cls = .type "list" → o.data = .seq us n → RdsS h us.toList ds → RdS h (.ref a) (.list ds)
  | tup {a : Addr} {o : Obj} {us : Array Value} {n : Nat} {ds : List PyData} : h.get? a = some o → o.cls = .type "tuple" → o.data = .seq us n → RdsS h us.toList ds → RdS h (.ref a) (.tuple ds)
  | dct {a : Addr} {o : Obj} {es : Array DictEntry} {n : Nat} {kvs : List (PyData × PyData)} : h.get? a = some o → o.cls = .type "dict" → o.data = .dict es n → (a == sysModules) = false →
      RdsS h (es.toList.map (·.key)) (kvs.map (·.1)) → RdsS h (es.toList.map (·.val)) (kvs.map (·.2)) → RdS h (.ref a) (.dict kvs)
inductive RdsS (h : Heap) : List Value → List PyData → Prop
  | nil : RdsS h [] []
  | cons {u : Value} {us : List Value} {d : PyData} {ds : List PyData} : RdS h u d → RdsS h us ds → RdsS h (u :: us) (d :: ds)
end
mutual
theorem RdS.reads {h : Heap} : ∀ {u : Value} {d : PyData}, RdS h u d → ∃ as, Reads h u d as
  | _, _, .non => ⟨_, .none⟩
  | _, _, .bl b => ⟨_, .bool b⟩
  | _, _, .int i t => ⟨_, .int i t⟩
  | _, _, .str x t => ⟨_, .str x t⟩
  | _, _, .lst e c d r => let ⟨_, q⟩ := RdsS.reads r; ⟨_, .list e c d q⟩
  | _, _, .tup e c d r => let ⟨_, q⟩ := RdsS.reads r; ⟨_, .tuple e c d q⟩
  | _, _, .dct e c d _ k v => let ⟨_, q⟩ := RdsS.reads k; let ⟨_, q'⟩ := RdsS.reads v; ⟨_, .dict e c d q q'⟩
theorem RdsS.reads {h : Heap} : ∀ {us : List Value} {ds : List PyData}, RdsS h us ds → ∃ as, ReadsAll h us ds as
  | _, _, .nil => ⟨_, .nil⟩
  | _, _, .cons r t => let ⟨_, q⟩ := RdS.reads r; let ⟨_, q'⟩ := RdsS.reads t; ⟨_, .cons q q'⟩
end
section
variable {P : Program} {w : World} {h : Heap}
mutual
theorem RdS.repr : ∀ {u : Value} {d : PyData}, RdS h u d → d.showable = true → d.shown.length ≤ sizeLine → ∃ bs, ReadAtMost h d.depth bs ∧ ReprK P w bs h d.depth u d.shown
  | _, _, .non, _, _ => ⟨[], fun _ q => (List.not_mem_nil q).elim, ReprK.of_is ReprIs.none _ _ _⟩
  | _, _, .bl b, _, _ => ⟨[], fun _ q => (List.not_mem_nil q).elim, ReprK.of_is (ReprIs.bool b) _ _ _⟩
  | _, _, .int i t, sh, _ => ⟨[], fun _ q => (List.not_mem_nil q).elim, ReprK.of_is (ReprIs.int t (of_decide_eq_true sh)) _ _ _⟩
  | _, _, .str x t, _, sz => ⟨[], fun _ q => (List.not_mem_nil q).elim, ReprK.of_is (ReprIs.str x t sz) _ _ _⟩
  | _, _, .lst (a := a) (us := us) (ds := ds) e c dt r, sh, sz => by
    obtain ⟨bs, hb, hk⟩ := RdsS.repr r sh fun t mt => Nat.le_trans (listText_mem_le mt) sz
    obtain ⟨as, rd⟩ := RdS.reads (.lst e c dt r)
    refine ⟨a :: bs, ReadAtMost.cons rd (Nat.le_succ _) hb, ?_⟩
    obtain ⟨l⟩ := us
    cases l with
    | nil =>
      cases (show RdsS h [] ds from r)
      exact ReprK.listEmpty e c dt
    | cons x l => exact ReprK.list e c dt (not_mem_of_deeper rd (Nat.lt_succ_self _) hb) (by simpa using hk.length_eq) fun i y q => hk.item i y (by simpa using q)
  | _, _, .tup (a := a) (ds := ds) e c dt r, sh, sz => by
    obtain ⟨bs, hb, hk⟩ := RdsS.repr r sh fun t mt => Nat.le_trans (tupleText_mem_le mt) sz
    obtain ⟨as, rd⟩ := RdS.reads (.tup e c dt r)
    exact ⟨a :: bs, ReadAtMost.cons rd (Nat.le_succ _) hb, ReprK.tuple e c dt (not_mem_of_deeper rd (Nat.lt_succ_self _) hb) hk⟩
  | _, _, .dct (a := a) (es := es) (kvs := kvs) e c dt ns k v, sh, sz => by
    obtain ⟨sk, sv⟩ := PyData.showableKv_split kvs sh
    have lt : ∀ {p : Str}, p ∈ PyData.shownKv kvs → p.length ≤ sizeLine := fun mp => Nat.le_trans (dictText_mem_le mp) sz
    obtain ⟨b1, hb1, k1⟩ := RdsS.repr k sk fun t mt => let ⟨p, mp, lp⟩ := PyData.shownKv_key_le kvs t mt; Nat.le_trans lp (lt mp)
    obtain ⟨b2, hb2, k2⟩ := RdsS.repr v sv fun t mt => let ⟨p, mp, lp⟩ := PyData.shownKv_val_le kvs t mt; Nat.le_trans lp (lt mp)
    obtain ⟨as, rd⟩ := RdS.reads (.dct e c dt ns k v)
    have both : ReadAtMost h (PyData.depthKv kvs) (b1 ++ b2) := (hb1.mono (PyData.depthAll_keys_le kvs)).append (hb2.mono (PyData.depthAll_vals_le kvs))
    refine ⟨a :: (b1 ++ b2), ReadAtMost.cons rd (Nat.le_succ _) both, ?_⟩
    show ReprK P w _ h (PyData.depthKv kvs + 1) _ (dictText (PyData.shownKv kvs))
    rw [PyData.shownKv_eq]
    exact ReprK.dict e c dt ns (not_mem_of_deeper rd (Nat.lt_succ_self _) both) (ReprEntriesK.of_two es.toList _ _ (k1.more_le (fun _ q => List.mem_append_left _ q) (PyData.depthAll_keys_le kvs)) (k2.more_le (fun _ q => List.mem_append_right _ q) (PyData.depthAll_vals_le kvs)))
theorem RdsS.repr : ∀ {us : List Value} {ds : List PyData}, RdsS h us ds → PyData.showableAll ds = true → (∀ t ∈ PyData.shownAll ds, t.length ≤ sizeLine) → ∃ bs, ReadAtMost h (PyData.depthAll ds) bs ∧ ReprAllK P w bs h (PyData.depthAll ds) us (PyData.shownAll ds)
  | _, _, .nil, _, _ => ⟨[], fun _ q => (List.not_mem_nil q).elim, .nil⟩
  | _, _, .cons (d := d) (ds := ds) r t, sh, sz => by
    obtain ⟨s1, s2⟩ := Bool.and_eq_true_iff.mp (show (d.showable && PyData.showableAll ds) = true from sh)
    obtain ⟨b1, hb1, k1⟩ := RdS.repr r s1 (sz _ List.mem_cons_self)
    obtain ⟨b2, hb2, k2⟩ := RdsS.repr t s2 fun x mx => sz x (List.mem_cons_of_mem _ mx)
    refine ⟨b1 ++ b2, (hb1.mono (Nat.le_max_left _ _)).append (hb2.mono (Nat.le_max_right _ _)), ?_⟩
    exact .cons ((k1.more fun _ q => List.mem_append_left _ q).level_le (Nat.le_max_left _ _)) (k2.more_le (fun _ q => List.mem_append_right _ q) (Nat.le_max_right _ _))
end
end
end Hv

namespace Hv
open PySem PySem.Spec PyProof.Rows L2
section
variable {P : Program} {w : World} {A : Around} {E : Value → Shared → Prop} {s : Shared} {Q : Value → Shared → Prop}
theorem RdS.call_repr {u : Value} {d : PyData} (r : RdS s.heap u d) (sh : d.showable = true) (sz : d.shown.length ≤ sizeLine) (gd : A.guards = some []) (hu : A.units + (d.depth + 1) < cLine)
    (hQ : ∀ h' tk tk', (∀ b o, s.heap.get? b = some o → h'.get? b = some o) → Q (.str d.shown tk) { s with heap := h', toks := tk' }) : wpAny (model P w) A (call (.builtin "repr") [u]) Q E s := by
  have keep : ∀ b o, s.heap.get? b = some o → s.heap.get? b = some o := fun _ _ q => q
  cases r with
  | non => exact PySem.P.repr_of_none (hQ s.heap _ _ keep)
  | bl b => exact PySem.P.repr_of_bool (hQ s.heap _ _ keep)
  | int i t => exact PySem.P.repr_of_int (of_decide_eq_true sh) (hQ s.heap _ _ keep)
  | str x t => exact PySem.P.repr_of_str (hQ s.heap _ _ keep) sz
  | @lst a o us n ds e c dt r =>
    obtain ⟨bs, hb, hk⟩ := RdsS.repr (P := P) (w := w) r sh fun t mt => Nat.le_trans (listText_mem_le mt) sz
    obtain ⟨as, rd⟩ := RdS.reads (.lst e c dt r)
    have tyL : s.TypeIs (.ref a) "list" := ⟨o, e, c⟩
    refine call_repr_slot (by omega) tyL F.slot_list_repr.toG ?_
    have hu1 : A.in1.units + (PyData.depthAll ds + 1) < cLine := by
      have q : A.units + (PyData.depthAll ds + 1 + 1) < cLine := hu
      show A.units + 1 + _ < _
      omega
    obtain ⟨l⟩ := us
    cases l with
    | nil =>
      cases (show RdsS s.heap [] ds from r)
      exact call_list_repr_empty tyL e dt ⟨_, _, rfl, hQ s.heap _ _ keep⟩
    | cons x l => exact call_list_reprK e c dt (not_mem_of_deeper rd (Nat.lt_succ_self _) hb) (by simpa using hk.length_eq) (fun i y q => hk.item i y (by simpa using q)) gd (fun b _ => Clear.nil b) hu1 keep (fun h' t1 t2 k => ⟨_, _, rfl, hQ h' t1 t2 k⟩) sz
  | @tup a o us n ds e c dt r =>
    obtain ⟨bs, hb, hk⟩ := RdsS.repr (P := P) (w := w) r sh fun t mt => Nat.le_trans (tupleText_mem_le mt) sz
    obtain ⟨as, rd⟩ := RdS.reads (.tup e c dt r)
    have hu1 : A.in1.units + (PyData.depthAll ds + 1) < cLine := by
      have q : A.units + (PyData.depthAll ds + 1 + 1) < cLine := hu
      show A.units + 1 + _ < _
      omega
    refine call_repr_slot (T := "tuple") (by omega) ⟨o, e, c⟩ F.slot_tuple_repr ?_
    exact call_tuple_reprK e c dt (not_mem_of_deeper rd (Nat.lt_succ_self _) hb) hk gd (fun b _ => Clear.nil b) hu1 keep (fun h' t1 t2 k => ⟨_, _, rfl, hQ h' t1 t2 k⟩) sz
  | @dct a o es n kvs e c dt ns k v =>
    obtain ⟨sk, sv⟩ := PyData.showableKv_split kvs sh
    have lt : ∀ {p : Str}, p ∈ PyData.shownKv kvs → p.length ≤ sizeLine := fun mp => Nat.le_trans (dictText_mem_le mp) sz
    obtain ⟨b1, hb1, k1⟩ := RdsS.repr (P := P) (w := w) k sk fun t mt => let ⟨p, mp, lp⟩ := PyData.shownKv_key_le kvs t mt; Nat.le_trans lp (lt mp)
    obtain ⟨b2, hb2, k2⟩ := RdsS.repr (P := P) (w := w) v sv fun t mt => let ⟨p, mp, lp⟩ := PyData.shownKv_val_le kvs t mt; Nat.le_trans lp (lt mp)
    obtain ⟨as, rd⟩ := RdS.reads (.dct e c dt ns k v)
    have both : ReadAtMost s.heap (PyData.depthKv kvs) (b1 ++ b2) := (hb1.mono (PyData.depthAll_keys_le kvs)).append (hb2.mono (PyData.depthAll_vals_le kvs))
    have hu1 : A.in1.units + (PyData.depthKv kvs + 1) < cLine := by
      have q : A.units + (PyData.depthKv kvs + 1 + 1) < cLine := hu
      show A.units + 1 + _ < _
      omega
    have sz' : (dictText (List.zipWith (fun k v : Str => k ++ ": " ++ v) (PyData.shownAll (kvs.map (·.1))) (PyData.shownAll (kvs.map (·.2))))).length ≤ sizeLine := by rw [← PyData.shownKv_eq]; exact sz
    have hQ' : ∀ h' tk tk', (∀ b o, s.heap.get? b = some o → h'.get? b = some o) → Q (.str (dictText (List.zipWith (fun k v : Str => k ++ ": " ++ v) (PyData.shownAll (kvs.map (·.1))) (PyData.shownAll (kvs.map (·.2))))) tk) { s with heap := h', toks := tk' } := by rw [← PyData.shownKv_eq]; exact hQ
    refine call_repr_slot (T := "dict") (by omega) ⟨o, e, c⟩ F.slot_dict_repr ?_
    exact call_dict_reprK e c dt ns (not_mem_of_deeper rd (Nat.lt_succ_self _) both) (ReprEntriesK.of_two es.toList _ _ (k1.more_le (fun _ q => List.mem_append_left _ q) (PyData.depthAll_keys_le kvs)) (k2.more_le (fun _ q => List.mem_append_right _ q) (PyData.depthAll_vals_le kvs)))
      gd (fun b _ => Clear.nil b) hu1 keep (fun h' t1 t2 k => ⟨_, _, rfl, hQ' h' t1 t2 k⟩) sz'
end
section
variable {X : Cx} {pins : List (Addr × Obj)} {σ : L2.St} {H : Hp} {s : Shared} {Z : Addr → Prop}
theorem rds_keys {P : Program} {w : World} {h : Heap} : ∀ {es : List DictEntry} {ks : List (Key × V)} {vs : List (Key × Value)}, KV ks vs → Pairs (mixKind P w) es vs → RdsS h (es.map (·.key)) (ks.map fun p => keyD p.1)
  | _, _, _, .nil, .nil => .nil
  | _, _, _, .cons (a := p) ⟨e1, _⟩ r, .cons hk _ t => by
    refine .cons ?_ (rds_keys r t)
    rw [← e1] at hk
    obtain ⟨k, v⟩ := p
    rcases keyIs_shape hk with ⟨i, t, q, q'⟩ | ⟨x, t, q, q'⟩
    · have q1 : k = Sum.inl i := q
      subst q1
      show RdS h _ (.int i)
      dsimp only
      rw [q']
      exact .int i t
    · have q1 : k = Sum.inr x := q
      subst q1
      show RdS h _ (.str x)
      dsimp only
      rw [q']
      exact .str x t
theorem vals_of_pairs {P : Program} {w : World} : ∀ {es : List DictEntry} {ks : List (Key × V)} {vs : List (Key × Value)}, KV ks vs → Pairs (mixKind P w) es vs → Vals (ks.map (·.2)) (es.map (·.val))
  | _, _, _, .nil, .nil => .nil
  | _, _, _, .cons ⟨_, r1⟩ r, .cons _ hv t => .cons (by dsimp only; rw [hv]; exact r1) (vals_of_pairs r t)
mutual
theorem Dat.rds (I : Inv X pins σ H s) : ∀ {v : V} {d : PyData} {u : Value}, Dat Z H v d → RelV v u → RdS s.heap u d
  | _, _, _, .non, r => by cases r; exact .non
  | _, _, _, .bl b, r => by cases r; exact .bl b
  | _, _, _, .int i, r => by obtain ⟨t, rfl⟩ := r; exact .int i t
  | _, _, _, .str x, r => by obtain ⟨t, rfl⟩ := r; exact .str x t
  | _, _, _, .lst n e t, r => by
    cases r
    obtain ⟨_, its, m, rv, q⟩ := I.hok _ _ e
    exact .lst q rfl rfl (by simpa using Dats.rds I t rv)
  | _, _, _, .tup n e t, r => by
    cases r
    obtain ⟨_, its, rv, o, q, c, m, dt⟩ := I.hok _ _ e
    exact .tup q c dt (by simpa using Dats.rds I t rv)
  | _, _, _, .dct (ks := ks) (ds := ds) n e t, r => by
    cases r
    obtain ⟨_, ns, vs, kv, o, es, ep, q, ex, dt, _, pr, _⟩ := I.hok _ _ e
    have hl : ks.length = ds.length := by have := t.length; rwa [List.length_map] at this
    refine .dct q ex.1 dt ns ?_ ?_
    · rw [List.map_fst_zip (by rw [List.length_map]; omega)]
      exact rds_keys kv pr
    · rw [List.map_snd_zip (by rw [List.length_map]; omega)]
      exact Dats.rds I t (vals_of_pairs kv pr)
theorem Dats.rds (I : Inv X pins σ H s) : ∀ {vs : List V} {ds : List PyData} {us : List Value}, Dats Z H vs ds → Vals vs us → RdsS s.heap us ds
  | _, _, _, .nil, .nil => .nil
  | _, _, _, .cons h t, .cons r rs => .cons (Dat.rds I h r) (Dats.rds I t rs)
end
/-- repr(x) of data -/
def rRepr : List V → Hp → VK → Prop := fun xs H Q => ∃ (Z : Addr → Prop) (v : V) (d : PyData), xs = [v] ∧ Dat Z H v d ∧ d.showable = true ∧ d.shown.length ≤ sizeLine ∧ d.depth ≤ 60 ∧ Q (.str d.shown) H
theorem call_reprD {k : Nat} (gd : X.A.guards = some []) (hr : Room k X.A) : CallR X (.builtin "repr") rRepr := by
  intro pins s σ H xs us Q I r h
  obtain ⟨Z, v, d, rfl, dv, sh, sz, dp, q⟩ := h
  obtain ⟨u, rfl, rv⟩ := vals1 r
  exact (dv.rds I rv).call_repr sh sz gd (by have := hr.un; omega) fun h' t1 t2 k => ⟨.str d.shown, H, I.kept k, ⟨t1, rfl⟩, q⟩
/-! ### data, and the other words about values -/
/-- the type of data -/
def tyD : PyData → String
  | .none => "NoneType"
  | .bool _ => "bool"
  | .int _ => "int"
  | .str _ => "str"
  | .list _ => "list"
  | .tuple _ => "tuple"
  | .dict _ => "dict"
theorem Dat.ty {K : PySem.W.Frag} {v : V} {d : PyData} (h : Dat Z H v d) : TyX K H v (.type (tyD d)) := by
  cases h with
  | non => exact .base .non
  | bl b => exact .base (.bl b)
  | int i => exact .base (.int i)
  | str x => exact .base (.str x)
  | lst n e t => exact .base (.lst e)
  | tup n e t => exact .base (.tup e)
  | dct n e t => exact .base (.dK e)
mutual
theorem Dat.dp {K : PySem.W.Frag} : ∀ {v : V} {d : PyData}, Dat Z H v d → d.canLay0 = true → Dp K H v d
  | _, _, .non, _ => .non
  | _, _, .bl b, _ => .bl b
  | _, _, .int i, _ => .int i
  | _, _, .str x, _ => .str x
  | _, _, .lst n e t, c => .lst (SqL.of e) (Dats.dp t c)
  | _, _, .tup n e t, c => .tup (SqT.of e) (Dats.dp t c)
  | _, _, .dct n e t, c => by simp [PyData.canLay0] at c
theorem Dats.dp {K : PySem.W.Frag} : ∀ {vs : List V} {ds : List PyData}, Dats Z H vs ds → PyData.canLayAll0 ds = true → DpAll K H vs ds
  | _, _, .nil, _ => .nil
  | _, _, .cons (d := d) (ds := ds) h t, c => by
    have c' : (d.canLay0 && PyData.canLayAll0 ds) = true := c
    rw [Bool.and_eq_true] at c'
    exact .cons (Dat.dp h c'.1) (Dats.dp t c'.2)
end
end
end Hv

namespace Hv
open PySem PySem.W PySem.Calls PySem.Spec PyProof.Rows
open Builtin Builtin.ObjectAttr
/-! ### own error classes: __init__(self, f, ..): super().__init__("..."); self.f = f; .. -/
section
variable {prog : Program} {w : World} {A : Around} {E : Value → Shared → Prop} {R : Result → Shared → Prop} {hp : Heap} {g : Array GenState} {d : Drawn} {t : Nat} {os : OsState} {K : Frag} {B : String} {bmB : List Value}
theorem taker_none {C : Addr} {name : Str} (nf : findIn K (.ref C) name = some none) : takerIn K C name = some none := by
  unfold takerIn
  rw [nf]
  rfl
/-- self.name = v, no dict yet -/
theorem exc_store_new (SF : StoreFacts B bmB "object.__setattr__" "object") {name : Str} {tk : Tok} {v : Value} {x C : Addr} {fv : Array Value} (X : K.In hp) (hx : hp.get? x = some { cls := .ref C, data := .fields fv }) (ov : excOver K C bmB = true) (hd : hasDictIn K C = true) (nf : findIn K (.ref C) name = some none)
    (hq : ∀ h' tk' dx, (∀ b o, b ≠ x → hp.get? b = some o → h'.get? b = some o) → hp.objs.size ≤ dx → dx ≠ x → h'.get? x = some { cls := .ref C, dict := some dx, data := .fields fv } →
      h'.Ns1 dx (fun y => if y = name then some v else none) → R (.ok (.ret .none)) ⟨h', g, d, tk', os⟩) :
    codeAny (model prog w) A (.call (.builtin "object.__setattr__") ⟨[.ref x, .str name tk, v], []⟩) R ⟨hp, g, d, t, os⟩ := by
  have I : InstAt hp x { cls := .ref C, data := .fields fv } C none := ⟨hx, rfl, rfl, trivial⟩
  have nx : x ≠ hp.objs.size := Nat.ne_of_lt (Heap.lt_size hx)
  refine osa_openX (s := ⟨hp, g, d, t, os⟩) SF X I ov (taker_none nf) fun b => ?_
  obtain ⟨cd, hc, hh⟩ := any_some hd
  have lc : Looks (model prog w) hp (classData C) cd := looks_clsIn X hc
  obtain ⟨c1, c2, c3, c4, c5, c6, c7, c8, c9, c10, c11⟩ := cd
  dsimp only at hh
  subst hh
  show wpAny _ _ (storeInOwnDict (.ref x) (.ref C) (.str name tk) name v b) _ _ _
  unfold storeInOwnDict ownDictForStores
  repeat (first | with_reducible refine HandSPX.store_in_new ?_ ?_ | with_reducible refine wpAny_loadPart_at hx ?_ | with_reducible refine lc.at ?_ | wp_step)
  · exact ⟨_, #[], _, (Heap.get?_update_ne _ _ _ _ nx.symm).trans (Heap.get?_push_at rfl rfl), rfl, fun e he => absurd he (by simp), fun _ => rfl⟩
  · intro h' tk' hn' sb
    have hx1 : (hp.push { cls := .type "dict", data := .dict #[] }).get? x = some { cls := .ref C, data := .fields fv } := Heap.get?_push_of_some _ hx
    refine hq h' tk' hp.objs.size (fun b o hb ho => ?_) (Nat.le_refl _) nx.symm ((sb.2 x nx).trans (Heap.get?_update_self _ hx1 rfl)) hn'
    exact (sb.2 b (Nat.ne_of_lt (Heap.lt_size ho))).trans ((Heap.get?_update_ne _ _ _ _ hb).trans (Heap.get?_push_of_some _ ho))
/-- self.name = v, into the dict that is there -/
theorem exc_store_old (SF : StoreFacts B bmB "object.__setattr__" "object") {name : Str} {tk : Tok} {v : Value} {x C dx : Addr} {fv : Array Value} {m0 : Str → Option Value} {nl : List Str} (X : K.In hp) (hx : hp.get? x = some { cls := .ref C, dict := some dx, data := .fields fv })
    (hns : hp.Ns1 dx m0) (hw : Within m0 nl) (hz : nl.length ≤ 1000) (ov : excOver K C bmB = true) (hd : hasDictIn K C = true) (nf : findIn K (.ref C) name = some none)
    (hq : ∀ h' tk', Heap.SameBut dx hp h' → h'.Ns1 dx (fun y => if y = name then some v else m0 y) → R (.ok (.ret .none)) ⟨h', g, d, tk', os⟩) :
    codeAny (model prog w) A (.call (.builtin "object.__setattr__") ⟨[.ref x, .str name tk, v], []⟩) R ⟨hp, g, d, t, os⟩ := by
  obtain ⟨oD, esD, epD, hoD, hdD, _⟩ := hns.count hw
  have I : InstAt hp x { cls := .ref C, dict := some dx, data := .fields fv } C (some oD) := ⟨hx, rfl, rfl, hoD⟩
  refine osa_openX (s := ⟨hp, g, d, t, os⟩) SF X I ov (taker_none nf) fun b => ?_
  obtain ⟨cd, hc, hh⟩ := any_some hd
  have lc : Looks (model prog w) hp (classData C) cd := looks_clsIn X hc
  obtain ⟨c1, c2, c3, c4, c5, c6, c7, c8, c9, c10, c11⟩ := cd
  dsimp only at hh
  subst hh
  show wpAny _ _ (storeInOwnDict (.ref x) (.ref C) (.str name tk) name v b) _ _ _
  unfold storeInOwnDict ownDictForStores
  repeat (first | with_reducible refine ESX.store_in_old hns hw hz ?_ | with_reducible refine wpAny_loadPart_at hx ?_ | with_reducible refine lc.at ?_ | wp_step)
  intro h' tk' hn' sb
  exact hq h' tk' sb hn'
end

/-- the assignments self.f = f, one for each name -/
def Asgs : List Str → List Stmt → Prop
  | [], sts => sts = []
  | f :: fs, sts => ∃ q1 q2 q3 q4 r, sts = .Assign [.Attribute (.Name "self" q1) f q2] (.Name f q3) q4 :: r ∧ Asgs fs r
/-- the fields by name, as they are stored -/
def fieldsOf : List Str → List Value → (Str → Option Value) → Str → Option Value
  | f :: fs, v :: vs, m => fieldsOf fs vs fun y => if y = f then some v else m y
  | _, _, m => m
section
variable {prog : Program} {w : World} {A : Around} {E : Value → Shared → Prop} {K : Frag} {B : String} {bmB : List Value} {env : Env} {m : Str → Option Value} {x C : Addr}
theorem kept_in {h h' : Heap} {b0 : Addr} (X : K.In h) (no : K.lookup b0 = none) (k : ∀ b o, b ≠ b0 → h.get? b = some o → h'.get? b = some o) : K.In h' := fun a o e =>
  k a o (fun z => by rw [z, no] at e; cases e) (X a o e)
theorem ns_kept {h h' : Heap} {L b0 : Addr} {m : Str → Option Value} (n : h.Ns L m) (ne : L ≠ b0) (k : ∀ b o, b ≠ b0 → h.get? b = some o → h'.get? b = some o) : h'.Ns L m := by
  obtain ⟨o, es, ep, e, r⟩ := n
  exact ⟨o, es, ep, k L o ne e, r⟩
theorem not_in_new {h : Heap} {b0 : Addr} (X : K.In h) (e : h.objs.size ≤ b0) : K.lookup b0 = none := by
  cases q : K.lookup b0 with
  | none => rfl
  | some o => exact absurd (Nat.lt_of_lt_of_le (Heap.lt_size (X _ _ q)) e) (Nat.lt_irrefl _)
/-- the assignments behind the first one -/
theorem asgs_old (SF : StoreFacts B bmB "object.__setattr__" "object") (ov : excOver K C bmB = true) (hd : hasDictIn K C = true) (sa : findIn K (.ref C) "__setattr__" = some (some (.builtin "object.__setattr__")))
    (kd : env.scope.kind = .function) (lself : env.kindOf "self" = some .local) (mself : m "self" = some (.ref x)) {dx : Addr} {fv : Array Value} (nxd : x ≠ dx) (nK : K.lookup dx = none) (nL : env.locals ≠ dx) :
    ∀ (fs : List Str) (sts : List Stmt) (vs : List Value) (s : Shared) (m0 : Str → Option Value) (nl : List Str) (Q : Flow → Shared → Prop), Asgs fs sts → fs.length = vs.length → nl.length + fs.length ≤ 1000 →
      (∀ f ∈ fs, env.kindOf f = some .local ∧ (f == ("__debug__" : Str)) = false ∧ findIn K (.ref C) f = some none) → (∀ (i : Nat) (f : Str), fs[i]? = some f → m f = vs[i]?) →
      K.In s.heap → s.heap.Ns env.locals m → s.heap.get? x = some { cls := .ref C, dict := some dx, data := .fields fv } → s.heap.Ns1 dx m0 → Within m0 nl →
      (∀ h' tk, Heap.SameBut dx s.heap h' → h'.Ns1 dx (fieldsOf fs vs m0) → Q .next { s with heap := h', toks := tk }) → wpAny (model prog w) A (execs sts env) Q E s
  | [], sts, vs, s, m0, nl, Q, a, hl, hz, hf, hm, X, hn, hx, hns, hw, hq => by
    have e : sts = [] := a
    subst e
    exact wpAny_execs_nil (hq s.heap s.toks ⟨rfl, fun _ _ => rfl⟩ hns)
  | f :: fs, sts, [], s, m0, nl, Q, a, hl, hz, hf, hm, X, hn, hx, hns, hw, hq => by simp at hl
  | f :: fs, sts, v :: vs, s, m0, nl, Q, a, hl, hz, hf, hm, X, hn, hx, hns, hw, hq => by
    obtain ⟨q1, q2, q3, q4, r, e, a'⟩ := a
    subst e
    obtain ⟨lf, df, nf⟩ := hf f List.mem_cons_self
    have mv : m f = some v := hm 0 f rfl
    refine wpAny_execs_cons (plainObj_wpAny_Assign_Attribute (wpAny_Name (wpAny_loadName_local kd lf hn mv (wpAny_Name (wpAny_loadName_local kd lself hn mself ?_))) df))
    obtain ⟨hp, g, d, t, os⟩ := s
    obtain ⟨oD, esD, epD, hoD, hdD, _⟩ := hns.count hw
    refine set_plain X (ox := { cls := .ref C, dict := some dx, data := .fields fv }) (od := some oD) ⟨hx, rfl, rfl, hoD⟩ sa ?_
    refine exc_store_old SF X hx hns hw (by simp at hz; omega) ov hd nf fun h' tk sb hn' => ?_
    show wpAny _ _ (execs r env) _ _ _
    have k : ∀ b o, b ≠ dx → hp.get? b = some o → h'.get? b = some o := fun b o hb e => (sb.2 b hb).trans e
    refine asgs_old SF ov hd sa kd lself mself nxd nK nL fs r vs ⟨h', g, d, tk, os⟩ _ (f :: nl) Q a' (by simpa using hl) (by simp at hz ⊢; omega) (fun y hy => hf y (List.mem_cons_of_mem _ hy)) (fun i y e => hm (i + 1) y (by simpa using e))
      (kept_in X nK k) (ns_kept hn nL k) (k _ _ nxd hx) hn' (Within.cons f v hw) fun h2 tk2 sb2 hn2 => hq h2 tk2 ⟨sb2.1.trans sb.1, fun b hb => (sb2.2 b hb).trans (sb.2 b hb)⟩ hn2
end
end Hv

namespace Hv
open PySem PySem.W PySem.Calls PySem.Spec PyProof.Rows
open Builtin Builtin.ObjectAttr
/-- the scope of such an __init__, by its names -/
abbrev scI (nms : List (Str × NameKind)) : Scope := { kind := .function, names := nms, isGenerator := false, isCoroutine := false, more := [] }
/-- what the written part says of the error class x at C, over the built-in class B, whose __init__ (the statement st) takes fs -/
structure ErrC (prog : Program) (K : Frag) (mg : Str → Option Value) (x : Str) (C : Addr) (B newId initId : String) (bmB : List Value) (fs : List Str) : Prop where
  gC : mg x = some (.ref C)
  kC : keepIn K (.ref C) = true
  iq : excInitIn K C bmB newId = true
  ov : excOver K C bmB = true
  hd : hasDictIn K C = true
  sa : findIn K (.ref C) "__setattr__" = some (some (.builtin "object.__setattr__"))
  ga : findIn K (.ref C) "__getattribute__" = some (some (.builtin "BaseException.__getattribute__"))
  gg : findIn K (.ref C) "__getattr__" = some none
  exC : subIn K (.ref C) (.type "BaseException") = some true
  tyC : typeIn K (.ref C) = some (.type "type")
  nf : ∀ f ∈ fs, findIn K (.ref C) f = some none
  subB : subIn K (.ref C) (.type B) = some true
  sup : ks_superIn K C C "__init__" = some (some (.builtin initId))
  mroC : mroIn K C (.ref C) = some true
  opq : nsIn K cStatics "thirdparty.any" = some none
  sup0 : mg "super" = none
  top : (prog.main.scope.names.lookup ("super" : Str)).isSome = false
  init : ∃ (fI : Addr) (ql : Str) (pr : Arguments) (bd rest : List Stmt) (nms : List (Str × NameKind)) (oc kV doc pm ct : Value) (od an cdd cld : Option Addr) (osl ccs csl : Array (Option Value)) (cda cc : Addr) (ccl cl : Value) (vs : Array Value) (file txt : Str) (tf : Tok) (ar : Arg) (j : Nat) (p0 p1 p2 p3 p4 p5 : Pos),
    findIn K (.ref C) "__init__" = some (some (.ref fI)) ∧ typeIn K (.ref fI) = some (.type "function") ∧
    K.lookup fI = some ⟨oc, od, .func (ksFn "__init__" ql pr bd (scI nms) .none kV doc pm an (.ref cda) ct cc), osl⟩ ∧ codeIn K (.ref cda) ql = true ∧
    K.lookup cda = some ⟨ccl, cdd, .fields vs, ccs⟩ ∧ vs[2]? = some (.str file tf) ∧ ((prog.main.file : Str) == file) = true ∧
    K.lookup cc = some ⟨cl, cld, .cell (some (.ref C)), csl⟩ ∧
    (∀ (y : Value) (us : List Value), us.length = fs.length → bindArgs (ksFn "__init__" ql pr bd (scI nms) .none kV doc pm an (.ref cda) ct cc) ⟨y :: us, []⟩ = pure ((("self" : Str), y) :: fs.zip us)) ∧
    (pr.posonlyargs ++ pr.args).head? = some ar ∧ ar.arg = "self" ∧
    bd = .Expr (.Call (.Attribute (.Call (.Name "super" p0) [] [] p1) "__init__" p2) [.Constant (.str txt) j p3] [] p4) p5 :: rest ∧ Asgs fs rest ∧
    nms.lookup ("super" : Str) = some .globalImplicit ∧ nms.lookup ("__class__" : Str) = some .free ∧ nms.lookup ("self" : Str) = some .local ∧
    (∀ f ∈ fs, nms.lookup f = some .local ∧ (f == ("__debug__" : Str)) = false ∧ f ≠ "self") ∧ (∀ y ∈ nms, y.2 ≠ .cell) ∧ fs.Nodup ∧ fs.length ≤ 100 ∧ (p2.endLine == p4.line) = true
/-- what __init__ leaves of a fresh exception at x -/
structure InitEnd (h h' : Heap) (x C dx t1 : Addr) (fs : List Str) (vs : List Value) : Prop where
  keep : ∀ b o, b ≠ x → h.get? b = some o → h'.get? b = some o
  obj : h'.get? x = some { cls := .ref C, dict := some dx, data := .fields #[.ref t1, .none, .none, .none, .bool false, .none] }
  dbig : h.objs.size ≤ dx
  dne : dx ≠ x
  ns : h'.Ns1 dx (fieldsOf fs vs fun _ => none)
theorem lookup_zip : ∀ {fs : List Str} {vs : List Value} {i : Nat} {f : Str}, fs.Nodup → fs.length = vs.length → fs[i]? = some f → (fs.zip vs).reverse.lookup f = vs[i]?
  | [], _, _, _, _, _, h => by simp at h
  | f0 :: fs, [], _, _, _, hl, _ => by simp at hl
  | f0 :: fs, v :: vs, 0, f, nd, hl, h => by
    have e : f0 = f := by simpa using h
    subst e
    have hn : f0 ∉ fs := (List.nodup_cons.mp nd).1
    rw [List.zip_cons_cons, List.reverse_cons, List.lookup_append]
    have z : (fs.zip vs).reverse.lookup f0 = none := by
      rw [List.lookup_eq_none_iff]
      intro p hp
      have := (List.of_mem_zip (List.mem_reverse.mp hp)).1
      simp only [beq_eq_false_iff_ne, bne_iff_ne, ne_eq, Bool.not_eq_true, beq_eq_false_iff_ne]
      intro e
      exact hn (e ▸ this)
    rw [z]
    simp
  | f0 :: fs, v :: vs, i + 1, f, nd, hl, h => by
    have hf : fs[i]? = some f := by simpa using h
    have ih := lookup_zip (fs := fs) (vs := vs) (i := i) (f := f) (List.nodup_cons.mp nd).2 (by simpa using hl) hf
    have hi : i < vs.length := by have := (List.getElem?_eq_some_iff.mp hf).1; simp at hl; omega
    rw [List.zip_cons_cons, List.reverse_cons, List.lookup_append, ih]
    simp [List.getElem?_eq_getElem hi]

section
variable {prog : Program} {w : World} {A : Around} {E : Value → Shared → Prop} {R : Result → Shared → Prop} {K : Frag} {mg : Str → Option Value} {nm : Str} {C : Addr} {B newId initId : String} {bmB : List Value}
theorem fieldsOf_cons {f : Str} {fs : List Str} {v : Value} {vs : List Value} {m : Str → Option Value} : fieldsOf (f :: fs) (v :: vs) m = fieldsOf fs vs fun y => if y = f then some v else m y := rfl
theorem err_init {f0 : Str} {fr : List Str} (T : ErrC prog K mg nm C B newId initId bmB (f0 :: fr)) (FB : ExcBaseFacts B newId initId bmB) (KF : KxsFacts B initId) (SF : StoreFacts B bmB "object.__setattr__" "object") {s : Shared} {x t0 fI : Addr} {vs : List Value}
    (fi : findIn K (.ref C) "__init__" = some (some (.ref fI))) (X : K.In s.heap) (gl : s.heap.Ns mainGlobals mg) {mb : Str → Option Value} (bl : s.heap.Ns builtinsNs mb) (bb : ∀ y : Str, y ≠ "__name__" → mb y = bootBuiltins y) (lim : s.heap.NoLimit)
    (hx : s.heap.get? x = some (HandSPX.excO C t0)) (nx : K.lookup x = none) (room : A.depth < recursionLimit) (hl : (f0 :: fr).length = vs.length)
    (hq : ∀ h' tk dx t1, InitEnd s.heap h' x C dx t1 (f0 :: fr) vs → R (.ok (.ret .none)) { s with heap := h', toks := tk }) :
    codeAny (model prog w) A (.call (.ref fI) ⟨.ref x :: vs, []⟩) R s := by
  obtain ⟨fI', ql, pr, bd, rest, nms, oc, kV, doc, pm, ct, od, an, cdd, cld, osl, ccs, csl, cda, cc, ccl, cl, cvs, file, txt, tf, ar, j, p0, p1, p2, p3, p4, p5, a1, a2, a3, a4, a5, a6, a7, a8, a9, a10, a11, a12, a13, s4, s5, s6, s7, s8, s9, s10, s11⟩ := T.init
  have efi : fI = fI' := by rw [fi] at a1; injection a1 with q; injection q with q; injection q
  subst efi
  subst a12
  obtain ⟨v0, vr, rfl⟩ : ∃ v0 vr, vs = v0 :: vr := by
    cases vs with
    | nil => simp at hl
    | cons v0 vr => exact ⟨v0, vr, rfl⟩
  refine ks_codeAny_call_defAt (fd := ksFn "__init__" ql pr (.Expr (.Call (.Attribute (.Call (.Name "super" p0) [] [] p1) "__init__" p2) [.Constant (.str txt) j p3] [] p4) p5 :: rest) (scI nms) .none kV doc pm an (.ref cda) ct cc) (binds := (("self" : Str), Value.ref x) :: (f0 :: fr).zip (v0 :: vr))
    room (X _ _ a3) rfl lim (codeRec_of X a4) rfl (.of_eq (a9 _ _ hl.symm)) s8 ?_ (fun h₁ hns k₁ => ?_)
  · intro y hy
    rcases List.mem_cons.mp hy with rfl | hy
    · exact s6
    · exact (s7 _ (List.of_mem_zip hy).1).1
  obtain ⟨hp, g, d, t, os⟩ := s
  have X1 : K.In h₁ := X.keeps k₁
  have hx1 : h₁.get? x = some (HandSPX.excO C t0) := k₁ _ _ hx
  have gl1 : h₁.Ns mainGlobals mg := gl.keeps k₁
  have bl1 : h₁.Ns builtinsNs mb := bl.keeps k₁
  -- the frame
  have mself : ((("self" : Str), Value.ref x) :: (f0 :: fr).zip (v0 :: vr)).reverse.lookup ("self" : Str) = some (Value.ref x) := by
    rw [List.reverse_cons, List.lookup_append]
    have z : ((f0 :: fr).zip (v0 :: vr)).reverse.lookup ("self" : Str) = none := by
      rw [List.lookup_eq_none_iff]
      intro p hp
      have h1 := (s7 _ (List.of_mem_zip (List.mem_reverse.mp hp)).1).2.2
      simp only [beq_eq_false_iff_ne, bne_iff_ne, ne_eq, Bool.not_eq_true]
      exact fun e => h1 e.symm
    rw [z]
    simp
  have mf : ∀ (i : Nat) (f : Str), (f0 :: fr)[i]? = some f → ((("self" : Str), Value.ref x) :: (f0 :: fr).zip (v0 :: vr)).reverse.lookup f = (v0 :: vr)[i]? := by
    intro i f hf
    have hi : i < (v0 :: vr).length := by rw [← hl]; exact (List.getElem?_eq_some_iff.mp hf).1
    rw [List.reverse_cons, List.lookup_append, lookup_zip s9 hl hf, List.getElem?_eq_getElem hi]
    rfl
  obtain ⟨oD, hD1, cdD, hD2, hDc⟩ : ∃ oD, h₁.get? C = some oD ∧ ∃ cd, oD.data = .cls cd ∧ clsIn K C = some cd := by
    obtain ⟨cd, hc, _⟩ := any_some T.hd
    have hc' := hc
    unfold clsIn at hc
    split at hc
    · rename_i c d' cd' sl ho
      cases hc
      exact ⟨_, X1 _ _ ho, _, rfl, hc'⟩
    · cases hc
  have nLx : hp.objs.size ≠ x := Nat.ne_of_gt (Heap.lt_size hx)
  generalize ebn : ((("self" : Str), Value.ref x) :: (f0 :: fr).zip (v0 :: vr)) = bn at hns mself mf ⊢
  generalize emm : (fun y => bn.reverse.lookup y) = mm at hns
  have hmm : ∀ y, mm y = bn.reverse.lookup y := fun y => by rw [← emm]
  generalize eenv : callEnv (ksFn "__init__" ql pr (.Expr (.Call (.Attribute (.Call (.Name "super" p0) [] [] p1) "__init__" p2) [.Constant (.str txt) j p3] [] p4) p5 :: rest) (scI nms) .none kV doc pm an (.ref cda) ct cc) hp.objs.size fI = env
  have e1 : env.scope = scI nms := by rw [← eenv]; rfl
  have e2 : env.locals = hp.objs.size := by rw [← eenv]; rfl
  have e3 : env.func = some fI := by rw [← eenv]; rfl
  have e4 : env.code = .ref cda := by rw [← eenv]; rfl
  have e5 : env.cells = [(("__class__" : Str), cc)] := by rw [← eenv]; rfl
  have e6 : env.globals = mainGlobals := by rw [← eenv]; rfl
  have e7 : env.builtins = builtinsNs := by rw [← eenv]; rfl
  have ek : ∀ y, env.kindOf y = nms.lookup y := fun y => by rw [← eenv]; rfl
  have kd : env.scope.kind = .function := by rw [e1]
  rw [← e2] at hns
  obtain ⟨pl, he⟩ : ∃ pl : Sem Bool, PySem.eval (.Call (.Attribute (.Call (.Name "super" p0) [] [] p1) "__init__" p2) [.Constant (.str txt) j p3] [] p4) env = (do
      let ov ← attributeBase (.Call (.Name "super" p0) [] [] p1) "__init__" env (PySem.eval (.Call (.Name "super" p0) [] [] p1) env)
      standAt p2.atName
      let (f, first) ← holding [ov] (getMethod ov "__init__" pl)
      callWith p4 f first (backTo p4 (starEach [.Constant (.str txt) j p3] env)) []) := by
    refine ⟨(do return (← importBound (.Call (.Name "super" p0) [] [] p1) env).getD true), ?_⟩
    have q : ∀ few : Bool, methodCallPos few (.Call (.Name "super" p0) [] [] p1) env p2 p4 = pure p4 := fun few => by
      unfold methodCallPos
      rw [s11, Bool.or_true, if_pos rfl]
    show (do
      let ov ← attributeBase (.Call (.Name "super" p0) [] [] p1) "__init__" env (PySem.eval (.Call (.Name "super" p0) [] [] p1) env)
      standAt p2.atName
      let (f, first) ← holding [ov] (getMethod ov "__init__" (do return (← importBound (.Call (.Name "super" p0) [] [] p1) env).getD true))
      let cp ← methodCallPos true (.Call (.Name "super" p0) [] [] p1) env p2 p4
      callWith cp f first (backTo p4 (starEach [.Constant (.str txt) j p3] env)) []) = _
    rw [q true]
    rfl
  -- super().__init__(txt)
  refine ks_wpAt_execs_cons (ks_wpAt_Expr_any (ks_wpAt_MethodCall (pl := pl) ?_ he) (by rw [← eenv]; rfl) (by rw [← eenv]; rfl))
  refine ks_wpAt_super_base ((ek _).trans s4) ((ek _).trans s5) (by decide) e3 (X1 _ _ a3) rfl a10 e4 (X1 _ _ a5) rfl a6 a7 T.top ?_
  refine ks_loadName_global kd ((ek _).trans s4) (loadGlobal_builtin (mg := mg) (mb := mb) (by rw [e6]; exact gl1) T.sup0 (by rw [e7]; exact bl1) ((bb _ (by decide +kernel)).trans (by decide +kernel : bootBuiltins "super" = some (.type "super"))) ⟨rfl, ?_⟩)
  refine wpAny_loadName_free (c := cc) kd ((ek _).trans s5) (by rw [e5]; rfl) ⟨_, X1 _ _ a8, rfl⟩ ?_
  refine wpAny_loadName_local (m := mm) (v := .ref x) kd (by rw [a11, ek]; exact s6) hns (by rw [a11, hmm]; exact mself) ?_
  refine ks_wpAny_isType_cls hD1 hD2 ⟨rfl, ?_⟩
  refine ks_wpAny_call_super hD1 hD2 hx1 rfl (fun c e => nomatch e) (looks_mroIn X1 T.mroC) fun h₂ hso k₂ => ?_
  have X2 : K.In h₂ := X1.keeps k₂
  have hx2 : h₂.get? x = some (HandSPX.excO C t0) := k₂ _ _ hx1
  have I2 : InstAt h₂ x (HandSPX.excO C t0) C none := ⟨hx2, rfl, rfl, trivial⟩
  have along : alongIn K "__init__" ((cdD.mro.dropWhile (· != .ref C)).drop 1) = some (some (.builtin initId)) := by
    have q := T.sup
    unfold ks_superIn at q
    rw [hDc] at q
    exact q
  refine kxs_getMethod KF hso (looks_opaque X2 T.opq) (l₀ := cdD.mro) (fun A Q E s k q => wpAny_bind ((looks_clsIn X2 hDc) A _ E s k (wpAny_pure q))) rfl X2 along (I2.type.andThen (looks_subIn X2 T.subB)) (ks_ne X2 I2 hDc) (by decide) ?_
  have k₃ : ∀ b o, h₂.get? b = some o → (h₂.push (kxs_mw initId x)).get? b = some o := fun b o e => Heap.get?_push_of_some _ e
  have hu : (h₂.push (kxs_mw initId x)).get? h₂.objs.size = some (kxs_mw initId x) := Heap.get?_push_at rfl rfl
  have X3 := X2.keeps k₃
  have hx3 : (h₂.push (kxs_mw initId x)).get? x = some (HandSPX.excO C t0) := k₃ _ _ hx2
  show wpAny _ _ (callWith p4 (.ref h₂.objs.size) [] ((false, PySem.eval (.Constant (.str txt) j p3) env) :: []) []) _ _ _
  refine kxs_callWith (i := initId) (x := x) (by rfl) (evalArgs_plain (spliced_cons (wpAny_Constant_str (spliced_nil ⟨hu, ?_⟩))))
  obtain ⟨c1, c2, c3, c4, c5, c6, c7, c8, c9, c10, c11, c12, c13, c14, c15, c16, hCo, hT⟩ := excInit_of X3 T.iq
  refine wpAny_call (codeAny_of_tree ?_)
  show wpAny _ _ (callAny (.ref h₂.objs.size) ⟨[.str txt _], []⟩) _ _ _
  simp only [callAny]
  refine wpAny_bind (wpAny_load hu (KFB.if_so (by rfl) (KFB.if_so (by rfl) ?_)))
  refine wpAny_bind (check_bound_init FB.toExcCallFacts hCo hx3 rfl (wpAny_bind (wpAny_pure (wpAny_pure ⟨plainId_quiet FB.init.plain _, codeAny_builtin FB.initEntry ?_⟩))))
  have n3 : (h₂.push (kxs_mw initId x)).objs.size = h₂.objs.size + 1 := Heap.size_push _ _
  refine exc_init_tree (cls := .ref C) (t0 := t0) (dv := none) (c2 := .none) (c3 := .none) (b4 := .bool false) hx3 (by show 1 ≤ sizeLine; decide) fun h₄ k₄ hx4 ht4 => ?_
  have k14 : ∀ b o, b ≠ x → h₁.get? b = some o → h₄.get? b = some o := fun b o hb e => k₄ b o hb (k₃ b o (k₂ b o e))
  have X4 : K.In h₄ := kept_in X1 nx k14
  have hn4 : h₄.Ns env.locals mm := ns_kept hns (by rw [e2]; exact nLx) k14
  refine wpAt_of_wpAny ?_
  obtain ⟨q1, q2, q3, q4, r, er, ar⟩ := a13
  subst er
  obtain ⟨lf, df, _⟩ := s7 f0 List.mem_cons_self
  refine wpAny_execs_cons (plainObj_wpAny_Assign_Attribute (wpAny_Name (wpAny_loadName_local kd ((ek _).trans lf) hn4 ((hmm _).trans (mf 0 f0 rfl)) (wpAny_Name (wpAny_loadName_local kd ((ek _).trans s6) hn4 ((hmm _).trans mself) ?_))) df) (by rw [← eenv]; rfl))
  refine set_plain X4 (ox := excRec (.ref C) (h₂.push (kxs_mw initId x)).objs.size none .none .none (.bool false)) (od := none) ⟨hx4, rfl, rfl, trivial⟩ T.sa ?_
  refine exc_store_new SF X4 hx4 T.ov T.hd (T.nf f0 List.mem_cons_self) fun h₅ tk₅ dx k₅ dbig dne hx5 hn5 => ?_
  show wpAny _ _ (execs r env) _ _ _
  have k01 : ∀ b o, hp.get? b = some o → h₁.get? b = some o := k₁
  have lt1 : hp.objs.size < h₁.objs.size := by
    obtain ⟨o, _, _, e, _⟩ := hns
    rw [e2] at e
    exact Heap.lt_size e
  have le12 : h₁.objs.size ≤ h₂.objs.size := Nat.le_of_lt (Nat.lt_of_le_of_lt (Nat.le_refl _) (Heap.lt_size hso))
  have lt4 : (h₂.push (kxs_mw initId x)).objs.size < h₄.objs.size := Heap.lt_size ht4
  have big : hp.objs.size < dx := by
    have : h₂.objs.size < h₄.objs.size := by rw [n3] at lt4; exact Nat.lt_of_succ_lt lt4
    exact Nat.lt_of_lt_of_le (Nat.lt_of_lt_of_le lt1 le12) (Nat.le_trans (Nat.le_of_lt this) dbig)
  have nKd : K.lookup dx = none := not_in_new X (Nat.le_of_lt big)
  have X5 : K.In h₅ := kept_in X4 nx k₅
  have hn5L : h₅.Ns env.locals mm := ns_kept hn4 (by rw [e2]; exact nLx) k₅
  refine asgs_old (prog := prog) (w := w) (env := env) (m := mm) (x := x) (C := C) SF T.ov T.hd T.sa kd ((ek _).trans s6) ((hmm _).trans mself) (Ne.symm dne) nKd (by rw [e2]; exact Nat.ne_of_lt big) fr r vr ⟨h₅, g, d, tk₅, os⟩ (fun y => if y = f0 then some v0 else none) [f0] _ ar (by simpa using hl) (by simp at s10 ⊢; omega)
    (fun f hf => ⟨(ek _).trans (s7 f (List.mem_cons_of_mem _ hf)).1, (s7 f (List.mem_cons_of_mem _ hf)).2.1, T.nf f (List.mem_cons_of_mem _ hf)⟩) (fun i f hf => (hmm _).trans (mf (i + 1) f (by simpa using hf))) X5 hn5L hx5 hn5 (Within.cons f0 v0 Within.nil) fun h₆ tk₆ sb hn6 => ?_
  refine hq h₆ tk₆ dx (h₂.push (kxs_mw initId x)).objs.size ⟨fun b o hb e => ?_, (sb.2 x (Ne.symm dne)).trans hx5, Nat.le_of_lt big, dne, hn6⟩
  exact (sb.2 b (Nat.ne_of_lt (Nat.lt_trans (Heap.lt_size e) big))).trans (k₅ b o hb (k14 b o hb (k01 b o e)))
end
end Hv

namespace Hv
open PySem PySem.W PySem.Calls PySem.Spec PyProof.Rows
/-- a made error -/
structure ErrMade (h h' : Heap) (e C d : Addr) (fs : List Str) (vs : List Value) : Prop where
  keep : ∀ b o, h.get? b = some o → h'.get? b = some o
  new : h.objs.size ≤ e
  obj : ∃ t1 : Addr, h'.get? e = some { cls := .ref C, dict := some d, data := .fields #[.ref t1, .none, .none, .none, .bool false, .none] }
  dbig : h.objs.size ≤ d
  dne : d ≠ e
  ns : h'.Ns1 d (fieldsOf fs vs fun _ => none)
section
variable {prog : Program} {w : World} {A : Around} {E : Value → Shared → Prop} {R : Result → Shared → Prop} {K : Frag} {mg : Str → Option Value} {nm : Str} {C : Addr} {B newId initId : String} {bmB : List Value}
theorem err_made {f0 : Str} {fr : List Str} (T : ErrC prog K mg nm C B newId initId bmB (f0 :: fr)) (FB : ExcBaseFacts B newId initId bmB) (KF : KxsFacts B initId) (SF : StoreFacts B bmB "object.__setattr__" "object") {s : Shared} {vs : List Value}
    (X : K.In s.heap) (gl : s.heap.Ns mainGlobals mg) {mb : Str → Option Value} (bl : s.heap.Ns builtinsNs mb) (bb : ∀ y : Str, y ≠ "__name__" → mb y = bootBuiltins y) (lim : s.heap.NoLimit) (room : A.depth + 1 < recursionLimit) (hl : (f0 :: fr).length = vs.length)
    (hq : ∀ h' tk e d, ErrMade s.heap h' e C d (f0 :: fr) vs → R (.ok (.ret (.ref e))) { s with heap := h', toks := tk }) : codeAny (model prog w) A (.call (.ref C) ⟨vs, []⟩) R s := by
  obtain ⟨hp, g, d, t, os⟩ := s
  obtain ⟨c1, c2, c3, c4, c5, c6, c7, c8, c9, c10, c11, c12, c13, c14, c15, c16, hCo, hT⟩ := excInit_of X T.iq
  obtain ⟨fI, hfI, tfI, sz⟩ : ∃ fI, findIn K (.ref C) "__init__" = some (some (.ref fI)) ∧ typeIn K (.ref fI) = some (.type "function") ∧ (f0 :: fr).length ≤ 100 := by
    obtain ⟨fI, ql, pr, bd, rest, nms, oc, kV, doc, pm, ct, od, an, cdd, cld, osl, ccs, csl, cda, cc, ccl, cl, cvs, file, txt, tf, ar, j, p0, p1, p2, p3, p4, p5, a1, a2, a3, a4, a5, a6, a7, a8, a9, a10, a11, a12, a13, s4, s5, s6, s7, s8, s9, s10, s11⟩ := T.init
    exact ⟨fI, a1, a2, s10⟩
  have kk : ∀ b o, hp.get? b = some o → ((hp.push (kdv_tup vs)).push (HandSPX.excO C hp.objs.size)).get? b = some o := fun b o e => Heap.get?_push_of_some _ (Heap.get?_push_of_some _ e)
  have here : ((hp.push (kdv_tup vs)).push (HandSPX.excO C hp.objs.size)).get? (hp.objs.size + 1) = some (HandSPX.excO C hp.objs.size) := by heap_get
  have size2 : ((hp.push (kdv_tup vs)).push (HandSPX.excO C hp.objs.size)).objs.size = hp.objs.size + 1 + 1 := by rw [Heap.size_push, Heap.size_push]
  refine HandSPX.call_own FB hT hCo (looks_findIn X hfI) (fun self => bind_fn X self tfI) (by rw [← hl, sizeLine_eq]; omega) ?_
  refine err_init (s := ⟨(hp.push (kdv_tup vs)).push (HandSPX.excO C hp.objs.size), g, d, t, os⟩) T FB KF SF hfI (X.keeps kk) (gl.keeps kk) (bl.keeps kk) bb (lim.keeps kk) here (not_in_new X (Nat.le_succ _)) room hl fun h' tk dx t1 ie => ?_
  refine ⟨rfl, hq h' tk (hp.objs.size + 1) dx ⟨fun b o e => ie.keep b o (Nat.ne_of_lt (Nat.lt_succ_of_lt (Heap.lt_size e))) (kk b o e), Nat.le_succ _, ⟨t1, ie.obj⟩, ?_, ie.dne, ie.ns⟩⟩
  have := ie.dbig
  rw [size2] at this
  exact Nat.le_trans (Nat.le_trans (Nat.le_succ _) (Nat.le_succ _)) this
end
end Hv
namespace Hv
open PySem PySem.Spec PyProof.Rows L2
/-- the fields of an error, tracked -/
theorem rel_fields : ∀ {fs : List Str} {vs : List V} {us : List Value} {acc : List (Str × V)} {m : Str → Option Value}, Vals vs us → fs.length = vs.length → fs.Nodup → (∀ f ∈ fs, acc.lookup f = none) → (∀ f, RelO (acc.lookup f) (m f)) → ∀ f, RelO ((acc ++ fs.zip vs).lookup f) (fieldsOf fs us m f)
  | [], vs, us, acc, m, _, hl, _, _, h, f => by simpa [fieldsOf] using h f
  | f0 :: fs, [], us, acc, m, _, hl, _, _, h, f => by simp at hl
  | f0 :: fs, v :: vs, _, acc, m, .cons (b := u) r t, hl, nd, na, h, f => by
    have e : acc ++ (f0 :: fs).zip (v :: vs) = (acc ++ [(f0, v)]) ++ fs.zip vs := by simp
    rw [e, fieldsOf_cons]
    refine rel_fields t (by simpa using hl) (List.nodup_cons.mp nd).2 (fun y hy => ?_) (fun y => ?_) f
    · rw [List.lookup_append, na y (List.mem_cons_of_mem _ hy)]
      have ne : y ≠ f0 := fun z => (List.nodup_cons.mp nd).1 (z ▸ hy)
      have : (y == f0) = false := by simpa using ne
      simp [List.lookup, this]
    · rw [List.lookup_append]
      by_cases q : y = f0
      · subst q
        rw [na y List.mem_cons_self, if_pos rfl]
        simp [List.lookup]
        exact r
      · have : (y == f0) = false := by simpa using q
        rw [if_neg q]
        simp [List.lookup, this]
        exact h y
section
variable {X : Cx} {nm : Str} {C : Addr} {B newId initId : String} {bmB : List Value} {f0 : Str} {fr : List Str}
/-- X(e, ..), to be raised -/
def tMkErr (C : Addr) (fs : List Str) (ta : TA) : L2.St → Hp → XK → Prop := fun σ H Q => ta σ H fun vs H1 => vs.length = fs.length ∧ ∀ d, H1 d = none → Q (.ref C) (some d) (upd H1 d (.xd (fs.zip vs)))
theorem pmk_err {a : Expr} {as : List Expr} {ta : TA} {p pos : Pos} {k : Nat} (T : ErrC X.prog X.K X.mg nm C B newId initId bmB (f0 :: fr)) (FB : ExcBaseFacts B newId initId bmB) (KF : PySem.W.KxsFacts B initId) (SF : StoreFacts B bmB "object.__setattr__" "object") (hr : Room k X.A) (nd : (f0 :: fr).Nodup)
    (ha : PA X (a :: as) ta) (hg : Gl X nm := by rfl) (hdb : (nm == ("__debug__" : Str)) = false := by decide)
    (he : starEach (a :: as) X.env = (false, eval a X.env) :: starEach as X.env := by rfl) (hpl : (backTo pos (starEach as X.env)).any (·.1) = false := by rfl) :
    PMk X (.Call (.Name nm p) (a :: as) [] pos) (tMkErr C (f0 :: fr) ta) := by
  intro pins s σ H Q I want
  refine wpAny_Call_Name_kw (ld_glob I hg T.gC ?_ hdb)
  refine PySem.W.callWith_K (h₀ := X.base) I.ok.mod.kin T.kC (thn (ha.run pos pins s σ H _ I want) fun us s1 hh => ?_) he hpl
  obtain ⟨vs, H1, J, rv, hl, q⟩ := hh
  refine ⟨J.kIn, ?_⟩
  have lim := J.nolimit
  obtain ⟨mb, bl, bb⟩ := J.ok.mod.blt
  have gl1 := J.ok.mod.glob.keeps J.bk
  have bl1 := bl.keeps J.bk
  obtain ⟨hp, g, dr, tk, os⟩ := s1
  refine wpAny_call (err_made T FB KF SF J.kIn gl1 bl1 bb lim (by have := hr.dp; omega) (by rw [List.nil_append, ← rv.length]; exact hl.symm) fun h' tk' e d M => ?_)
  show MkP X pins σ Q (.ref e) ⟨h', g, dr, tk', os⟩
  obtain ⟨t1, hoe⟩ := M.obj
  obtain ⟨G, g1, g2⟩ := restrict h' fun b => decide (b ≠ e)
  have gk : ∀ b, b ≠ e → G.get? b = h'.get? b := fun b hb => g1 b (decide_eq_true hb)
  have ge : G.get? e = none := g2 e (by simp)
  have old : ∀ b o, hp.get? b = some o → G.get? b = some o := fun b o z => (gk b (Nat.ne_of_lt (Nat.lt_of_lt_of_le (Heap.lt_size z) M.new))).trans (M.keep b o z)
  have ob : ObjOk X.prog X.w (upd H1 d (.xd ((f0 :: fr).zip vs))) G d (.xd ((f0 :: fr).zip vs)) :=
    ⟨_, M.ns.at (fun o z => (gk d M.dne).trans z), fun f => by simpa using rel_fields (acc := []) (m := fun _ => none) rv hl.symm nd (fun _ _ => rfl) (fun _ => trivial) f⟩
  have J2 : Inv X pins σ (upd H1 d (.xd ((f0 :: fr).zip vs))) ⟨G, g, dr, tk', os⟩ := J.laid (t' := tk') old M.dbig ob
  refine ⟨e, _, _, ⟨G, g, dr, tk', os⟩, _, .ref C, some d, rfl, J2, fun b o z => ?_, ge, hoe, ⟨rfl, rfl⟩, rfl, rfl, ?_, rfl, J.bare, raises_own T.exC T.tyC, q d (J.hok.fresh M.dbig)⟩
  · have nb : b ≠ e := fun y => by rw [y, ge] at z; cases z
    exact (gk b nb).symm.trans z
  · rw [upd_ne (Ne.symm M.dne)]
    exact J.hok.fresh M.new
/-- raise X(e, ..) -/
theorem ps_raiseErr {a : Expr} {as : List Expr} {ta : TA} {W : WX} {p pos pos2 : Pos} {k : Nat} (hc : X.calm = true) (T : ErrC X.prog X.K X.mg nm C B newId initId bmB (f0 :: fr)) (FB : ExcBaseFacts B newId initId bmB) (KF : PySem.W.KxsFacts B initId) (SF : StoreFacts B bmB "object.__setattr__" "object") (hr : Room k X.A) (nd : (f0 :: fr).Nodup) (tk : Takes X W)
    (ha : PA X (a :: as) ta) (hg : Gl X nm := by rfl) (hdb : (nm == ("__debug__" : Str)) = false := by decide)
    (he : starEach (a :: as) X.env = (false, eval a X.env) :: starEach as X.env := by rfl) (hpl : (backTo pos (starEach as X.env)).any (·.1) = false := by rfl) :
    PS X (.Raise (some (.Call (.Name nm p) (a :: as) [] pos)) none pos2) (fun _ σ H => tMkErr C (f0 :: fr) ta σ H fun cls d H' => W cls d σ H') := ps_raise hc tk (pmk_err T FB KF SF hr nd ha hg hdb he hpl)
end
end Hv

namespace Hv
open PySem PySem.Spec PyProof.Rows L2
/-! ### how large data is -/
mutual
/-- its integers and texts can be shown -/
def okD : PyData → Bool
  | .none => true
  | .bool _ => true
  | .int i => decide (i.natAbs.log2 < 1920)
  | .str x => decide (x.length ≤ 100000) && x.cps.toList.all (fun c => decide (c < 256))
  | .list ds => oksD ds
  | .tuple ds => oksD ds
  | .dict kvs => okvD kvs
def oksD : List PyData → Bool
  | [] => true
  | d :: ds => okD d && oksD ds
def okvD : List (PyData × PyData) → Bool
  | [] => true
  | (k, v) :: r => okD k && okD v && okvD r
end
mutual
/-- at least so many signs are enough to show it -/
def big : PyData → Nat
  | .none => 4
  | .bool _ => 5
  | .int _ => 1921
  | .str x => 10 * x.length + 2
  | .list ds => bigs ds + 3
  | .tuple ds => bigs ds + 3
  | .dict kvs => bigv kvs + 3
def bigs : List PyData → Nat
  | [] => 0
  | d :: ds => big d + 2 + bigs ds
def bigv : List (PyData × PyData) → Nat
  | [] => 0
  | (k, v) :: r => big k + big v + 4 + bigv r
end
mutual
theorem okD_showable : ∀ d : PyData, okD d = true → d.showable = true
  | .none, _ => rfl
  | .bool _, _ => rfl
  | .int i, h => h
  | .str x, _ => rfl
  | .list ds, h => oksD_showable ds h
  | .tuple ds, h => oksD_showable ds h
  | .dict kvs, h => okvD_showable kvs h
theorem oksD_showable : ∀ ds : List PyData, oksD ds = true → PyData.showableAll ds = true
  | [], _ => rfl
  | d :: ds, h => by
    have h' := Bool.and_eq_true_iff.mp (show (okD d && oksD ds) = true from h)
    show (d.showable && PyData.showableAll ds) = true
    rw [okD_showable d h'.1, oksD_showable ds h'.2] <;> rfl
theorem okvD_showable : ∀ kvs : List (PyData × PyData), okvD kvs = true → PyData.showableKv kvs = true
  | [], _ => rfl
  | (k, v) :: r, h => by
    have h' := Bool.and_eq_true_iff.mp (show (okD k && okD v && okvD r) = true from h)
    have h2 := Bool.and_eq_true_iff.mp h'.1
    show (k.showable && v.showable && PyData.showableKv r) = true
    rw [okD_showable k h2.1, okD_showable v h2.2, okvD_showable r h'.2] <;> rfl
end
theorem len_app (a b : Str) : (a ++ b).length = a.length + b.length := strLen_append a b
mutual
theorem shown_le_big : ∀ d : PyData, okD d = true → d.shown.length ≤ big d
  | .none, _ => by show (("None" : Str)).length ≤ 4; decide
  | .bool b, _ => by cases b <;> decide
  | .int i, h => int_text_len_1921 (of_decide_eq_true h)
  | .str x, h => by
    have h' := Bool.and_eq_true_iff.mp (show (decide (x.length ≤ 100000) && x.cps.toList.all (fun c => decide (c < 256))) = true from h)
    refine StrLaws.reprText_len x fun c hc => ?_
    have := of_decide_eq_true (List.all_eq_true.mp h'.2 c hc)
    omega
  | .list ds, h => Nat.le_trans (listText_len_le _) (by have := shownAll_le_bigs ds h; show _ ≤ bigs ds + 3; omega)
  | .tuple ds, h => Nat.le_trans (tupleText_len_le _) (by have := shownAll_le_bigs ds h; show _ ≤ bigs ds + 3; omega)
  | .dict kvs, h => Nat.le_trans (dictText_len_le _) (by have := shownKv_le_bigv kvs h; show _ ≤ bigv kvs + 3; omega)
theorem shownAll_le_bigs : ∀ ds : List PyData, oksD ds = true → ((PyData.shownAll ds).map (·.length)).sum + 2 * (PyData.shownAll ds).length ≤ bigs ds
  | [], _ => Nat.le_refl 0
  | d :: ds, h => by
    have h' := Bool.and_eq_true_iff.mp (show (okD d && oksD ds) = true from h)
    have h1 := shown_le_big d h'.1
    have h2 := shownAll_le_bigs ds h'.2
    show (d.shown.length :: (PyData.shownAll ds).map (·.length)).sum + 2 * ((PyData.shownAll ds).length + 1) ≤ big d + 2 + bigs ds
    rw [List.sum_cons]
    omega
theorem shownKv_le_bigv : ∀ kvs : List (PyData × PyData), okvD kvs = true → ((PyData.shownKv kvs).map (·.length)).sum + 2 * (PyData.shownKv kvs).length ≤ bigv kvs
  | [], _ => Nat.le_refl 0
  | (k, v) :: r, h => by
    have h' := Bool.and_eq_true_iff.mp (show (okD k && okD v && okvD r) = true from h)
    have h3 := Bool.and_eq_true_iff.mp h'.1
    have h1 := shown_le_big k h3.1
    have h4 := shown_le_big v h3.2
    have h2 := shownKv_le_bigv r h'.2
    show ((k.shown ++ ": " ++ v.shown).length :: (PyData.shownKv r).map (·.length)).sum + 2 * ((PyData.shownKv r).length + 1) ≤ big k + big v + 4 + bigv r
    rw [List.sum_cons, len_app, len_app]
    have e : ((": " : Str)).length = 2 := by decide
    omega
end
theorem oksD_append : ∀ {a b : List PyData}, oksD a = true → oksD b = true → oksD (a ++ b) = true
  | [], b, _, h => h
  | d :: a, b, h, h' => by
    have q := Bool.and_eq_true_iff.mp (show (okD d && oksD a) = true from h)
    show (okD d && oksD (a ++ b)) = true
    rw [q.1, oksD_append q.2 h'] <;> rfl
theorem bigs_append : ∀ (a b : List PyData), bigs (a ++ b) = bigs a + bigs b
  | [], b => (Nat.zero_add _).symm
  | d :: a, b => by
    show big d + 2 + bigs (a ++ b) = big d + 2 + bigs a + bigs b
    rw [bigs_append a b]
    omega
theorem oksD_of : ∀ {ds : List PyData}, (∀ d ∈ ds, okD d = true) → oksD ds = true
  | [], _ => rfl
  | d :: ds, h => by
    show (okD d && oksD ds) = true
    rw [h d List.mem_cons_self, oksD_of fun x hx => h x (List.mem_cons_of_mem _ hx)] <;> rfl
theorem oksD_mem : ∀ {ds : List PyData}, oksD ds = true → ∀ d ∈ ds, okD d = true
  | [], _, d, hd => (List.not_mem_nil hd).elim
  | e :: ds, h, d, hd => by
    have q := Bool.and_eq_true_iff.mp (show (okD e && oksD ds) = true from h)
    rcases List.mem_cons.mp hd with rfl | hd
    · exact q.1
    · exact oksD_mem q.2 d hd
/-- small data: it can be shown, in few signs, it is not deep -/
structure Sm (n b : Nat) (d : PyData) : Prop where
  ok : okD d = true
  bg : big d ≤ b
  dp : d.depth ≤ n
theorem Sm.mono {n b n' b' : Nat} {d : PyData} (h : Sm n b d) (hn : n ≤ n') (hb : b ≤ b') : Sm n' b' d := ⟨h.ok, Nat.le_trans h.bg hb, Nat.le_trans h.dp hn⟩
theorem Sm.shown {n b : Nat} {d : PyData} (h : Sm n b d) (hn : n ≤ 60) (hb : b ≤ 10000000) : d.showable = true ∧ d.shown.length ≤ sizeLine ∧ d.depth ≤ 60 :=
  ⟨okD_showable d h.ok, by have := shown_le_big d h.ok; have := h.bg; rw [sizeLine_eq]; omega, Nat.le_trans h.dp hn⟩
/-- repr's question for small data -/
theorem rRepr_of {Z : Addr → Prop} {H : Hp} {v : V} {d : PyData} {Q : VK} {n b : Nat} (h : Dat Z H v d) (s : Sm n b d) (hn : n ≤ 60) (hb : b ≤ 10000000) (q : Q (.str d.shown) H) : rRepr [v] H Q :=
  ⟨Z, v, d, rfl, h, (s.shown hn hb).1, (s.shown hn hb).2.1, (s.shown hn hb).2.2, q⟩
/-! ### more words -/
theorem PI.or {X : Cx} {tg it : Expr} {w1 w2 : TI} (h : PI X tg it w1) (h' : PI X tg it w2) : PI X tg it (fun σ H R => w1 σ H R ∨ w2 σ H R) :=
  ⟨fun pins s σ H R I q => q.elim (h.run pins s σ H R I) (h'.run pins s σ H R I)⟩
/-- what the module's name x holds -/
def Gk (mg : Str → Option Value) (x : Str) (v : V) : Prop := ∃ u, mg x = some u ∧ RelV v u
theorem pe_gk {X : Cx} {x : Str} {pos : Pos} {v : V} (hg : Gl X x) (h : Gk X.mg x v) (hd : (x == ("__debug__" : Str)) = false := by decide) : PE X (.Name x pos) (tC v) := by
  obtain ⟨u, e, r⟩ := h
  exact pe_glob hg e r hd
/-- isinstance of data, a built-in class -/
def isT (T : String) : PyData → Bool
  | .bool _ => T == "bool" || T == "int"
  | d => tyD d == T
theorem kit_data {K : PySem.W.Frag} {d : PyData} {T : String} (hT : T = "int" ∨ T = "bool" ∨ T = "str" ∨ T = "list" ∨ T = "tuple" ∨ T = "dict") : PySem.W.kitOne K (.type (tyD d)) (.type T) = some (isT T d) := by
  rcases hT with rfl | rfl | rfl | rfl | rfl | rfl <;> cases d <;> exact kit_ty (by kernel_rfl)
theorem rIsi_data {K : PySem.W.Frag} {Z : Addr → Prop} {H : Hp} {v : V} {d : PyData} {T : String} {Q : VK} (h : Dat Z H v d) (hT : T = "int" ∨ T = "bool" ∨ T = "str" ∨ T = "list" ∨ T = "tuple" ∨ T = "dict") (q : Q (.bl (isT T d)) H) : rIsi K [v, .ty T] H Q :=
  ⟨v, .ty T, _, _, _, rfl, .ty T, h.ty, kit_data hT, q⟩
end Hv

namespace Hv
open PySem PySem.Spec PyProof.Rows L2
/-! ### t[::-1] of a tuple -/
section
variable {prog : Program} {w : World} {A : Around} {E : Value → Shared → Prop} {s : Shared}
theorem applied_rev {sl : Addr} {vl vu vk : Value} {n : Nat} {Q : Int × Int × Nat → Shared → Prop} (hs : s.heap.IsSliceOf sl vl vu vk) (pl : IsPart vl none) (pu : IsPart vu none) (pk : IsPart vk (some (-1)))
    (h : Q ((n : Int) - 1, -1, n) s) : wpAny (model prog w) A (Builtin.Slice.sliceApplied (.ref sl) (pure (n : Int))) Q E s := by
  obtain ⟨os, hos, hcs, hds⟩ := id hs
  unfold Builtin.Slice.sliceApplied Builtin.Slice.sliceFields
  refine wpAny_bind (wpAny_bind (wpAny_field hos hds (x := vl) rfl (wpAny_bind (wpAny_field hos hds (x := vu) rfl (wpAny_bind (wpAny_field hos hds (x := vk) rfl (wpAny_pure ?_)))))))
  refine wpAny_bind (HT.slicePart_ pk ?_)
  show wpAny _ _ (if ((-1 : Int) == 0) = true then _ else _) _ _ s
  rw [if_neg (by decide)]
  refine wpAny_bind (HT.slicePart_ pl (wpAny_bind (HT.slicePart_ pu (wpAny_bind (wpAny_pure ?_)))))
  show wpAny _ _ (pure ((n : Int) - 1, (-1 : Int), Builtin.Slice.slicePlaces ((n : Int) - 1) (-1) (-1))) _ _ s
  have e : Builtin.Slice.slicePlaces ((n : Int) - 1) (-1) (-1) = n := by
    unfold Builtin.Slice.slicePlaces
    have h1 : ¬ ((-1 : Int) > 0) := by omega
    simp only [h1, if_false]
    split
    · have e : (- -1 : Int) = 1 := by decide
      rw [e, Int.ediv_one]
      omega
    · omega
  rw [e]
  exact wpAny_pure h
theorem pick_rev (xs : Array Value) : ((List.range xs.size).filterMap fun (m : Nat) => xs[(((xs.size : Int) - 1) + (m : Int) * (-1)).toNat]?).toArray = xs.toList.reverse.toArray := by
  congr 1
  have e : ((List.range xs.size).filterMap fun (m : Nat) => xs[(((xs.size : Int) - 1) + (m : Int) * (-1)).toNat]?) = ((List.range xs.size).map (fun k => xs.size - 1 - k)).filterMap (xs[·]?) := by
    have g : ∀ l : List Nat, (∀ m ∈ l, m < xs.size) → (l.filterMap fun (m : Nat) => xs[(((xs.size : Int) - 1) + (m : Int) * (-1)).toNat]?) = (l.map (fun k => xs.size - 1 - k)).filterMap (xs[·]?) := by
      intro l
      induction l with
      | nil => intro _; rfl
      | cons m l ih =>
        intro h
        have hm := h m List.mem_cons_self
        have e : (((xs.size : Int) - 1) + (m : Int) * (-1)).toNat = xs.size - 1 - m := by omega
        rw [List.filterMap_cons, List.map_cons, List.filterMap_cons, ih fun k hk => h k (List.mem_cons_of_mem _ hk), e]
    exact g _ fun m hm => List.mem_range.mp hm
  rw [e, PySem.W.krv_range, List.filterMap_reverse, PySem.W.krv_all]
theorem getItem_tuple_rev {t sl : Addr} {items : Array Value} {vl vu vk : Value} {Q : Value → Shared → Prop} (ht : IsTup s.heap t items) (hs : s.heap.IsSliceOf sl vl vu vk) (pl : IsPart vl none) (pu : IsPart vu none) (pk : IsPart vk (some (-1)))
    (h : Q (.ref s.heap.objs.size) { s with heap := s.heap.push { cls := .type "tuple", data := .seq items.toList.reverse.toArray } })
    (hsz : items.size ≤ sizeLine) : wpAny (model prog w) A (getItem (.ref t) (.ref sl)) Q E s := by
  have htake : sizeOk (.seq items.toList.reverse.toArray) := by
    show items.toList.reverse.toArray.size ≤ sizeLine
    rw [List.size_toArray, List.length_reverse, Array.length_toList]
    exact hsz
  obtain ⟨os, hos, hcs, hds⟩ := id hs
  have hTs : s.TypeIs (.ref sl) "slice" := ⟨os, hos, hcs⟩
  unfold getItem
  try with_reducible refine wpAny_holding ?_
  first | refine wpAny_bind (wpAny_pure ?_) | skip
  refine wpAny_bind (wpAny_sequenceKey ht.typeIs (by decide) ?_)
  refine wpAny_bind (wpAny_callSpecial?_slot (name := Str.ofString "__getitem__") ht.typeIs PyProof.Rows.slot_tuple_getitem
    (wpAny_call_entry PyProof.Rows.slot_tuple_getitem ht.typeIs entry_tuple_getitem ?_ (args_tuple_getitem _ _)))
  show wpAny _ _ (Builtin.Tuple.tupleItemsOf (.ref t) >>= _) _ _ s
  refine wpAny_bind (tupleItemsOf_ ht ?_)
  refine wpAny_bind (wpAny_typeOf hTs ?_)
  rw [if_pos (by decide)]
  refine wpAny_bind (applied_rev hs pl pu pk ?_)
  have hno : ¬ ((((items.size : Int) - 1) == 0 && (-1 : Int) == 1 && items.size == items.size) = true) := by simp
  show wpAny _ _ (if ((((items.size : Int) - 1) == 0 && (-1 : Int) == 1 && items.size == items.size) = true) then _ else _) _ _ s
  rw [if_neg hno, pick_rev]
  first
    | exact wpAny_bind (m := Builtin.Tuple.tupleExact _) (wpAny_newObj_type (wpAny_pure ⟨_, rfl, wpAny_pure h⟩) htake)
    | exact wpAny_bind (m := Builtin.Tuple.tupleExact _) (wpAny_newObj_type (wpAny_bind (wpAny_pure (wpAny_pure ⟨_, rfl, wpAny_pure h⟩))) htake)
    | exact wpAny_bind (wpAny_bind (m := Builtin.Tuple.tupleExact _) (wpAny_newObj_type (wpAny_pure (wpAny_pure ⟨_, rfl, wpAny_pure h⟩)) htake))
    | exact wpAny_bind (wpAny_bind (m := Builtin.Tuple.tupleExact _) (wpAny_newObj_type (wpAny_pure ⟨_, rfl, wpAny_pure h⟩) htake))
end
section
variable {X : Cx}
def tRevT (K : PySem.W.Frag) (te : TE) : TE := fun σ H Q => te σ H fun x H1 => ∃ a xs, x = .ref a ∧ SqT K H1 a xs ∧ ∀ p, H1 p = none → Q (.ref p) (upd H1 p (.tup xs.reverse))
theorem pe_revT {e : Expr} {te : TE} {k : Nat} {p1 p2 p3 pos : Pos} (he : PE X e te) : PE X (.Subscript e (.Slice none none (some (.UnaryOp .USub (.Constant (.int 1) k p1) p2)) p3) pos) (tRevT X.K te) := by
  refine ⟨fun pins s σ H Q I h => ?_⟩
  refine Subscript_ (thn (he.run pins s σ H _ I h) fun v s1 ⟨x, H1, I1, r1, q1⟩ => ?_)
  obtain ⟨a, xs, ex, hx, q⟩ := q1
  subst ex
  cases r1
  have hst : PO X (some (.UnaryOp .USub (.Constant (.int 1) k p1) p2)) (tPart (tUn (rU fun i => .int (-i)) (tC (.int 1)))) := po_some (pe_un un_neg pe_int)
  refine wpAny_Slice (thn (po_none.run pins s1 σ H1 (fun o H2 => o = none ∧ H2 = H1) I1 ⟨rfl, rfl⟩) fun vl s2 ⟨l, H2, I2, pl, el, e2⟩ => ?_)
  subst el e2
  refine thn (po_none.run pins s2 σ H2 (fun o H3 => o = none ∧ H3 = H2) I2 ⟨rfl, rfl⟩) fun vu s3 ⟨u, H3, I3, pu, eu, e3⟩ => ?_
  subst eu e3
  refine thn (hst.run pins s3 σ H3 (fun o H4 => o = some (-1) ∧ H4 = H3) I3 ⟨1, rfl, -1, rfl, rfl, rfl⟩) fun vs s4 ⟨o, H4, I4, ps, eo, e4⟩ => ?_
  subst eo e4
  have I5 : Inv X pins σ H4 { s4 with heap := s4.heap.push { cls := .type "slice", data := .fields #[vl, vu, vs] } } := I4.kept (t' := s4.toks) fun b ob q => Heap.get?_push_of_some _ q
  obtain ⟨its, r, ht, hz⟩ := I5.tuple hx
  have hlen := r.length
  show wpAny (model X.prog X.w) X.A (subscriptTail e (.Slice none none (some (.UnaryOp .USub (.Constant (.int 1) k p1) p2)) p3) (.ref a) (.ref s4.heap.objs.size)) (EP X pins σ Q) X.xe { s4 with heap := s4.heap.push { cls := .type "slice", data := .fields #[vl, vu, vs] } }
  refine tail_any (ops := [.ref a, .ref s4.heap.objs.size]) ht.typeIs (PyProof.Rows.slot_tuple_getitem.lookup) ?_ (by with_unfolding_all rfl)
  refine getItem_tuple_rev ht (Heap.IsSliceOf.new _ vl vu vs) pl pu ps ?_ (by rw [List.size_toArray]; omega)
  refine ⟨.ref _, _, I5.laid (t' := s4.toks) (o := .tup xs.reverse) (fun b ob q => Heap.get?_push_of_some _ q) (Nat.le_refl _) ?_, rfl, q _ (I5.hok.fresh (Nat.le_refl _))⟩
  exact ⟨by rw [List.length_reverse]; exact hz, _, r.reverse, IsTup.new _ _⟩
end
end Hv

/-! ### enumerate of a tuple -/
namespace PySem
open Sem (wp)
open AutoSeq1 (wpAny_loadPart')
theorem hv_enum_newT (l : Addr) (items : Array Value) (n : Nat) (dct : Option Addr) (sl : Array (Option Value)) :
    Meets (Builtin.«enumerate.__new__» ⟨[.type "enumerate", .ref l], []⟩) (fun _ R s => s.heap.get? l = some { cls := .type "tuple", dict := dct, data := .seq items n, slots := sl } ∧
      R (.ok (.ret (.ref (s.heap.push { cls := .type "tuple_iterator", data := .fields #[.ref l, .int 0 0] }).objs.size)))
        { s with heap := (s.heap.push { cls := .type "tuple_iterator", data := .fields #[.ref l, .int 0 0] }).push { cls := .type "enumerate", data := .fields #[.none, .bool false, .ref s.heap.objs.size, rawInt 0, .none, .none] } }) :=
  .of_wp fun prog w A R s h => by
    obtain ⟨hp, g, d, tk, os⟩ := s
    obtain ⟨hl, h⟩ := h
    have hsub := sub_enumerate
    have hL : Heap.IsTuple (Shared.heap ⟨hp, g, d, tk, os⟩) l items := ⟨_, hl, rfl, n, rfl⟩
    have q1 : ∀ {A' : Around} {E : Value → Shared → Prop} {Q : Value → Shared → Prop}, Q (.ref hp.objs.size) ⟨hp.push { cls := .type "tuple_iterator", data := .fields #[.ref l, .int 0 0] }, g, d, tk, os⟩ → wpAny (model prog w) A' (pyIter (.ref l)) Q E ⟨hp, g, d, tk, os⟩ :=
      fun q => wpAny_pyIter_tuple hL q
    wp_walk using q1
    refine wpAny_stack_any fun st => wpAny_pure ?_
    split
    · rename_i c _ _ _ _ _
      cases (c == Value.type "enumerate")
      · wp_walk using q1
        exact ⟨_, rfl, h⟩
      · wp_walk using q1
        exact ⟨_, rfl, h⟩
    · wp_walk using q1
      exact ⟨_, rfl, h⟩
section
variable {prog : Program} {w : World} {A : Around} {E : Value → Shared → Prop} {s : Shared}
theorem hv_call_enumT {l : Addr} {items : Array Value} {Q : Value → Shared → Prop} (hL : s.heap.IsTuple l items)
    (h : ∀ h', IsEnum h' (s.heap.objs.size + 1) s.heap.objs.size 0 .none → h'.IsTupleIter s.heap.objs.size l 0 → h'.objs.size = s.heap.objs.size + 2 →
      (∀ b o, s.heap.get? b = some o → h'.get? b = some o) → Q (.ref (s.heap.objs.size + 1)) { s with heap := h' }) :
    wpAny (model prog w) A (call (.type "enumerate") [.ref l]) Q E s := by
  obtain ⟨⟨c, dct, dt, sl⟩, hl, hc, n, hd⟩ := hL
  replace hc : c = .type "tuple" := hc
  replace hd : dt = .seq items n := hd
  subst hc hd
  refine callType_new F.called_enumerate (by decide) (F.typeCall_enumerate_1 _) (F.newCall_enumerate_1 _) (fun obj => F.args_object_init_2 obj _) F.entry_enumerate_new (hv_enum_newT l items n dct sl) ⟨hl, ?_⟩
  have hz : (s.heap.push { cls := .type "tuple_iterator", data := .fields #[.ref l, .int 0 0] }).objs.size = s.heap.objs.size + 1 := Heap.size_push ..
  show _ ∧ _
  rw [hz]
  have he : IsEnum ((s.heap.push { cls := .type "tuple_iterator", data := .fields #[.ref l, .int 0 0] }).push
      { cls := .type "enumerate", data := .fields #[.none, .bool false, .ref s.heap.objs.size, rawInt 0, .none, .none] }) (s.heap.objs.size + 1) s.heap.objs.size 0 .none := by
    have := Heap.get?_push_size (s.heap.push { cls := .type "tuple_iterator", data := .fields #[.ref l, .int 0 0] })
      (o := { cls := .type "enumerate", data := .fields #[.none, .bool false, .ref s.heap.objs.size, rawInt 0, .none, .none] }) rfl
    rw [hz] at this
    exact this
  exact ⟨⟨_, he, rfl⟩, h _ he ⟨_, Heap.get?_push_of_some _ (Heap.get?_push_size _ rfl), rfl, rfl⟩ (by rw [Heap.size_push, hz]) fun b o x => Heap.get?_push_of_some _ (Heap.get?_push_of_some _ x)⟩
end
end PySem
namespace Hv
open PySem PySem.Spec PyProof.Rows L2
/-- the tuple at a, each item in a new pair -/
def IteT (K : PySem.W.Frag) (a : Addr) : It :=
  ⟨fun i H => ∃ (xs : List V) (x : V), SqT K H a xs ∧ xs[i]? = some x, fun i H v H' => ∃ T x, v = .ref T ∧ H T = none ∧ H' = upd H T (.tup [.int (i : Nat), x]) ∧ ∀ xs, SqT K H a xs → xs[i]? = some x, fun i H => ∃ xs : List V, SqT K H a xs ∧ xs.length = i⟩
theorem turn_enumT {P : Program} {w : World} {K : PySem.W.Frag} {elts : List Expr} {kk : Nat} {tpos : Pos} (a e it : Addr) :
    Turn P w K (.Tuple elts kk tpos) (IteT K a) [e, it] e (fun i h => (∃ old, IsEnum h e it ((i : Nat) : Int) old) ∧ h.IsTupleIter it a i ∧ e ≠ it) where
  mem := by simp
  obj := fun i h st b hb => by
    obtain ⟨⟨old, he⟩, ⟨o, ho, hc, hd⟩, _⟩ := st
    have e' : b = e ∨ b = it := by simpa using hb
    rcases e' with z | z
    · rw [z]; exact ⟨_, he, fun v q => nomatch q⟩
    · rw [z]; exact ⟨o, ho, fun v q => by rw [hd] at q; cases q⟩
  keep := fun i h h' st k => let ⟨⟨old, he⟩, hi, hne⟩ := st; ⟨⟨old, k e (by simp) _ he⟩, hi.at fun o q => k it (by simp) o q, hne⟩
  item := by
    intro X hP hw hK hc i pins s σ H E I hf st hg
    subst hP hw hK
    obtain ⟨⟨old, he⟩, hit, hne⟩ := st
    obtain ⟨xs, x, hq, hx⟩ := hg
    obtain ⟨its, rv, p, hz⟩ := I.tuple hq
    obtain ⟨u, hu, ru⟩ := rv.get hx
    have hel : e < s.heap.objs.size := Heap.lt_size he
    have hil : it < s.heap.objs.size := by obtain ⟨_, q, _⟩ := hit; exact Heap.lt_size q
    have nai : a ≠ it := by
      rintro rfl
      obtain ⟨o1, q1, c1, _⟩ := hit
      obtain ⟨o2, q2, c2, _⟩ := p
      rw [q1] at q2
      cases q2
      rw [c1] at c2
      exact absurd c2 (by decide)
    have nae : e ≠ a := by
      rintro rfl
      obtain ⟨o2, q2, c2, _⟩ := p
      rw [he] at q2
      cases q2
      have c3 : Value.type "enumerate" = Value.type "tuple" := c2
      exact absurd c3 (by decide)
    have D := Draws.tuple (prog := X.prog) (w := X.w) (A := X.A.in1) (show X.A.in1.handled = none from I.ok.hd hc) it a nai its.toArray
    have hli : i < its.toArray.size := by
      have := (List.getElem?_eq_some_iff.mp hu).1
      simpa using this
    refine wpAny_pyNext_enum_itemD D he ⟨hit, p⟩ hli hne (by simp [hne, nae]) fun y h' tk hy ho hit' hT hsz hk => ?_
    have ey : u = y := by
      have : its.toArray[i]? = some u := by simpa using hu
      rw [this] at hy
      exact Option.some.inj hy
    subst ey
    refine ⟨_, rfl, wpAny_letOwnedTupleGo_enum (s := { s with heap := h', toks := tk + 1 }) ho fun h'' he' sb => ?_⟩
    have hT2 : h''.get? s.heap.objs.size = some { cls := .type "tuple", data := .seq #[.int i tk, u] } := (sb.2 _ (Nat.ne_of_gt hel)).trans hT
    have new : ObjOk X.prog X.w (upd H s.heap.objs.size (.tup [.int (i : Nat), x])) h'' s.heap.objs.size (.tup [.int (i : Nat), x]) :=
      ⟨by show 2 ≤ sizeLine; decide, [.int i tk, u], .cons ⟨_, rfl⟩ (.cons ru .nil), ⟨_, hT2, rfl, _, rfl⟩⟩
    have I1 : Inv X pins σ (upd H s.heap.objs.size (.tup [.int (i : Nat), x])) { s with heap := h'', toks := tk + 1 } :=
      I.turnedNew (ch := [e, it]) (fun b ob hb q => (sb.2 b (fun z => hb (by simp [z]))).trans (hk b ob (fun z => hb (by simp [z])) (fun z => hb (by simp [z])) q)) hf (Nat.le_refl _) new
    refine ⟨.ref s.heap.objs.size, _, I1, rfl, ⟨_, x, rfl, I.hok.fresh (Nat.le_refl _), rfl, fun ys hy => by rw [I.tuple_inj hy hq]; exact hx⟩, ⟨⟨u, ?_⟩, hit'.1.at fun o q => (sb.2 it (Ne.symm hne)).trans q, hne⟩, fun b hb => ?_⟩
    · have e1 : ((i + 1 : Nat) : Int) = (i : Int) + 1 := by omega
      rw [e1]; exact he'
    · have hb' : b < s.heap.objs.size := by
        have e' : b = e ∨ b = it := by simpa using hb
        rcases e' with z | z
        · rw [z]; exact hel
        · rw [z]; exact hil
      rw [upd_ne (Nat.ne_of_lt hb')]
      exact (hf b hb).1
  done := by
    intro X hP hw hK hc i pins s σ H E I hf st hg
    subst hP hw hK
    obtain ⟨⟨old, he⟩, hit, hne⟩ := st
    obtain ⟨xs, hq, hx⟩ := hg
    obtain ⟨its, rv, p, hz⟩ := I.tuple hq
    obtain ⟨f0, f1, f2, f3, f4, f5⟩ := hf it (by simp)
    have hl := rv.length
    have nai : a ≠ it := by
      rintro rfl
      obtain ⟨o1, q1, c1, _⟩ := hit
      obtain ⟨o2, q2, c2, _⟩ := p
      rw [q1] at q2
      cases q2
      rw [c1] at c2
      exact absurd c2 (by decide)
    have D := Draws.tuple (prog := X.prog) (w := X.w) (A := X.A.in1) (show X.A.in1.handled = none from I.ok.hd hc) it a nai its.toArray
    have ei : i = its.toArray.size := by simp; omega
    subst ei
    exact wpAny_pyNext_enum_endD D he ⟨hit, p⟩ fun h' eb => ⟨rfl, I.turned (t' := s.toks) (fun b o hb q => eb b o hb q) f0 f1 f3 f4 f5⟩
  self := fun A i s Q E st h => let ⟨⟨_, he⟩, _⟩ := st; wpAny_pyIter_enum he h
def iEnumT (K : PySem.W.Frag) (ta : TA) : TI := fun σ H R => ta σ H fun vs H1 => ∃ a xs, vs = [.ref a] ∧ SqT K H1 a xs ∧ R (IteT K a) H1
theorem pi_enumT {X : Cx} {e : Expr} {ta : TA} {p pos tpos : Pos} {elts : List Expr} {kk : Nat} (hg : Gl X "enumerate") (hm : X.mg "enumerate" = none) (ha : PA X [e] ta) (hs : starEach [e] X.env = [(false, eval e X.env)] := by rfl) :
    PI X (.Tuple elts kk tpos) (.Call (.Name "enumerate" p) [e] [] pos) (iEnumT X.K ta) := by
  refine ⟨fun pins s σ H R I h => ?_⟩
  refine Call_ (ld_blt I hg hm boot_enumerate (PyProof.Rows.callWith_type1 (thn (ha.run pos pins s σ H _ I h) fun us s1 ⟨vs, H1, I1, r1, q1⟩ => ?_) hs rfl))
  obtain ⟨a, xs, ex, hq, q⟩ := q1
  subst ex
  cases r1 with
  | cons r rr =>
    cases rr
    cases r
    obtain ⟨its, rv, p', hz⟩ := I1.tuple hq
    refine hv_call_enumT (show s1.heap.IsTuple a its.toArray from p') fun h' he hit hsz hk => wpAny_pyIter_enum he ?_
    have I2 : Inv X pins σ H1 { s1 with heap := h' } := I1.kept (t' := s1.toks) hk
    refine ⟨s1.heap.objs.size + 1, [s1.heap.objs.size + 1, s1.heap.objs.size], _, _, H1, rfl, I2, turn_enumT a (s1.heap.objs.size + 1) s1.heap.objs.size, ⟨⟨.none, he⟩, hit, Nat.succ_ne_self _⟩, fun b hb => ?_, q⟩
    have e' : b = s1.heap.objs.size + 1 ∨ b = s1.heap.objs.size := by simpa using hb
    have hle : s1.heap.objs.size ≤ b := by
      rcases e' with z | z
      · rw [z]; exact Nat.le_add_right _ _
      · rw [z]; exact Nat.le_refl _
    exact I1.fpOk hle (I1.hok.fresh hle)
/-- the walk -/
theorem walk_enumT {K : PySem.W.Frag} {a : Addr} {xs : List V} :
    Walk (IteT K a) xs.length (fun H => SqT K H a xs) (YPair (fun i => some (.int (i : Nat))) (fun i => xs[i]?)) := by
  refine ⟨fun i _ hi q => ⟨xs, xs[i], q, by simp [hi]⟩, fun _ q => ⟨xs, q, rfl⟩, fun i H v H' _ q y => ?_⟩
  obtain ⟨T, x, h1, h2, h3, h4⟩ := y
  exact ⟨T, .int (i : Nat), x, h1, h2, h3, rfl, h4 xs q⟩
end Hv

namespace Hv
open PySem PySem.Spec PyProof.Rows L2
/-! ### f(k = e, ..), nothing by position, the parameters' own order -/
section
variable {X : Cx} {k j : Nat} {x : Str} {ps : List Str} {sp : Sp} {p pos : Pos} {kws : List Keyword} {t : TA} {st : Stmt}
theorem pe_dk (c : Dn X.prog X.w X.K X.mg X.base k x ps sp) (D : DefAt X.K X.mg x st)
    (hkb : ∀ (kV doc pm : Value) (an : Option Addr) (cdv ct : Value) (ws : List Value), ws.length = ps.length → bindArgs (PySem.W.fnOf x x (defArgs st) (defBody st) (defScope st) .none kV doc pm an cdv ct) ⟨[], ps.zip ws⟩ = pure (ps.zip ws))
    (hr : Room j X.A) (hk : k ≤ j) (hg : Gl X x) (hkw : PK X kws t) (hall : (backToKw pos (keywordEach kws X.env)).all (·.1.isSome) = true := by rfl) (hks : (backToKw pos (keywordEach kws X.env)).filterMap (·.1) = ps := by rfl)
    (hdb : (x == ("__debug__" : Str)) = false := by decide)
    (hpl : ((backTo pos (starEach [] X.env)).any (·.1) || (backToKw pos (keywordEach kws X.env)).any (·.1.isNone)) = false := by rfl) :
    PE X (.Call (.Name x p) [] kws pos) (tCall sp [] E0 t) := by
  obtain ⟨f, fd, F, hm, kp, b, oc, od, osl, lk⟩ := c.ex
  obtain ⟨f', fd', F', hm'⟩ := D
  rw [hm] at hm'
  obtain rfl : f = f' := by injection hm' with e; injection e
  obtain ⟨oc', od', kV, doc, pm, an, cdv, ct, osl', e, lk', hcd⟩ := F'.ex
  rw [lk] at lk'
  have ed : fd = fd' := by
    injection lk' with e1
    injection e1 with e2 e3 e4 e5
    injection e4
  subst ed
  refine ⟨fun pins s σ H Q I h => ?_⟩
  refine wpAny_Call_Name_kw (ld_glob I hg hm ?_ hdb)
  refine PySem.W.callWith_KW0 (h₀ := X.base) I.ok.mod.kin kp hall (thn (hkw.run pos pins s σ H _ I h) fun ws s2 ⟨zs, H2, I2, rz, q2⟩ => ⟨I2.kIn, ?_⟩) hpl
  rw [hks]
  have q' : sp zs H2 Q E0 := by have q3 : sp (zs ++ []) H2 Q E0 := q2; rw [List.append_nil] at q3; exact q3
  have hl : ws.length = ps.length := by rw [← rz.length]; exact F.len _ _ _ _ q'
  refine wpAny_call (codeAny_mono (F.run X.A X.stack s2 H2 ⟨[], ps.zip ws⟩ ws zs Q E0 (hr.mono hk) I2.env0 (by subst e; exact fun _ _ _ _ q => by rw [hkb kV doc pm an cdv ct ws hl]; exact wpAny_pure q) rz q') fun r z2 hq => ?_)
  match r, hq with
  | .error _, hq => exact False.elim hq
  | .ok (.ret _), hq => exact I2.after hq
  | .ok .next, hq => exact False.elim hq
  | .ok .brk, hq => exact False.elim hq
  | .ok .cont, hq => exact False.elim hq
end
/-! ### len(x) by an own __len__ -/
section
variable {X : Cx}
theorem cspec_fn {M : Model} {A : Around} {E : Value → Shared → Prop} {s : Shared} {self : Value} {name : PySem.Str} {f : Addr} {K : PySem.W.Frag} {Q : Option Value → Shared → Prop} (XK : K.In s.heap) (sp : PySem.W.Looks M s.heap (specialOf self name) (some (.ref f))) (hf : PySem.W.typeIn K (.ref f) = some (.type "function"))
    (hc : wpAny M A (call (.ref f) [self]) (fun v => Q (some v)) E s) : wpAny M A (callSpecial? self name []) Q E s := by
  simp only [callSpecial?]
  refine wpAny_bind (sp.here ?_)
  refine wpAny_holding (wpAny_bind ((PySem.W.bind_fn XK self hf).at ?_))
  exact wpAny_bind (wpAny_mono hc (fun v s' h' => wpAny_pure h') fun _ _ h' => h')
theorem call_lenOwn {C f : Addr} {k : Nat} {fd : FuncData} {sp : Sp} (c : Cls X.K C) (hm : PySem.W.findIn X.K (.ref C) "__len__" = some (some (.ref f))) (hf : PySem.W.typeIn X.K (.ref f) = some (.type "function"))
    (F : FnOk X.prog X.w X.K X.mg X.base CX0 k f fd ["self"] sp) (hb : Binds X.K fd ["self"] []) (hr : Room (k + 1) X.A) :
    CallR X (.builtin "len") (fun xs H Q => ∃ a dx fs, xs = [.ref a] ∧ H a = some (.ins C dx fs) ∧ sp [.ref a] H (fun v H1 => ∃ n : Nat, v = .int n ∧ n ≤ sizeLine ∧ Q (.int n) H1) E0) := by
  intro pins s σ H xs us Q I r h
  obtain ⟨a, dx, fs, rfl, ea, q⟩ := h
  obtain ⟨u, rfl, ru⟩ := vals1 r
  obtain rfl : u = Value.ref a := ru
  obtain ⟨mA, O, _, _, _, _⟩ := ins_get I.hok ea
  obtain ⟨od, J, _⟩ := O.look
  have L0 : PySem.W.Looks (model X.prog X.w) s.heap (typeOf (.ref a)) (.ref C) := J.type
  have spc : PySem.W.Looks (model X.prog X.w) s.heap (specialOf (.ref a) "__len__") (some (.ref f)) := L0.andThen (PySem.W.looks_findIn I.kIn hm)
  refine Calls.call_function_entry kind_len plain_len entry_len (args_len1 _) ?_
  unfold Builtin.«len»
  refine wpAny_bind (m := oneArg "len" _) (wpAny_pure ?_)
  refine wpAny_bind (m := callSpecial? (.ref a) (PySem.Str.ofString "__len__")) (cspec_fn I.kIn spc hf ?_)
  refine wpAny_call (codeAny_mono (F.run X.A.in1 X.stack s H ⟨[.ref a], []⟩ [.ref a] [.ref a] _ E0 hr.in1 I.env0.in1 (by have := hb s [.ref a] I.kIn rfl; exact this) (.cons rfl .nil) q) fun r s' hq => ?_)
  match r, hq with
  | .error _, hq => exact False.elim hq
  | .ok .next, hq => exact False.elim hq
  | .ok .brk, hq => exact False.elim hq
  | .ok .cont, hq => exact False.elim hq
  | .ok (.ret u), hq =>
    obtain ⟨v, H1, I1, rv, n, ev, hn, q1⟩ := I.after hq
    subst ev
    obtain ⟨t, rfl⟩ := rv
    refine wpAny_bind (wpAny_holding (wpAny_pure ?_))
    refine wpAny_bind (wpAny_letGo ?_)
    have hs : sizeLine = 16777216 := sizeLine_eq
    show wpAny _ _ (if ((n : Nat) : Int) < 0 then _ else _) _ _ _
    rw [if_neg (by omega)]
    show wpAny _ _ (if ((n : Nat) : Int) ≥ 2 ^ 63 then _ else _) _ _ _
    rw [if_neg (by omega)]
    exact wpAny_bind (wpAny_mkInt (wpAny_pure ⟨_, rfl, .int n, H1, I1.tok _, ⟨_, rfl⟩, q1⟩))
end
/-! ### isinstance(e, c), e a caught error with fields -/
section
variable {X : Cx}
def rIsX (K : PySem.W.Frag) (D a : Addr) (d : Option Addr) : List V → Hp → VK → Prop := fun xs H Q => ∃ (dd : Addr) (fs : List (Str × V)) (c : V) (cv : Value) (b : Bool), d = some dd ∧ H dd = some (.xd fs) ∧ xs = [.ref a, c] ∧ (∀ u, RelV c u → u = cv) ∧ PySem.W.kitOne K (.ref D) cv = some b ∧ Q (.bl b) H
theorem call_isX {a D : Addr} {oe : Obj} {cls : Value} {d : Option Addr} {pn : List (Addr × Obj)} (C : ExcC X.K D) (hz : Zc cls d oe) (hf : ∃ vs, oe.data = .fields vs) : CallR (X.suite a ((a, oe) :: pn)) (.builtin "isinstance") (fun xs H Q => cls = .ref D ∧ rIsX X.K D a d xs H Q) := by
  intro pins s σ H xs us Q I r h
  obtain ⟨ecls, dd, fs, c, cv, b, ed, ea, rfl, hcv, e, q⟩ := h
  subst ecls ed
  cases r with
  | cons rx rr =>
    cases rr with
    | cons rt rr =>
      cases rr
      cases rx
      have ec := hcv _ rt
      subst ec
      obtain ⟨hget, _⟩ := I.pin (a, oe) (List.mem_append.mpr (.inl List.mem_cons_self))
      obtain ⟨vs, hv⟩ := hf
      have hx : ObjOk X.prog X.w H s.heap dd (.xd fs) := I.hok dd _ ea
      obtain ⟨mA, hns, hr⟩ := hx
      obtain ⟨od, ho, hl⟩ := lookIn_ns hns
      have J : PySem.W.InstAt s.heap a oe D (some od) := ⟨hget, hz.1, by unfold PySem.W.notCls; rw [hv] <;> rfl, by rw [hz.2]; exact ho⟩
      have hcl : (PySem.W.clsIn X.K D).isSome = true := by
        obtain ⟨cd, hc, _⟩ := PySem.W.any_some C.hd
        rw [hc]; rfl
      exact PySem.W.kia_one (PySem.W.kitx_exc hcl C.hg C.hk C.hs C.ha C.hn C.ht C.hm) I.kIn J e (fun z => nomatch z) fun tk => ⟨.bl b, H, I.kept (t' := tk) fun _ _ z => z, rfl, q⟩
end
end Hv
namespace Hv
open PySem PySem.Spec PyProof.Rows L2
/-! ### C(e, ..) that may raise, told at the slots -/
def tMakeS (C : Addr) (sp : Sp) (E : L2.St → XK) (t : TA) : TE := fun σ H Q => t σ H fun vs H1 => ∀ x dx, H1 x = Option.none → H1 dx = Option.none → dx ≠ x →
  sp (V.ref x :: vs) (upd (upd H1 dx (.own x)) x (.ins C dx [])) (fun v H2 => v = .non ∧ Q (.ref x) H2) (E σ)
theorem pe_makeS {X : Cx} {CX : CXT} {k j : Nat} {f C : Addr} {sp : Sp} {E : L2.St → XK} {x : Str} {e : Expr} {es : List Expr} {t : TA} {p pos : Pos} (M : Mk X.K C f) (F : FnR X.prog X.w X.K X.mg X.base CX k f sp) (hr0 : Room j X.A) (hk : k + 1 ≤ j) (hg : Gl X x) (hm : X.mg x = some (.ref C)) (hx : ∀ σ, PassesAt CX X σ (E σ)) (ha : PA X (e :: es) t)
    (hdb : (x == ("__debug__" : Str)) = false := by decide) (he : starEach (e :: es) X.env = (false, eval e X.env) :: starEach es X.env := by rfl) (hpl : (backTo pos (starEach es X.env)).any (·.1) = false := by rfl) : PE X (.Call (.Name x p) (e :: es) [] pos) (tMakeS C sp E t) := by
  refine ⟨fun pins z σ H0 Q I0 want => ?_⟩
  refine wpAny_Call_Name_kw (ld_glob I0 hg hm ?_ hdb)
  refine PySem.W.callWith_K (h₀ := X.base) I0.ok.mod.kin M.kp (thn (ha.run pos pins z σ H0 _ I0 want) fun us s ⟨vs, H, I, r, h⟩ => ⟨I.kIn, ?_⟩) he hpl
  have hr := hr0.mono hk
  have hq := h (s.heap.objs.size + 1) s.heap.objs.size (I.hok.fresh (Nat.le_succ _)) (I.hok.fresh (Nat.le_refl _)) (Nat.ne_of_lt (Nat.lt_succ_self _))
  have J := Inv.made (C := C) I
  have rel : Vals (V.ref (s.heap.objs.size + 1) :: vs) (Value.ref (s.heap.objs.size + 1) :: us) := .cons rfl r
  refine wpAny_call (make_map (f := f) I.kIn M.makes M.init (beq_iff_eq.mp M.fn) (codeAny_mono (F _ X.stack _ _ (Value.ref (s.heap.objs.size + 1) :: us) _ _ (E σ) (hr.make C us []) (J.env0.make C us []) rel hq) fun res s' got => ?_))
  match res, got with
  | .error err, got => exact hx σ pins _ _ err s' J got
  | .ok (.ret u), got =>
    obtain ⟨v, H', J3, rv, ev, q3⟩ := J.after got
    subst ev
    exact ⟨rv, V.ref (s.heap.objs.size + 1), H', J3, rfl, q3⟩
  | .ok .next, got => exact False.elim got
  | .ok .brk, got => exact False.elim got
  | .ok .cont, got => exact False.elim got
end Hv

namespace Hv
open PySem PySem.Spec PyProof.Rows L2
/-! ### == and != of two lists with the same plain items -/
def rNeF (K : PySem.W.Frag) : R2 := fun x y H Q => ∃ a b xs, x = .ref a ∧ y = .ref b ∧ SqL K H a xs ∧ SqL K H b xs ∧ (∀ v ∈ xs, flatB v = true) ∧ Q (.bl false) H
def rEqF (K : PySem.W.Frag) : R2 := fun x y H Q => ∃ a b xs, x = .ref a ∧ y = .ref b ∧ SqL K H a xs ∧ SqL K H b xs ∧ (∀ v ∈ xs, flatB v = true) ∧ Q (.bl true) H
theorem flat_items {A : Around} {s : Shared} {xs : List V} {us ws : List Value} (r1 : Vals xs us) (r2 : Vals xs ws) (h : ∀ v ∈ xs, flatB v = true) (j : Nat) (h1 : j < us.length) (h2 : j < ws.length) : SeqAt.EqAt A s us[j] ws[j] true := by
  have hj : j < xs.length := by rw [r1.length]; exact h1
  obtain ⟨u, e1, ru⟩ := r1.get (List.getElem?_eq_getElem hj)
  obtain ⟨w, e2, rw_⟩ := r2.get (List.getElem?_eq_getElem hj)
  have e1' : us[j] = u := by rw [List.getElem?_eq_getElem h1] at e1; exact Option.some.inj e1
  have e2' : ws[j] = w := by rw [List.getElem?_eq_getElem h2] at e2; exact Option.some.inj e2
  rw [e1', e2']
  exact eqAt_same ru rw_ (h _ (List.getElem_mem hj))
section
variable {X : Cx}
theorem op_neF (hu : X.A.units + 64 < cLine) : OpR X (compareOp .NotEq) (rNeF X.K) := by
  intro pins s σ H x y v u Q I rx ry h
  obtain ⟨a, b, xs, rfl, rfl, ha, hb, hf, q⟩ := h
  cases rx
  cases ry
  obtain ⟨us, r1, p1, _⟩ := I.list ha
  obtain ⟨ws, r2, p2, _⟩ := I.list hb
  have hsz : us.toArray.size = ws.toArray.size := by rw [List.size_toArray, List.size_toArray, ← r1.length, ← r2.length]
  refine SeqAt.RcNeAt.lists (e := fun _ => true) p1.isList p2.isList hsz (by omega) (fun j h1 h2 => ?_) X.prog X.w _ _ ?_
  · have := flat_items (A := X.A.in1) (s := s) r1 r2 hf j (by simpa using h1) (by simpa using h2)
    simpa using this
  · have e : (!(List.range us.toArray.size).all fun _ => true) = false := by simp
    rw [e]
    exact ⟨.bl false, H, I, rfl, q⟩
theorem op_eqF (hu : X.A.units + 64 < cLine) : OpR X (compareOp .Eq) (rEqF X.K) := by
  intro pins s σ H x y v u Q I rx ry h
  obtain ⟨a, b, xs, rfl, rfl, ha, hb, hf, q⟩ := h
  cases rx
  cases ry
  obtain ⟨us, r1, p1, _⟩ := I.list ha
  obtain ⟨ws, r2, p2, _⟩ := I.list hb
  have hsz : us.toArray.size = ws.toArray.size := by rw [List.size_toArray, List.size_toArray, ← r1.length, ← r2.length]
  refine SeqAt.RcAt.lists (e := fun _ => true) p1.isList p2.isList hsz (by omega) (fun j h1 h2 => ?_) X.prog X.w _ _ ?_
  · have := flat_items (A := X.A.in1) (s := s) r1 r2 hf j (by simpa using h1) (by simpa using h2)
    simpa using this
  · have e : ((List.range us.toArray.size).all fun _ => true) = true := by simp
    rw [e]
    exact ⟨.bl true, H, I, rfl, q⟩
end
end Hv
namespace Hv
open PySem PySem.Spec PyProof.Rows L2
def toV : PyData → V
  | .bool b => .bl b
  | .int i => .int i
  | .str x => .str x
  | _ => .non
def scalD : PyData → Bool
  | .none | .bool _ | .int _ | .str _ => true
  | _ => false
theorem Dat.toV {Z : Addr → Prop} {H : Hp} {v : V} {d : PyData} (h : Dat Z H v d) (s : scalD d = true) : v = Hv.toV d ∧ flatB v = true := by
  cases h with
  | non => exact ⟨rfl, rfl⟩
  | bl b => exact ⟨rfl, rfl⟩
  | int i => exact ⟨rfl, rfl⟩
  | str x => exact ⟨rfl, rfl⟩
  | lst _ _ _ => cases s
  | tup _ _ _ => cases s
  | dct _ _ _ => cases s
theorem Dats.toV {Z : Addr → Prop} {H : Hp} : ∀ {vs : List V} {ds : List PyData}, Dats Z H vs ds → ds.all scalD = true → vs = ds.map Hv.toV ∧ ∀ v ∈ vs, flatB v = true
  | _, _, .nil, _ => ⟨rfl, fun _ z => (List.not_mem_nil z).elim⟩
  | _, _, .cons h t, s => by
    rw [List.all_cons, Bool.and_eq_true] at s
    obtain ⟨e1, f1⟩ := h.toV s.1
    obtain ⟨e2, f2⟩ := Dats.toV t s.2
    refine ⟨by rw [List.map_cons, ← e1, ← e2], fun v hv => ?_⟩
    rcases List.mem_cons.mp hv with z | z
    · rw [z]; exact f1
    · exact f2 v z
theorem same_lists {K : PySem.W.Frag} {Z Z' : Addr → Prop} {H : Hp} {x y : V} {ds : List PyData} (h : Dat Z H x (.list ds)) (h' : Dat Z' H y (.list ds)) (s : ds.all scalD = true) : ∃ a b xs, x = .ref a ∧ y = .ref b ∧ SqL K H a xs ∧ SqL K H b xs ∧ ∀ v ∈ xs, flatB v = true := by
  cases h with
  | lst n1 e1 t1 =>
    cases h' with
    | lst n2 e2 t2 =>
      obtain ⟨q1, f1⟩ := t1.toV s
      obtain ⟨q2, f2⟩ := t2.toV s
      exact ⟨_, _, _, rfl, rfl, SqL.of (by rw [e1, q1]), SqL.of (by rw [e2, q2]), by rw [← q1]; exact f1⟩
theorem rNeF_same {K : PySem.W.Frag} {Z Z' : Addr → Prop} {H : Hp} {x y : V} {ds : List PyData} {Q : VK} (h : Dat Z H x (.list ds)) (h' : Dat Z' H y (.list ds)) (s : ds.all scalD = true) (q : Q (.bl false) H) : rNeF K x y H Q :=
  let ⟨a, b, xs, h1, h2, h3, h4, h5⟩ := same_lists (K := K) h h' s
  ⟨a, b, xs, h1, h2, h3, h4, h5, q⟩
theorem rEqF_same {K : PySem.W.Frag} {Z Z' : Addr → Prop} {H : Hp} {x y : V} {ds : List PyData} {Q : VK} (h : Dat Z H x (.list ds)) (h' : Dat Z' H y (.list ds)) (s : ds.all scalD = true) (q : Q (.bl true) H) : rEqF K x y H Q :=
  let ⟨a, b, xs, h1, h2, h3, h4, h5⟩ := same_lists (K := K) h h' s
  ⟨a, b, xs, h1, h2, h3, h4, h5, q⟩
end Hv

namespace Hv
open PySem PySem.Spec PyProof.Rows L2
def topS (i : Nat) : Stmt := PySem.Challenge.pw_hookvows_k30_what_is_an_act.main.body.getD i (.Pass ⟨0, 0, 0, 0⟩)
/-! ### what is told of data -/
abbrev lettersS : Str := "abcdefghijklmnopqrstuvwxyz"
abbrev digitsS : Str := "0123456789"
def low (c : Nat) : Bool := decide (c ∈ lettersS.cps.toList)
def dig (c : Nat) : Bool := decide (c ∈ digitsS.cps.toList)
def nameL (cs : List Nat) : Bool := decide (1 ≤ cs.length) && decide (cs.length ≤ 8) && (match cs with | c :: _ => low c | [] => false) && cs.all (fun c => low c || dig c)
def isName : PyData → Bool
  | .str x => nameL x.cps.toList
  | _ => false
def isInteger : PyData → Bool
  | .int _ => true
  | _ => false
def isList : PyData → Bool
  | .list _ => true
  | .tuple _ => true
  | _ => false
def plainActs : List Str := ["look", "inner", "swallow", "answer", "skip", "fail"]
def digitOk : PyData → Bool
  | .int i => decide (0 ≤ i) && decide (i ≤ 3)
  | _ => false
def isAct : PyData → Bool
  | .tuple [.str x] => decide (x ∈ plainActs)
  | .tuple [.str x, d] => decide (x = "door") && isName d
  | .tuple [.str x, d, e] => decide (x = "lend") && isName d && digitOk e
  | _ => false
theorem isAct1 (x : Str) : isAct (.tuple [.str x]) = decide (x ∈ plainActs) := by simp [isAct]
theorem isAct2 (x : Str) (d : PyData) : isAct (.tuple [.str x, d]) = (decide (x = "door") && isName d) := by simp [isAct]
theorem isAct3 (x : Str) (d e : PyData) : isAct (.tuple [.str x, d, e]) = (decide (x = "lend") && isName d && digitOk e) := by simp [isAct]
def isRow : PyData → Bool
  | .list ds => ds.all isAct
  | .tuple ds => ds.all isAct
  | _ => false
/-- a question about data -/
def spB (f : PyData → Bool) : Sp := fun vs H Q _ => ∃ (Z : Addr → Prop) (v : V) (d : PyData), vs = [v] ∧ Dat Z H v d ∧ okD d = true ∧ ∀ H', Same H H' → Q (.bl (f d)) H'
theorem Same.refl {H : Hp} : Same H H := fun _ _ e => e
theorem Same.trans' {H H1 H2 : Hp} (a : Same H H1) (b : Same H1 H2) : Same H H2 := fun c o e => b c o (a c o e)
theorem Same.new {H : Hp} {p : Addr} {o : HO} (h : H p = none) : Same H (upd H p o) := fun b u e => by rw [upd_ne (ne_of_none e h)]; exact e
theorem Dat.same {Z : Addr → Prop} {H H' : Hp} {v : V} {d : PyData} (h : Dat Z H v d) (s : Same H H') : Dat Z H' v d := h.mono (fun _ q => .inl q) fun b o e _ => s b o e
theorem Dats.same {Z : Addr → Prop} {H H' : Hp} {v : List V} {d : List PyData} (h : Dats Z H v d) (s : Same H H') : Dats Z H' v d := h.mono (fun _ q => .inl q) fun b o e _ => s b o e
/-- what the layer asks of a comprehension without tests -/
def LcAsks (J : It) (g : TG) (te : TE) (vs : List Nat) (σ : L2.St) (H1 : Hp) (D : Addr) (Qd : Hp → Prop) : Prop :=
  ∃ W : Nat → Nat → Hp → Prop, (∃ m, W 0 m (upd H1 D (.lst []))) ∧ ∀ i m H, W i m H →
      (J.stop i H ∧ Qd H) ∨ (J.go i H ∧ ∃ Nx : Hp → Prop, (∀ H', Nx H' → ∃ m', m' < m ∧ W (i + 1) m' H') ∧ ∀ x H', J.yld i H x H' → g x (wipe σ vs) H' fun σ2 H2 => wipe σ2 vs = wipe σ vs ∧ tYes σ2 H2 fun b H3 =>
        if b = true then te σ2 H3 fun y H4 => ∃ acc, H4 D = some (.lst acc) ∧ acc.length < sizeLine ∧ Nx (upd H4 D (.lst (acc ++ [y]))) else Nx H3)
/-- a comprehension: P by the turn, what is made so far, and the heap -/
theorem lc_run {J : It} {n : Nat} {G : Hp → Prop} {Y : Nat → Hp → V → Hp → Prop} (w : Walk J n G Y) {g : TG} {te : TE} {vs : List Nat} {σ : L2.St} {H1 : Hp} {D : Addr} {Qd : Hp → Prop} (P : Nat → List V → Hp → Prop) (h0 : P 0 [] (upd H1 D (.lst []))) (hz : n < sizeLine)
    (hl : ∀ i acc H, P i acc H → acc.length = i) (hG : ∀ i acc H, i ≤ n → H D = some (.lst acc) → P i acc H → G H)
    (turn : ∀ i acc x H H' (κ : VK), i < n → H D = some (.lst acc) → P i acc H → Y i H x H' → (∀ y H4, H4 D = some (.lst acc) → P (i + 1) (acc ++ [y]) (upd H4 D (.lst (acc ++ [y]))) → κ y H4) →
      g x (wipe σ vs) H' fun σ2 H2 => wipe σ2 vs = wipe σ vs ∧ te σ2 H2 κ)
    (done : ∀ acc H, H D = some (.lst acc) → P n acc H → Qd H) : LcAsks J g te vs σ H1 D Qd := by
  refine lc_it w (fun i H => ∃ acc, H D = some (.lst acc) ∧ P i acc H) ⟨[], upd_same, h0⟩ (fun i H hi ⟨acc, e, p⟩ => hG i acc H hi e p) ?_ fun H ⟨acc, e, p⟩ => done acc H e p
  rintro i x H H' hi ⟨acc, e, p⟩ y
  have le := hl i acc H p
  exact turn i acc x H H' (fun y H4 => ∃ acc', H4 D = some (.lst acc') ∧ acc'.length < sizeLine ∧ ∃ acc2, (upd H4 D (.lst (acc' ++ [y]))) D = some (.lst acc2) ∧ P (i + 1) acc2 (upd H4 D (.lst (acc' ++ [y])))) hi e p y
    fun z H4 e4 p4 => ⟨acc, e4, by omega, acc ++ [z], upd_same, p4⟩
/-- a comprehension that changes nothing: the values f 0, f 1, .. -/
theorem lc_pure {J : It} {n : Nat} {G : Hp → Prop} {Y : Nat → Hp → V → Hp → Prop} (w : Walk J n G Y) {g : TG} {te : TE} {vs : List Nat} {σ : L2.St} {H1 : Hp} {D : Addr} {Qd : Hp → Prop} (f : Nat → V) (hD : H1 D = none) (hz : n < sizeLine) (hG : ∀ H, Same H1 H → G H)
    (turn : ∀ i x H H' (κ : VK), i < n → Same H1 H → Y i H x H' → (∀ H4, Same H H4 → κ (f i) H4) → g x (wipe σ vs) H' fun σ2 H2 => wipe σ2 vs = wipe σ vs ∧ te σ2 H2 κ)
    (done : ∀ H, Same H1 H → H D = some (.lst ((List.range n).map f)) → Qd H) : LcAsks J g te vs σ H1 D Qd := by
  refine lc_run w (fun i acc H => Same H1 H ∧ acc = (List.range i).map f) ⟨Same.new hD, rfl⟩ hz (fun i acc H p => by rw [p.2]; simp) (fun i acc H _ _ p => hG H p.1) ?_ fun acc H e p => done H p.1 (by rw [e, p.2])
  rintro i acc x H H' κ hi e ⟨s, ea⟩ y k
  refine turn i x H H' κ hi s y fun H4 s4 => k (f i) H4 (s4 _ _ e) ⟨fun b o q => ?_, ?_⟩
  · rw [upd_ne (ne_of_none q hD)]
    exact s4 b o (s b o q)
  · rw [ea, List.range_succ, List.map_append]
    rfl
structure Gc (mg : Str → Option Value) : Prop where
  c_LETTERS : Gk mg "LETTERS" (.str lettersS)
  c_DIGITS : Gk mg "DIGITS" (.str digitsS)
  c_LONGEST_NAME : Gk mg "LONGEST_NAME" (.int 8)
  c_GREATEST_VALUE : Gk mg "GREATEST_VALUE" (.int 3)
abbrev s_is_integer : Stmt := topS 4
abbrev N_is_integer : List Str := ["value"]
theorem sc_is_integer : FnScope N_is_integer ["value"] (defScope s_is_integer) := ⟨rfl, rfl, rfl, by decide +kernel, rfl, by decide +kernel, by decide +kernel⟩
abbrev s_is_name : Stmt := topS 5
abbrev N_is_name : List Str := ["value", "character"]
theorem sc_is_name : FnScope N_is_name ["value"] (defScope s_is_name) := ⟨rfl, rfl, rfl, by decide +kernel, rfl, by decide +kernel, by decide +kernel⟩
abbrev s_is_list : Stmt := topS 6
abbrev N_is_list : List Str := ["value"]
theorem sc_is_list : FnScope N_is_list ["value"] (defScope s_is_list) := ⟨rfl, rfl, rfl, by decide +kernel, rfl, by decide +kernel, by decide +kernel⟩
section
variable {P : Program} {w : World} {K : PySem.W.Frag} {mg : Str → Option Value} {base : Heap}
theorem spB_len {f : PyData → Bool} : ∀ vs H Q E, spB f vs H Q E → vs.length = 1 := fun vs H Q E h => by
  obtain ⟨_, _, _, rfl, _⟩ := h
  rfl
theorem ok_is_integer (D : DefAt K mg "is_integer" s_is_integer) (T : Nm mg) : Dn P w K mg base 1 "is_integer" ["value"] (spB isInteger) := by
  refine dn_mk D sc_is_integer (fun _ _ _ _ _ _ us hl => match us, hl with | [_], _ => rfl) spB_len (fun f cdv A outer s H vs Q E hr h => ?_)
  obtain ⟨Z, v, d, rfl, dv, _, k⟩ := h
  refine ⟨_, ((pss_one (ps_ret (pe_and (pe_callB call_isi (by rfl) T.n_isinstance (by decide +kernel) (pa_cons (pv 0) (pa_cons (pe_bltn (v := .ty "int") (by rfl) T.n_int (by decide +kernel) rfl) pa_nil))) (pe_one (pe_not (pe_callB call_isi (by rfl) T.n_isinstance (by decide +kernel) (pa_cons (pv 0) (pa_cons (pe_bltn (v := .ty "bool") (by rfl) T.n_bool (by decide +kernel) rfl) pa_nil))))))))), ?_⟩
  refine ⟨_, rfl, _, _, _, _, _, rfl, .ty _, dv.ty, kit_data (by decide), _, rfl, ?_⟩
  cases d <;> first
    | exact iteF (k H Same.refl)
    | exact iteT ⟨_, rfl, _, _, _, _, _, rfl, .ty _, dv.ty, kit_data (by decide), _, rfl, k H Same.refl⟩
theorem ok_is_list (D : DefAt K mg "is_list" s_is_list) (T : Nm mg) : Dn P w K mg base 1 "is_list" ["value"] (spB isList) := by
  refine dn_mk D sc_is_list (fun _ _ _ _ _ _ us hl => match us, hl with | [_], _ => rfl) spB_len (fun f cdv A outer s H vs Q E hr h => ?_)
  obtain ⟨Z, v, d, rfl, dv, _, k⟩ := h
  refine ⟨_, ((pss_one (ps_ret (pe_callB call_isiT (by rfl) T.n_isinstance (by decide +kernel) (pa_cons (pv 0) (pa_cons (pe_tup (pa_cons (pe_bltn (v := .ty "list") (by rfl) T.n_list (by decide +kernel) rfl) (pa_cons (pe_bltn (v := .ty "tuple") (by rfl) T.n_tuple (by decide +kernel) rfl) pa_nil))) pa_nil)))))), ?_⟩
  refine ⟨_, rfl, by show 2 ≤ sizeLine; decide, fun p hp => ?_⟩
  have dv' := dv.same (Same.new (o := .tup [.ty "list", .ty "tuple"]) hp)
  refine ⟨v, p, _, _, [.type "list", .type "tuple"], isList d, rfl, upd_same, .cons (.ty _) (.cons (.ty _) .nil), dv'.ty, ?_, k _ (Same.new hp)⟩
  cases d <;> kernel_rfl
end
end Hv

namespace Hv
open PySem PySem.Spec PyProof.Rows L2
section
variable {P : Program} {w : World} {K : PySem.W.Frag} {mg : Str → Option Value} {base : Heap}

theorem ite_d {p : Prop} [Decidable p] {A B : Prop} (h1 : p → A) (h2 : ¬ p → B) : if decide p = true then A else B := by
  by_cases h : p
  · rw [decide_eq_true h]; exact iteT (h1 h)
  · rw [decide_eq_false h]; exact iteF (h2 h)
theorem ite_nd {p : Prop} [Decidable p] {A B : Prop} (h1 : ¬ p → A) (h2 : p → B) : if (!decide p) = true then A else B := by
  by_cases h : p
  · rw [decide_eq_true h]; exact iteF (h2 h)
  · rw [decide_eq_false h]; exact iteT (h1 h)
theorem range_getD {α β : Type} (f : α → β) (d : α) (l : List α) : (List.range l.length).map (fun i => f (l.getD i d)) = l.map f := by
  apply List.ext_getElem?
  intro i
  rw [List.getElem?_map, List.getElem?_map]
  by_cases h : i < l.length
  · rw [List.getElem?_range h, List.getElem?_eq_getElem h]
    simp [List.getD_eq_getElem?_getD, h]
  · rw [List.getElem?_eq_none (by simpa using h), List.getElem?_eq_none (by simpa using h)]
    rfl
def lod (c : Nat) : Bool := low c || dig c
theorem len_cps (x : Str) : x.length = x.cps.toList.length := by rw [Array.length_toList]; rfl
theorem ok_is_name (D : DefAt K mg "is_name" s_is_name) (T : Nm mg) (G : Gc mg) : Dn P w K mg base 1 "is_name" ["value"] (spB isName) := by
  refine dn_mk D sc_is_name (fun _ _ _ _ _ _ us hl => match us, hl with | [_], _ => rfl) spB_len (fun f cdv A outer s H vs Q E hr h => ?_)
  obtain ⟨Z, v, d, rfl, dv, od, k⟩ := h
  refine ⟨_, ((pss_cons (ps_if (PW.pt (pw_or (pt_not (pt_val (pe_callB call_isi (by rfl) T.n_isinstance (by decide +kernel) (pa_cons (pv 0) (pa_cons (pe_bltn (v := .ty "str") (by rfl) T.n_str (by decide +kernel) rfl) pa_nil))))) (pw_or (pt_not (pt_chain op_le op_le pe_int (pe_callB call_len (by rfl) T.n_len (by decide +kernel) (pa_cons (pv 0) pa_nil)) (pe_gk (by rfl) G.c_LONGEST_NAME))) (pw_or1 (pt_cmpR op_notIn_sign (pe_ix ix_str (pv 0) pe_int (fun _ _ => rfl)) (pe_gk (by rfl) G.c_LETTERS) (by rfl))))))
 (pss_one (ps_ret pe_bl))
 pss_nil)
 (pss_one (ps_ret (pe_callB (cr_all rfl) (by rfl) T.n_all (by decide +kernel) (pa_cons (pe_lc (own := [("character", 1)]) (g := gName 1) rfl sc_is_name.nd (pi_str (pv 0)) (blkOk_by (own := [("character", 1)]) (N := N_is_name) (sc := defScope s_is_name) (by decide +kernel)) (fun _ _ _ _ _ => (pg_name (i := 1) sc_is_name.nd rfl (Or.inl rfl))) (fun _ _ _ _ _ => pts_nil) (fun _ _ _ _ _ => (pe_or (pe_cmpR op_in_sign (pv 1) (pe_gk (by rfl) G.c_LETTERS) (by rfl)) (pe_one (pe_cmpR op_in_sign (pv 1) (pe_gk (by rfl) G.c_DIGITS) (by rfl)))))) pa_nil)))))), ?_⟩
  refine ⟨_, rfl, _, _, _, _, _, rfl, .ty _, dv.ty, kit_data (by decide), _, rfl, ?_⟩
  cases dv with
  | str x =>
    refine iteF ?_
    have lx : x.length ≤ 100000 := of_decide_eq_true (Bool.and_eq_true_iff.mp od).1
    have k' : ∀ H', Same H H' → Q (.bl (nameL x.cps.toList)) H' := k
    refine ⟨_, rfl, _, _, rfl, ⟨by rw [sizeLine_eq]; omega, rfl⟩, _, _, rfl, rfl, _, rfl, ?_⟩
    refine ite_d (fun c1 => ?_) (fun c1 => ?_)
    · refine ⟨_, _, rfl, rfl, _, rfl, ?_⟩
      refine ite_nd (fun c2 => iteT ?_) (fun c2 => ?_)
      · have e : nameL x.cps.toList = false := by
          unfold nameL
          rw [decide_eq_false (show ¬ x.cps.toList.length ≤ 8 by rw [← len_cps]; omega)]
          simp
        rw [e] at k'
        exact k' H Same.refl
      · -- value[0] not in LETTERS
        have ln : x.cps.toList.length = x.length := (len_cps x).symm
        cases ec : x.cps.toList with
        | nil => rw [ec] at ln; simp at ln; omega
        | cons c cs =>
          refine ⟨_, rfl, _, _, c, rfl, rfl, by rw [sizeLine_eq]; omega, by rw [ec]; exact atI_nat (j := 0) rfl, _, _, rfl, rfl, _, rfl, ?_⟩
          refine ite_nd (fun c3 => ?_) (fun c3 => ?_)
          · have e : nameL x.cps.toList = false := by
              unfold nameL
              rw [ec]
              show (decide _ && decide _ && low c && _) = false
              have : low c = false := decide_eq_false c3
              rw [this]
              simp
            rw [e] at k'
            exact k' H Same.refl
          · refine ⟨_, rfl, x, rfl, fun Dd hD => ?_⟩
            refine lc_pure walk_str (fun i => .bl (lod (x.cps.toList.getD i 0))) hD (by show x.length < sizeLine; rw [sizeLine_eq]; omega) (fun _ _ => trivial) ?_ ?_
            · rintro i v H2 H' κ hi s2 ⟨rfl, cc, hc, rfl⟩ kk
              have hg : x.cps.toList.getD i 0 = cc := by
                rw [List.getD_eq_getElem?_getD, Array.getElem?_toList, hc]
                rfl
              refine ⟨rfl, _, rfl, _, _, rfl, rfl, _, rfl, ?_⟩
              rw [hg] at kk
              refine ite_d (fun c4 => ?_) (fun c4 => ⟨_, rfl, _, _, rfl, rfl, ?_⟩)
              · have e1 : low cc = true := decide_eq_true c4
                have := kk _ Same.refl
                unfold lod at this
                rw [e1] at this
                exact this
              · have e1 : low cc = false := decide_eq_false c4
                have := kk _ Same.refl
                unfold lod at this
                rw [e1] at this
                exact this
            · intro H2 s2 hl
              refine ⟨Dd, (List.range x.cps.size).map fun i => lod (x.cps.toList.getD i 0), rfl, SqL.of (by rw [hl, List.map_map]; rfl), ?_⟩
              have e : ((List.range x.cps.size).map fun i => lod (x.cps.toList.getD i 0)).all id = nameL x.cps.toList := by
                have es : x.cps.size = x.cps.toList.length := Array.length_toList.symm
                rw [es, range_getD lod]
                unfold nameL
                rw [decide_eq_true (show 1 ≤ x.cps.toList.length by rw [ln]; omega), decide_eq_true (show x.cps.toList.length ≤ 8 by rw [ln]; omega), ec]
                have hl : low c = true := decide_eq_true c3
                show _ = (true && true && low c && (c :: cs).all lod)
                rw [hl, List.all_map]
                rfl
              rw [e]
              exact k' H2 s2
    · refine ⟨_, rfl, iteT (iteT ?_)⟩
      have e : nameL x.cps.toList = false := by
        unfold nameL
        rw [decide_eq_false (by rw [← len_cps]; omega)]
        rfl
      rw [e] at k'
      exact k' H Same.refl
  | _ => exact iteT (iteT (k H Same.refl))
end
end Hv

namespace Hv
open PySem PySem.Spec PyProof.Rows L2
abbrev s_is_act : Stmt := topS 14
abbrev N_is_act : List Str := ["value"]
theorem sc_is_act : FnScope N_is_act ["value"] (defScope s_is_act) := ⟨rfl, rfl, rfl, by decide +kernel, rfl, by decide +kernel, by decide +kernel⟩
abbrev s_is_row : Stmt := topS 15
abbrev N_is_row : List Str := ["value", "act"]
theorem sc_is_row : FnScope N_is_row ["value"] (defScope s_is_row) := ⟨rfl, rfl, rfl, by decide +kernel, rfl, by decide +kernel, by decide +kernel⟩
/-- PLAIN_ACTS stands at pa -/
structure Gp (K : PySem.W.Frag) (mg : Str → Option Value) (pa : Addr) : Prop where
  g : Gk mg "PLAIN_ACTS" (.ref pa)
  s : ∀ H, SqT K H pa (plainActs.map V.str)
theorem inV_strs (x : Str) : ∀ l : List Str, inV (.str x) (l.map V.str) = decide (x ∈ l)
  | [] => rfl
  | y :: l => by
    have ih := inV_strs x l
    unfold inV at ih ⊢
    rw [List.map_cons, List.any_cons, ih]
    show ((y == x) || decide (x ∈ l)) = _
    by_cases h : y = x
    · subst h; simp
    · have h1 : (y == x) = false := by simpa using h
      have h2 : ¬ x = y := fun z => h z.symm
      simp [h1, h2]
theorem flat_strs : ∀ l : List Str, (l.map V.str).all flatV = true
  | [] => rfl
  | y :: l => flat_strs l
theorem not_str_act : ∀ {d : PyData} {r : List PyData}, isT "str" d = false → isAct (.tuple (d :: r)) = false
  | .str x, r, h => by simp [isT, tyD] at h
  | .none, r, _ => by rcases r with _ | ⟨_, _ | ⟨_, _ | _⟩⟩ <;> rfl
  | .bool _, r, _ => by rcases r with _ | ⟨_, _ | ⟨_, _ | _⟩⟩ <;> rfl
  | .int _, r, _ => by rcases r with _ | ⟨_, _ | ⟨_, _ | _⟩⟩ <;> rfl
  | .list _, r, _ => by rcases r with _ | ⟨_, _ | ⟨_, _ | _⟩⟩ <;> rfl
  | .tuple _, r, _ => by rcases r with _ | ⟨_, _ | ⟨_, _ | _⟩⟩ <;> rfl
  | .dict _, r, _ => by rcases r with _ | ⟨_, _ | ⟨_, _ | _⟩⟩ <;> rfl
section
variable {P : Program} {w : World} {K : PySem.W.Frag} {mg : Str → Option Value} {base : Heap}
theorem ok_is_act (D : DefAt K mg "is_act" s_is_act) (T : Nm mg) (G : Gc mg) {pa : Addr} (GP : Gp K mg pa) (cis_name : Dn P w K mg base 1 "is_name" ["value"] (spB isName)) (cis_integer : Dn P w K mg base 1 "is_integer" ["value"] (spB isInteger)) :
    Dn P w K mg base 2 "is_act" ["value"] (spB isAct) := by
  refine dn_mk D sc_is_act (fun _ _ _ _ _ _ us hl => match us, hl with | [_], _ => rfl) spB_len (fun f cdv A outer s H vs Q E hr h => ?_)
  obtain ⟨Z, v, d, rfl, dv, od, k⟩ := h
  refine ⟨_, ((pss_cons (ps_if (PW.pt (pw_or (pt_not (pt_val (pe_callB call_isi (by rfl) T.n_isinstance (by decide +kernel) (pa_cons (pv 0) (pa_cons (pe_bltn (v := .ty "tuple") (by rfl) T.n_tuple (by decide +kernel) rfl) pa_nil))))) (pw_or (pt_cmpR op_eq (pe_callB call_len (by rfl) T.n_len (by decide +kernel) (pa_cons (pv 0) pa_nil)) pe_int (nomark _)) (pw_or1 (pt_not (pt_val (pe_callB call_isi (by rfl) T.n_isinstance (by decide +kernel) (pa_cons (pe_ix ix_tup (pv 0) pe_int (fun _ _ => rfl)) (pa_cons (pe_bltn (v := .ty "str") (by rfl) T.n_str (by decide +kernel) rfl) pa_nil)))))))))
 (pss_one (ps_ret pe_bl))
 pss_nil)
 (pss_cons (ps_if (PW.pt (pw_and (pt_cmpR op_eq (pe_ix ix_tup (pv 0) pe_int (fun _ _ => rfl)) pe_str (nomark _)) (pw_and1 (pt_cmpR op_eq (pe_callB call_len (by rfl) T.n_len (by decide +kernel) (pa_cons (pv 0) pa_nil)) pe_int (nomark _)))))
 (pss_one (ps_ret (pe_and (pe_d cis_name hr (by decide) (by rfl) (pa_cons (pe_ix ix_tup (pv 0) pe_int (fun _ _ => rfl)) pa_nil)) (pe_and (pe_d cis_integer hr (by decide) (by rfl) (pa_cons (pe_ix ix_tup (pv 0) pe_int (fun _ _ => rfl)) pa_nil)) (pe_one (pe_chain op_le op_le pe_int (pe_ix ix_tup (pv 0) pe_int (fun _ _ => rfl)) (pe_gk (by rfl) G.c_GREATEST_VALUE)))))))
 pss_nil)
 (pss_cons (ps_if (PW.pt (pw_and (pt_cmpR op_eq (pe_ix ix_tup (pv 0) pe_int (fun _ _ => rfl)) pe_str (nomark _)) (pw_and1 (pt_cmpR op_eq (pe_callB call_len (by rfl) T.n_len (by decide +kernel) (pa_cons (pv 0) pa_nil)) pe_int (nomark _)))))
 (pss_one (ps_ret (pe_d cis_name hr (by decide) (by rfl) (pa_cons (pe_ix ix_tup (pv 0) pe_int (fun _ _ => rfl)) pa_nil))))
 pss_nil)
 (pss_one (ps_ret (pe_and (pe_cmpR op_eq (pe_callB call_len (by rfl) T.n_len (by decide +kernel) (pa_cons (pv 0) pa_nil)) pe_int (nomark _)) (pe_one (pe_cmpR op_in_seq (pe_ix ix_tup (pv 0) pe_int (fun _ _ => rfl)) (pe_gk (by rfl) GP.g) (by rfl)))))))))), ?_⟩
  refine ⟨_, rfl, _, _, _, _, _, rfl, .ty _, dv.ty, kit_data (by decide), _, rfl, ?_⟩
  cases dv with
  | @tup a xs ds nz ha hs =>
    refine iteF ?_
    refine ⟨_, rfl, _, _, rfl, .inr ⟨xs, SqT.of ha, rfl⟩, rfl, _, rfl, ?_⟩
    cases hs with
    | nil =>
      refine ite_d (fun c => iteT (k H Same.refl)) (fun c => absurd rfl c)
    | @cons v0 vs0 d0 ds0 h0 ht =>
      refine ite_d (fun c => absurd c (by intro z; injection z with z; simp at z; omega)) (fun c => ?_)
      have at0 : ∀ H', Same H H' → SqT K H' a (v0 :: vs0) := fun H' s' => SqT.of (s' _ _ ha)
      have i0 : atI (v0 :: vs0) 0 = some v0 := atI_nat (j := 0) rfl
      refine ⟨_, rfl, _, _, _, _, rfl, rfl, at0 H Same.refl, i0, _, _, _, _, _, rfl, .ty _, h0.ty, kit_data (by decide), _, rfl, ?_⟩
      have od0 : (okD d0 && oksD ds0) = true := od
      rw [Bool.and_eq_true] at od0
      by_cases c0 : isT "str" d0 = true
      · rw [c0]
        refine iteF ?_
        cases h0 with
        | str x =>
          -- value[0] == "lend" and len(value) == 3
          refine ⟨_, rfl, _, _, _, _, rfl, rfl, at0 H Same.refl, i0, rfl, _, rfl, ?_⟩
          have lenI : ∀ n : Nat, (V.int ((((V.str x) :: vs0).length : Nat) : Int) = V.int (n : Int)) ↔ ds0.length + 1 = n := fun n => by
            have := ht.length
            constructor
            · intro z; injection z with z; simp at z; omega
            · intro z; simp; omega
          have step2 : ¬ (x = "lend" ∧ ds0.length + 1 = 3) → ∀ (R : Prop), R → R := fun _ _ r => r
          refine ite_d (fun c2 => ⟨_, rfl, _, _, rfl, .inr ⟨_, at0 H Same.refl, rfl⟩, rfl, _, rfl, ite_d (fun c3 => ?_) (fun c3 => ?_)⟩) (fun c2 => ?_)
          · -- lend
            have ex : x = "lend" := by injection c2
            have l3 := (lenI 3).mp c3
            subst ex
            cases ht with
            | nil => simp at l3
            | @cons v1 vs1 d1 ds1 h1 ht1 =>
              cases ht1 with
              | nil => simp at l3
              | @cons v2 vs2 d2 ds2 h2 ht2 =>
                cases ht2 with
                | cons _ _ => simp at l3
                | nil =>
                  have o1 : okD d1 = true ∧ okD d2 = true := by
                    have := Bool.and_eq_true_iff.mp (show (okD d1 && oksD [d2]) = true from od0.2)
                    exact ⟨this.1, (Bool.and_eq_true_iff.mp (show (okD d2 && oksD []) = true from this.2)).1⟩
                  have i1 : atI [V.str "lend", v1, v2] 1 = some v1 := atI_nat (j := 1) rfl
                  have i2 : atI [V.str "lend", v1, v2] 2 = some v2 := atI_nat (j := 2) rfl
                  refine ⟨_, rfl, _, _, _, _, rfl, rfl, at0 H Same.refl, i1, Z, v1, d1, rfl, h1, o1.1, fun H1 s1 => ⟨_, rfl, ?_⟩⟩
                  cases e1 : isName d1 with
                  | false =>
                    refine iteF ?_
                    have := k H1 s1
                    have e : isAct (.tuple [.str "lend", d1, d2]) = false := by
                      rw [isAct3, e1]; simp
                    rw [e] at this
                    exact this
                  | true =>
                    refine iteT ⟨_, rfl, _, _, _, _, rfl, rfl, at0 H1 s1, i2, Z, v2, d2, rfl, h2.same s1, o1.2, fun H2 s2 => ⟨_, rfl, ?_⟩⟩
                    have s12 := Same.trans' s1 s2
                    have kk := k H2 s12
                    have e : isAct (.tuple [.str "lend", d1, d2]) = digitOk d2 := by
                      rw [isAct3, e1]; simp
                    rw [e] at kk
                    cases h2 with
                    | int i =>
                      refine iteT ⟨_, rfl, _, _, _, _, rfl, rfl, at0 H2 s12, i2, _, _, rfl, rfl, _, rfl, ?_⟩
                      refine ite_d (fun c4 => ⟨_, _, rfl, rfl, ?_⟩) (fun c4 => ?_)
                      · have kk' : Q (.bl (decide (0 ≤ i) && decide (i ≤ 3))) H2 := kk
                        rw [decide_eq_true c4] at kk'
                        exact kk'
                      · have kk' : Q (.bl (decide (0 ≤ i) && decide (i ≤ 3))) H2 := kk
                        rw [decide_eq_false c4] at kk'
                        exact kk'
                    | _ => exact iteF kk
          all_goals
            refine ⟨_, rfl, _, _, _, _, rfl, rfl, at0 H Same.refl, i0, rfl, _, rfl, ?_⟩
            refine ite_d (fun c5 => ⟨_, rfl, _, _, rfl, .inr ⟨_, at0 H Same.refl, rfl⟩, rfl, _, rfl, ite_d (fun c6 => ?_) (fun c6 => ?_)⟩) (fun c5 => ?_)
            · have ex : x = "door" := by injection c5
              have l2 := (lenI 2).mp c6
              subst ex
              cases ht with
              | nil => simp at l2
              | @cons v1 vs1 d1 ds1 h1 ht1 =>
                cases ht1 with
                | cons _ _ => simp at l2
                | nil =>
                  have o1 : okD d1 = true := (Bool.and_eq_true_iff.mp (show (okD d1 && oksD []) = true from od0.2)).1
                  have i1 : atI [V.str "door", v1] 1 = some v1 := atI_nat (j := 1) rfl
                  refine ⟨_, rfl, _, _, _, _, rfl, rfl, at0 H Same.refl, i1, Z, v1, d1, rfl, h1, o1, fun H1 s1 => ?_⟩
                  have := k H1 s1
                  have e : isAct (.tuple [.str "door", d1]) = isName d1 := by
                    rw [isAct2]; simp
                  rw [e] at this
                  exact this
            all_goals
              refine ⟨_, rfl, _, _, rfl, .inr ⟨_, at0 H Same.refl, rfl⟩, rfl, _, rfl, ?_⟩
              refine ite_d (fun c7 => ?_) (fun c7 => ?_)
              · have l1 := (lenI 1).mp c7
                cases ht with
                | cons _ _ => simp at l1
                | nil =>
                  refine ⟨_, rfl, _, _, _, _, rfl, rfl, at0 H Same.refl, i0, pa, _, rfl, .inr (GP.s H), rfl, flat_strs _, ?_⟩
                  have := k H Same.refl
                  rw [inV_strs]
                  exact this
              · have := k H Same.refl
                have e : isAct (.tuple (.str x :: ds0)) = false := by
                  have n1 : ¬ ds0.length + 1 = 1 := fun z => c7 ((lenI 1).mpr z)
                  rcases ds0 with _ | ⟨d1, _ | ⟨d2, _ | ⟨d3, ds3⟩⟩⟩
                  · simp at n1
                  · rw [isAct2]
                    first
                      | (rw [decide_eq_false (fun z => c5 (by rw [z]))]; rfl)
                      | exact absurd ((lenI 2).mpr rfl) c6
                  · rw [isAct3]
                    first
                      | (rw [decide_eq_false (fun z => c2 (by rw [z]))]; rfl)
                      | exact absurd ((lenI 3).mpr rfl) c3
                  · rfl
                rw [e] at this
                exact this
        | _ => simp [isT, tyD] at c0
      · have c1 : isT "str" d0 = false := by simpa using c0
        rw [c1]
        refine iteT ?_
        have := k H Same.refl
        rw [not_str_act c1] at this
        exact this
  | _ => exact iteT (iteT (k H Same.refl))
end
end Hv

namespace Hv
open PySem PySem.Spec PyProof.Rows L2
theorem range_getD' {α : Type} (d : α) (l : List α) (f : α → Bool) : ((List.range l.length).map (fun i => f (l.getD i d))).all id = l.all f := by
  rw [range_getD f, List.all_map]
  rfl
section
variable {P : Program} {w : World} {K : PySem.W.Frag} {mg : Str → Option Value} {base : Heap}
theorem ok_is_row (D : DefAt K mg "is_row" s_is_row) (T : Nm mg) (cis_list : Dn P w K mg base 1 "is_list" ["value"] (spB isList)) (cis_act : Dn P w K mg base 2 "is_act" ["value"] (spB isAct)) :
    Dn P w K mg base 3 "is_row" ["value"] (fun vs H Q E => spB isRow vs H Q E ∧ ∀ a xs, vs = [.ref a] → (H a = some (.lst xs) ∨ H a = some (.tup xs)) → xs.length < sizeLine) := by
  refine dn_mk D sc_is_row (fun _ _ _ _ _ _ us hl => match us, hl with | [_], _ => rfl) (fun vs H Q E h => spB_len vs H Q E h.1) (fun f cdv A outer s H vs Q E hr h => ?_)
  obtain ⟨⟨Z, v, d, rfl, dv, od, k⟩, hz⟩ := h
  refine ⟨_, ((pss_one (ps_ret (pe_and (pe_d cis_list hr (by decide) (by rfl) (pa_cons (pv 0) pa_nil)) (pe_one (pe_callB (cr_all rfl) (by rfl) T.n_all (by decide +kernel) (pa_cons (pe_lc (own := [("act", 1)]) (g := gName 1) rfl sc_is_row.nd (PI.or (pi_list (pv 0)) (pi_tup (pv 0))) (blkOk_by (own := [("act", 1)]) (N := N_is_row) (sc := defScope s_is_row) (by decide +kernel)) (fun _ _ _ _ _ => (pg_name (i := 1) sc_is_row.nd rfl (Or.inl rfl))) (fun _ _ _ _ _ => pts_nil) (fun _ _ _ _ _ => (pe_d cis_act hr (by decide) (by rfl) (pa_cons (pv 1) pa_nil)))) pa_nil))))))), ?_⟩
  refine ⟨_, rfl, Z, v, d, rfl, dv, od, fun H1 s1 => ⟨_, rfl, ?_⟩⟩
  cases dv with
  | @lst a xs ds nz ha hs =>
    refine iteT (.inl ⟨_, rfl, a, rfl, ⟨xs, SqL.of (s1 _ _ ha)⟩, fun D hD => ?_⟩)
    refine lc_pure (walk_list (K := K) (a := a) (xs := xs)) (fun i => .bl (isAct (ds.getD i .none))) hD (hz a xs rfl (.inl ha)) (fun H2 s2 => SqL.of (s2 _ _ (s1 _ _ ha))) ?_ ?_
    · rintro i x H2 H' κ hi s2 ⟨rfl, hx⟩ kk
      obtain ⟨di, e1, e2⟩ := hs.get hx
      have eg : ds.getD i .none = di := by rw [List.getD_eq_getElem?_getD, e1]; rfl
      rw [eg] at kk
      exact ⟨rfl, _, rfl, Z, x, di, rfl, e2.same (Same.trans' s1 s2), oksD_mem od di (List.mem_of_getElem? e1), fun H4 s4 => kk H4 s4⟩
    · intro H2 s2 hl
      refine ⟨D, (List.range xs.length).map fun i => isAct (ds.getD i .none), rfl, SqL.of (by rw [hl, List.map_map]; rfl), ?_⟩
      have := k H2 (Same.trans' s1 s2)
      rw [show xs.length = ds.length from hs.length, range_getD']
      exact this
  | @tup a xs ds nz ha hs =>
    refine iteT (.inr ⟨_, rfl, a, rfl, ⟨xs, SqT.of (s1 _ _ ha)⟩, fun D hD => ?_⟩)
    refine lc_pure (walk_tup (K := K) (a := a) (xs := xs)) (fun i => .bl (isAct (ds.getD i .none))) hD (hz a xs rfl (.inr ha)) (fun H2 s2 => SqT.of (s2 _ _ (s1 _ _ ha))) ?_ ?_
    · rintro i x H2 H' κ hi s2 ⟨rfl, hx⟩ kk
      obtain ⟨di, e1, e2⟩ := hs.get hx
      have eg : ds.getD i .none = di := by rw [List.getD_eq_getElem?_getD, e1]; rfl
      rw [eg] at kk
      exact ⟨rfl, _, rfl, Z, x, di, rfl, e2.same (Same.trans' s1 s2), oksD_mem od di (List.mem_of_getElem? e1), fun H4 s4 => kk H4 s4⟩
    · intro H2 s2 hl
      refine ⟨D, (List.range xs.length).map fun i => isAct (ds.getD i .none), rfl, SqL.of (by rw [hl, List.map_map]; rfl), ?_⟩
      have := k H2 (Same.trans' s1 s2)
      rw [show xs.length = ds.length from hs.length, range_getD']
      exact this
  | _ => exact iteF (k H1 s1)
end
end Hv

namespace Hv
open PySem PySem.Spec PyProof.Rows L2
abbrev s__law_is_label : Stmt := topS 26
abbrev N__law_is_label : List Str := ["_law_some", "_law_signs", "_law_sign"]
theorem sc__law_is_label : FnScope N__law_is_label ["_law_some"] (defScope s__law_is_label) := ⟨rfl, rfl, rfl, by decide +kernel, rfl, by decide +kernel, by decide +kernel⟩
abbrev s__law_is_act : Stmt := topS 27
abbrev N__law_is_act : List Str := ["_law_some"]
theorem sc__law_is_act : FnScope N__law_is_act ["_law_some"] (defScope s__law_is_act) := ⟨rfl, rfl, rfl, by decide +kernel, rfl, by decide +kernel, by decide +kernel⟩
abbrev signsS : Str := "abcdefghijklmnopqrstuvwxyz0123456789"
theorem cut26 : cutS signsS none (some 26) = lettersS := by decide +kernel
theorem signs_mem (c : Nat) : decide (c ∈ signsS.cps.toList) = lod c := by
  have e : signsS.cps.toList = lettersS.cps.toList ++ digitsS.cps.toList := by decide +kernel
  rw [e]
  unfold lod low dig
  by_cases h1 : c ∈ lettersS.cps.toList
  · rw [decide_eq_true h1, decide_eq_true (List.mem_append_left _ h1)] <;> rfl
  · by_cases h2 : c ∈ digitsS.cps.toList
    · rw [decide_eq_true h2, decide_eq_true (List.mem_append_right _ h2), Bool.or_true]
    · rw [decide_eq_false h1, decide_eq_false h2, decide_eq_false (fun z => (List.mem_append.mp z).elim h1 h2)] <;> rfl
section
variable {P : Program} {w : World} {K : PySem.W.Frag} {mg : Str → Option Value} {base : Heap}
theorem ok_is_label (D : DefAt K mg "_law_is_label" s__law_is_label) (T : Nm mg) : Dn P w K mg base 1 "_law_is_label" ["_law_some"] (spB isName) := by
  refine dn_mk D sc__law_is_label (fun _ _ _ _ _ _ us hl => match us, hl with | [_], _ => rfl) spB_len (fun f cdv A outer s H vs Q E hr h => ?_)
  obtain ⟨Z, v, d, rfl, dv, od, k⟩ := h
  refine ⟨_, ((pss_cons (ps_set (i := 1) sc__law_is_label.nd rfl (Or.inr rfl) pe_str)
 (pss_cons (ps_if (PW.pt (pw_or (pt_not (pt_val (pe_callB call_isi (by rfl) T.n_isinstance (by decide +kernel) (pa_cons (pv 0) (pa_cons (pe_bltn (v := .ty "str") (by rfl) T.n_str (by decide +kernel) rfl) pa_nil))))) (pw_or (pt_cmpR op_eq (pe_callB call_len (by rfl) T.n_len (by decide +kernel) (pa_cons (pv 0) pa_nil)) pe_int (nomark _)) (pw_or (pt_cmpR op_gt (pe_callB call_len (by rfl) T.n_len (by decide +kernel) (pa_cons (pv 0) pa_nil)) pe_int (nomark _)) (pw_or1 (pt_cmpR op_notIn_sign (pe_ix ix_str (pv 0) pe_int (fun _ _ => rfl)) (pe_slice sl_str (pv 1) po_none (po_some pe_int)) (by rfl)))))))
 (pss_one (ps_ret pe_bl))
 pss_nil)
 (pss_one (ps_ret (pe_callB (cr_all rfl) (by rfl) T.n_all (by decide +kernel) (pa_cons (pe_lc (own := [("_law_sign", 2)]) (g := gName 2) rfl sc__law_is_label.nd (pi_str (pv 0)) (blkOk_by (own := [("_law_sign", 2)]) (N := N__law_is_label) (sc := defScope s__law_is_label) (by decide +kernel)) (fun _ _ _ _ _ => (pg_name (i := 2) sc__law_is_label.nd rfl (Or.inl rfl))) (fun _ _ _ _ _ => pts_nil) (fun _ _ _ _ _ => (pe_cmpR op_in_sign (pv 2) (pv 1) (by rfl)))) pa_nil))))))), ?_⟩
  refine ⟨_, rfl, _, _, _, _, _, rfl, .ty _, dv.ty, kit_data (by decide), _, rfl, ?_⟩
  cases dv with
  | str x =>
    refine iteF ?_
    have lx : x.length ≤ 100000 := of_decide_eq_true (Bool.and_eq_true_iff.mp od).1
    have k' : ∀ H', Same H H' → Q (.bl (nameL x.cps.toList)) H' := k
    have szx : x.length ≤ sizeLine := by rw [sizeLine_eq]; omega
    have no : nameL x.cps.toList = false → Q (.bl false) H := fun e => by have := k' H Same.refl; rw [e] at this; exact this
    have ln : x.cps.toList.length = x.length := (len_cps x).symm
    refine ⟨_, rfl, _, _, rfl, ⟨szx, rfl⟩, rfl, _, rfl, ?_⟩
    refine ite_d (fun c1 => ?_) (fun c1 => ?_)
    · refine iteT (no ?_)
      have : x.length = 0 := by injection c1 with z; omega
      unfold nameL
      rw [decide_eq_false (show ¬ 1 ≤ x.cps.toList.length by omega)] <;> rfl
    have c1' : 1 ≤ x.length := by
      rcases Nat.eq_zero_or_pos x.length with z | z
      · exact absurd (by rw [z]; rfl) c1
      · exact z
    refine ⟨_, rfl, _, _, rfl, ⟨szx, rfl⟩, _, _, rfl, rfl, _, rfl, ?_⟩
    refine ite_d (fun c2 => ?_) (fun c2 => ?_)
    · refine iteT (no ?_)
      unfold nameL
      rw [decide_eq_false (show ¬ x.cps.toList.length ≤ 8 by omega)]
      simp
    cases ec : x.cps.toList with
    | nil => rw [ec] at ln; simp at ln; omega
    | cons c cs =>
      refine ⟨_, rfl, _, _, c, rfl, rfl, szx, by rw [ec]; exact atI_nat (j := 0) rfl, _, rfl, _, rfl, _, rfl, by decide, _, _, rfl, rfl, _, rfl, ?_⟩
      rw [cut26]
      refine ite_nd (fun c3 => ?_) (fun c3 => ?_)
      · refine no ?_
        unfold nameL
        rw [ec]
        show (decide _ && decide _ && low c && _) = false
        have : low c = false := decide_eq_false c3
        rw [this]
        simp
      · refine ⟨_, rfl, x, rfl, fun Dd hD => ?_⟩
        refine lc_pure walk_str (fun i => .bl (lod (x.cps.toList.getD i 0))) hD (by show x.length < sizeLine; rw [sizeLine_eq]; omega) (fun _ _ => trivial) ?_ ?_
        · rintro i v H2 H' κ hi s2 ⟨rfl, cc, hc, rfl⟩ kk
          have hg : x.cps.toList.getD i 0 = cc := by
            rw [List.getD_eq_getElem?_getD, Array.getElem?_toList, hc]
            rfl
          rw [hg] at kk
          refine ⟨rfl, _, rfl, _, rfl, _, _, rfl, rfl, ?_⟩
          rw [signs_mem]
          exact kk _ Same.refl
        · intro H2 s2 hl
          refine ⟨Dd, (List.range x.cps.size).map fun i => lod (x.cps.toList.getD i 0), rfl, SqL.of (by rw [hl, List.map_map]; rfl), ?_⟩
          have e : ((List.range x.cps.size).map fun i => lod (x.cps.toList.getD i 0)).all id = nameL x.cps.toList := by
            have es : x.cps.size = x.cps.toList.length := Array.length_toList.symm
            rw [es, range_getD lod]
            unfold nameL
            rw [decide_eq_true (show 1 ≤ x.cps.toList.length by omega), decide_eq_true (show x.cps.toList.length ≤ 8 by omega), ec]
            have hl : low c = true := decide_eq_true c3
            show _ = (true && true && low c && (c :: cs).all lod)
            rw [hl, List.all_map]
            rfl
          rw [e]
          exact k' H2 s2
  | _ => exact iteT (iteT (k H Same.refl))
end
end Hv

namespace Hv
open PySem PySem.Spec PyProof.Rows L2
section
variable {P : Program} {w : World} {K : PySem.W.Frag} {mg : Str → Option Value} {base : Heap}
theorem ok_law_is_act (D : DefAt K mg "_law_is_act" s__law_is_act) (T : Nm mg) (c_law_is_label : Dn P w K mg base 1 "_law_is_label" ["_law_some"] (spB isName)) :
    Dn P w K mg base 2 "_law_is_act" ["_law_some"] (spB isAct) := by
  refine dn_mk D sc__law_is_act (fun _ _ _ _ _ _ us hl => match us, hl with | [_], _ => rfl) spB_len (fun f cdv A outer s H vs Q E hr h => ?_)
  obtain ⟨Z, v, d, rfl, dv, od, k⟩ := h
  refine ⟨_, ((pss_cons (ps_if (PW.pt (pw_or (pt_not (pt_val (pe_callB call_isi (by rfl) T.n_isinstance (by decide +kernel) (pa_cons (pv 0) (pa_cons (pe_bltn (v := .ty "tuple") (by rfl) T.n_tuple (by decide +kernel) rfl) pa_nil))))) (pw_or (pt_cmpR op_eq (pe_callB call_len (by rfl) T.n_len (by decide +kernel) (pa_cons (pv 0) pa_nil)) pe_int (nomark _)) (pw_or1 (pt_not (pt_val (pe_callB call_isi (by rfl) T.n_isinstance (by decide +kernel) (pa_cons (pe_ix ix_tup (pv 0) pe_int (fun _ _ => rfl)) (pa_cons (pe_bltn (v := .ty "str") (by rfl) T.n_str (by decide +kernel) rfl) pa_nil)))))))))
 (pss_one (ps_ret pe_bl))
 pss_nil)
 (pss_cons (ps_if (pt_cmpR op_eq (pe_ix ix_tup (pv 0) pe_int (fun _ _ => rfl)) pe_str (nomark _))
 (pss_one (ps_ret (pe_and (pe_cmpR op_eq (pe_callB call_len (by rfl) T.n_len (by decide +kernel) (pa_cons (pv 0) pa_nil)) pe_int (nomark _)) (pe_one (pe_d c_law_is_label hr (by decide) (by rfl) (pa_cons (pe_ix ix_tup (pv 0) pe_int (fun _ _ => rfl)) pa_nil))))))
 pss_nil)
 (pss_cons (ps_if (pt_cmpR op_eq (pe_ix ix_tup (pv 0) pe_int (fun _ _ => rfl)) pe_str (nomark _))
 (pss_cons (ps_if (PW.pt (pw_or (pt_cmpR op_ne (pe_callB call_len (by rfl) T.n_len (by decide +kernel) (pa_cons (pv 0) pa_nil)) pe_int (nomark _)) (pw_or1 (pt_not (pt_val (pe_d c_law_is_label hr (by decide) (by rfl) (pa_cons (pe_ix ix_tup (pv 0) pe_int (fun _ _ => rfl)) pa_nil)))))))
 (pss_one (ps_ret pe_bl))
 pss_nil)
 (pss_one (ps_ret (pe_and (pe_callB call_isi (by rfl) T.n_isinstance (by decide +kernel) (pa_cons (pe_ix ix_tup (pv 0) pe_int (fun _ _ => rfl)) (pa_cons (pe_bltn (v := .ty "int") (by rfl) T.n_int (by decide +kernel) rfl) pa_nil))) (pe_and (pe_not (pe_callB call_isi (by rfl) T.n_isinstance (by decide +kernel) (pa_cons (pe_ix ix_tup (pv 0) pe_int (fun _ _ => rfl)) (pa_cons (pe_bltn (v := .ty "bool") (by rfl) T.n_bool (by decide +kernel) rfl) pa_nil)))) (pe_one (pe_chain op_le op_le pe_int (pe_ix ix_tup (pv 0) pe_int (fun _ _ => rfl)) pe_int)))))))
 pss_nil)
 (pss_one (ps_ret (pe_and (pe_cmpR op_eq (pe_callB call_len (by rfl) T.n_len (by decide +kernel) (pa_cons (pv 0) pa_nil)) pe_int (nomark _)) (pe_one (pe_cmpR op_in_seq (pe_ix ix_tup (pv 0) pe_int (fun _ _ => rfl)) (pe_tup (pa_cons pe_str (pa_cons pe_str (pa_cons pe_str (pa_cons pe_str (pa_cons pe_str (pa_cons pe_str pa_nil))))))) (by rfl)))))))))), ?_⟩
  refine ⟨_, rfl, _, _, _, _, _, rfl, .ty _, dv.ty, kit_data (by decide), _, rfl, ?_⟩
  cases dv with
  | @tup a xs ds nz ha hs =>
    refine iteF ?_
    refine ⟨_, rfl, _, _, rfl, .inr ⟨xs, SqT.of ha, rfl⟩, rfl, _, rfl, ?_⟩
    cases hs with
    | nil =>
      refine ite_d (fun c => iteT (k H Same.refl)) (fun c => absurd rfl c)
    | @cons v0 vs0 d0 ds0 h0 ht =>
      refine ite_d (fun c => absurd c (by intro z; injection z with z; simp at z; omega)) (fun c => ?_)
      have at0 : ∀ H', Same H H' → SqT K H' a (v0 :: vs0) := fun H' s' => SqT.of (s' _ _ ha)
      have i0 : atI (v0 :: vs0) 0 = some v0 := atI_nat (j := 0) rfl
      refine ⟨_, rfl, _, _, _, _, rfl, rfl, at0 H Same.refl, i0, _, _, _, _, _, rfl, .ty _, h0.ty, kit_data (by decide), _, rfl, ?_⟩
      have od0 : (okD d0 && oksD ds0) = true := od
      rw [Bool.and_eq_true] at od0
      by_cases c0 : isT "str" d0 = true
      · rw [c0]
        refine iteF ?_
        cases h0 with
        | str x =>
          have lenI : ∀ n : Nat, (V.int ((((V.str x) :: vs0).length : Nat) : Int) = V.int (n : Int)) ↔ ds0.length + 1 = n := fun n => by
            have := ht.length
            constructor
            · intro z; injection z with z; simp at z; omega
            · intro z; simp; omega
          have no : isAct (.tuple (.str x :: ds0)) = false → ∀ H', Same H H' → Q (.bl false) H' := fun e H' s' => by have := k H' s'; rw [e] at this; exact this
          -- == "door"
          refine ⟨_, rfl, _, _, _, _, rfl, rfl, at0 H Same.refl, i0, rfl, _, rfl, ite_d (fun c1 => ?_) (fun c1 => ?_)⟩
          · have ex : x = "door" := by injection c1
            subst ex
            refine ⟨_, rfl, _, _, rfl, .inr ⟨_, at0 H Same.refl, rfl⟩, rfl, _, rfl, ite_d (fun c2 => ?_) (fun c2 => ?_)⟩
            · have l2 := (lenI 2).mp c2
              cases ht with
              | nil => simp at l2
              | @cons v1 vs1 d1 ds1 h1 ht1 =>
                cases ht1 with
                | cons _ _ => simp at l2
                | nil =>
                  have o1 : okD d1 = true := (Bool.and_eq_true_iff.mp (show (okD d1 && oksD []) = true from od0.2)).1
                  have i1 : atI [V.str "door", v1] 1 = some v1 := atI_nat (j := 1) rfl
                  refine ⟨_, rfl, _, _, _, _, rfl, rfl, at0 H Same.refl, i1, Z, v1, d1, rfl, h1, o1, fun H1 s1 => ?_⟩
                  have := k H1 s1
                  rw [isAct2] at this
                  simpa using this
            · refine no ?_ H Same.refl
              rcases ds0 with _ | ⟨d1, _ | ⟨d2, _ | ⟨d3, ds3⟩⟩⟩
              · rw [isAct1]; decide
              · exact absurd ((lenI 2).mpr rfl) c2
              · rw [isAct3, decide_eq_false (show ¬ ("door" : Str) = "lend" by decide +kernel)]; rfl
              · rfl
          have nd : x ≠ "door" := fun z => c1 (by rw [z])
          refine ⟨_, rfl, _, _, _, _, rfl, rfl, at0 H Same.refl, i0, rfl, _, rfl, ite_d (fun c3 => ?_) (fun c3 => ?_)⟩
          · have ex : x = "lend" := by injection c3
            subst ex
            refine ⟨_, rfl, _, _, rfl, .inr ⟨_, at0 H Same.refl, rfl⟩, rfl, _, rfl, ite_nd (fun c4 => ?_) (fun c4 => ?_)⟩
            · refine iteT (no ?_ H Same.refl)
              rcases ds0 with _ | ⟨d1, _ | ⟨d2, _ | ⟨d3, ds3⟩⟩⟩
              · rw [isAct1]; decide
              · rw [isAct2, decide_eq_false (show ¬ ("lend" : Str) = "door" by decide +kernel)]; rfl
              · exact absurd ((lenI 3).mpr rfl) c4
              · rfl
            · have l3 := (lenI 3).mp c4
              cases ht with
              | nil => simp at l3
              | @cons v1 vs1 d1 ds1 h1 ht1 =>
                cases ht1 with
                | nil => simp at l3
                | @cons v2 vs2 d2 ds2 h2 ht2 =>
                  cases ht2 with
                  | cons _ _ => simp at l3
                  | nil =>
                    have o1 : okD d1 = true ∧ okD d2 = true := by
                      have := Bool.and_eq_true_iff.mp (show (okD d1 && oksD [d2]) = true from od0.2)
                      exact ⟨this.1, (Bool.and_eq_true_iff.mp (show (okD d2 && oksD []) = true from this.2)).1⟩
                    have i1 : atI [V.str "lend", v1, v2] 1 = some v1 := atI_nat (j := 1) rfl
                    have i2 : atI [V.str "lend", v1, v2] 2 = some v2 := atI_nat (j := 2) rfl
                    refine ⟨_, rfl, _, _, _, _, rfl, rfl, at0 H Same.refl, i1, Z, v1, d1, rfl, h1, o1.1, fun H1 s1 => ⟨_, rfl, ?_⟩⟩
                    cases e1 : isName d1 with
                    | false => exact iteT (no (by rw [isAct3, e1]; simp) H1 s1)
                    | true =>
                      refine iteF ⟨_, rfl, _, _, _, _, rfl, rfl, at0 H1 s1, i2, _, _, _, _, _, rfl, .ty _, (h2.same s1).ty, kit_data (by decide), _, rfl, ?_⟩
                      have kk := k H1 s1
                      have e : isAct (.tuple [.str "lend", d1, d2]) = digitOk d2 := by rw [isAct3, e1]; simp
                      rw [e] at kk
                      cases h2 with
                      | int i =>
                        refine iteT ⟨_, rfl, _, _, _, _, rfl, rfl, at0 H1 s1, i2, _, _, _, _, _, rfl, .ty _, ((Dat.int (Z := Z) (H := H1) i)).ty, kit_data (by decide), _, rfl, _, rfl, ?_⟩
                        refine iteT ⟨_, rfl, _, _, _, _, rfl, rfl, at0 H1 s1, i2, _, _, rfl, rfl, _, rfl, ?_⟩
                        have kk' : Q (.bl (decide (0 ≤ i) && decide (i ≤ 3))) H1 := kk
                        refine ite_d (fun c4 => ⟨_, _, rfl, rfl, ?_⟩) (fun c4 => ?_)
                        · rw [decide_eq_true c4] at kk'
                          exact kk'
                        · rw [decide_eq_false c4] at kk'
                          exact kk'
                      | bl b => exact iteT ⟨_, rfl, _, _, _, _, rfl, rfl, at0 H1 s1, i2, _, _, _, _, _, rfl, .ty _, ((Dat.bl (Z := Z) (H := H1) b)).ty, kit_data (by decide), _, rfl, _, rfl, iteF kk⟩
                      | _ => exact iteF kk
          have nl : x ≠ "lend" := fun z => c3 (by rw [z])
          refine ⟨_, rfl, _, _, rfl, .inr ⟨_, at0 H Same.refl, rfl⟩, rfl, _, rfl, ite_d (fun c7 => ?_) (fun c7 => ?_)⟩
          · have l1 := (lenI 1).mp c7
            cases ht with
            | cons _ _ => simp at l1
            | nil =>
              refine ⟨_, rfl, _, _, _, _, rfl, rfl, at0 H Same.refl, i0, by show 6 ≤ sizeLine; decide, fun p hp => ⟨p, plainActs.map V.str, rfl, .inr (SqT.of upd_same), rfl, flat_strs _, ?_⟩⟩
              have := k _ (Same.new (o := .tup (plainActs.map V.str)) hp)
              rw [inV_strs]
              rw [isAct1] at this
              exact this
          · refine no ?_ H Same.refl
            have n1 : ¬ ds0.length + 1 = 1 := fun z => c7 ((lenI 1).mpr z)
            rcases ds0 with _ | ⟨d1, _ | ⟨d2, _ | ⟨d3, ds3⟩⟩⟩
            · simp at n1
            · rw [isAct2, decide_eq_false nd]; rfl
            · rw [isAct3, decide_eq_false nl]; rfl
            · rfl
        | _ => simp [isT, tyD] at c0
      · have c1 : isT "str" d0 = false := by simpa using c0
        rw [c1]
        refine iteT ?_
        have := k H Same.refl
        rw [not_str_act c1] at this
        exact this
  | _ => exact iteT (iteT (k H Same.refl))
end
end Hv

namespace Hv
open PySem PySem.Spec PyProof.Rows L2
abbrev s__law_draw : Stmt := topS 19
abbrev N__law_draw : List Str := ["_law_pot_here", "_law_sides", "_law_digit"]
theorem sc__law_draw : FnScope N__law_draw ["_law_pot_here", "_law_sides"] (defScope s__law_draw) := ⟨rfl, rfl, rfl, by decide +kernel, rfl, by decide +kernel, by decide +kernel⟩
abbrev s__law_pick : Stmt := topS 20
abbrev N__law_pick : List Str := ["_law_pot_here", "_law_some"]
theorem sc__law_pick : FnScope N__law_pick ["_law_pot_here", "_law_some"] (defScope s__law_pick) := ⟨rfl, rfl, rfl, by decide +kernel, rfl, by decide +kernel, by decide +kernel⟩
abbrev s__law_label : Stmt := topS 21
abbrev N__law_label : List Str := ["_law_pot_here", "_law_signs", "_law_size", "_law_turn"]
theorem sc__law_label : FnScope N__law_label ["_law_pot_here"] (defScope s__law_label) := ⟨rfl, rfl, rfl, by decide +kernel, rfl, by decide +kernel, by decide +kernel⟩
/-- all that was tracked, but p, is as it was -/
def Kp (p : Addr) (H H' : Hp) : Prop := ∀ b o, H b = some o → b ≠ p → H' b = some o
theorem Kp.refl {p : Addr} {H : Hp} : Kp p H H := fun _ _ e _ => e
theorem Kp.trans {p : Addr} {H H1 H2 : Hp} (a : Kp p H H1) (b : Kp p H1 H2) : Kp p H H2 := fun c o e n => b c o (a c o e n) n
theorem Kp.new {p q : Addr} {H : Hp} {o : HO} (h : H q = none) : Kp p H (upd H q o) := fun b u e _ => by rw [upd_ne (ne_of_none e h)]; exact e
theorem Kp.put {p : Addr} {H : Hp} {o : HO} : Kp p H (upd H p o) := fun b u e n => by rw [upd_ne n]; exact e
/-- the pot: a list of two counts -/
def Pot (H : Hp) (p : Addr) : Prop := ∃ a b : Int, H p = some (.lst [.int a, .int b]) ∧ 0 ≤ a ∧ 0 ≤ b ∧ b < 2147483647
def spDraw : Sp := fun vs H Q _ => ∃ (p : Addr) (n : Int), vs = [.ref p, .int n] ∧ Pot H p ∧ 1 ≤ n ∧ n ≤ 1000000000 ∧
  ∀ (d : Int) (H' : Hp), 0 ≤ d → d < n → Kp p H H' → Pot H' p → Q (.int d) H'

def spPick : Sp := fun vs H Q _ => ∃ (p l : Addr) (xs : List V), vs = [.ref p, .ref l] ∧ Pot H p ∧ H l = some (.lst xs) ∧ l ≠ p ∧ 1 ≤ xs.length ∧ xs.length ≤ 1000000 ∧
  ∀ (i : Nat) (x : V) (H' : Hp), xs[i]? = some x → Kp p H H' → Pot H' p → Q x H'
def spLabel : Sp := fun vs H Q _ => ∃ (p : Addr), vs = [.ref p] ∧ Pot H p ∧ ∀ (x : Str) (H' : Hp), nameL x.cps.toList = true → Kp p H H' → Pot H' p → Q (.str x) H'
theorem Pot.keep {H H' : Hp} {p : Addr} (h : Pot H p) (k : ∀ o, H p = some o → H' p = some o) : Pot H' p := by
  obtain ⟨a, b, e, r⟩ := h
  exact ⟨a, b, k _ e, r⟩
theorem Pot.same {H H' : Hp} {p : Addr} (h : Pot H p) (s : Same H H') : Pot H' p := h.keep fun o e => s _ _ e
theorem Pot.some {H : Hp} {p : Addr} (h : Pot H p) : H p ≠ none := by
  obtain ⟨a, b, e, r⟩ := h
  rw [e]
  exact fun z => nomatch z
theorem Same.kp {H H' : Hp} (s : Same H H') (p : Addr) : Kp p H H' := fun b o e _ => s b o e
theorem sign_at (n : Int) (h0 : 0 ≤ n) (h1 : n < 36) : ∃ c, atI signsS.cps.toList n = some c ∧ lod c = true ∧ (n < 26 → low c = true) := by
  obtain ⟨k, rfl⟩ : ∃ k : Nat, n = (k : Int) := ⟨n.toNat, by omega⟩
  have hk : k < signsS.cps.toList.length := by
    have : signsS.cps.toList.length = 36 := by decide +kernel
    omega
  refine ⟨signsS.cps.toList[k], atI_nat (List.getElem?_eq_getElem hk), ?_, fun h => ?_⟩
  · rw [← signs_mem]
    exact decide_eq_true (List.getElem_mem hk)
  · have e : signsS.cps.toList = lettersS.cps.toList ++ digitsS.cps.toList := by decide +kernel
    have hl : lettersS.cps.toList.length = 26 := by decide +kernel
    refine decide_eq_true ?_
    have : signsS.cps.toList[k] = lettersS.cps.toList[k]'(by omega) := by
      simp only [e]
      rw [List.getElem_append_left]
    rw [this]
    exact List.getElem_mem _
/-- texts of one sign -/
def Ones (ys : List Str) : Prop := ∀ y ∈ ys, ∃ c, y = ⟨#[c]⟩ ∧ lod c = true
theorem Ones.len : ∀ {ys : List Str}, Ones ys → (ys.map (·.length)).sum = ys.length
  | [], _ => rfl
  | y :: ys, h => by
    obtain ⟨c, rfl, _⟩ := h y List.mem_cons_self
    have := Ones.len (ys := ys) fun z hz => h z (List.mem_cons_of_mem _ hz)
    rw [List.map_cons, List.sum_cons, this, List.length_cons]
    show 1 + _ = _
    omega
theorem joinL_nil : ∀ l : List (List Nat), TL.joinL [] l = l.flatten
  | [] => rfl
  | [p] => by simp [TL.joinL]
  | p :: q :: r => by
    show p ++ ([] ++ TL.joinL [] (q :: r)) = _
    rw [joinL_nil (q :: r)]
    simp
theorem Ones.join : ∀ {ys : List Str}, Ones ys → (ys.map TL.tl).flatten.length = ys.length ∧ (ys.map TL.tl).flatten.all lod = true
  | [], _ => ⟨rfl, rfl⟩
  | y :: ys, h => by
    obtain ⟨c, rfl, hc⟩ := h y List.mem_cons_self
    have ih := Ones.join (ys := ys) fun z hz => h z (List.mem_cons_of_mem _ hz)
    have e : TL.tl (⟨#[c]⟩ : Str) = [c] := rfl
    rw [List.map_cons, List.flatten_cons, e, List.length_append, List.all_append, ih.1, ih.2]
    simp [hc]
    omega
theorem label_name {c : Nat} {ys : List Str} (hc : low c = true) (h : Ones ys) (hl : ys.length ≤ 7) : nameL ((⟨#[c]⟩ : Str) ++ Txt.join "" ys).cps.toList = true := by
  have e : ((⟨#[c]⟩ : Str) ++ Txt.join "" ys).cps.toList = c :: (ys.map TL.tl).flatten := by
    show TL.tl ((⟨#[c]⟩ : Str) ++ Txt.join "" ys) = _
    rw [TL.tl_append, TL.join_eq, TL.tl_join]
    show [c] ++ TL.joinL [] _ = _
    rw [joinL_nil]
    rfl
  obtain ⟨h1, h2⟩ := h.join
  rw [e]
  unfold nameL
  have e1 : (c :: (ys.map TL.tl).flatten).length = ys.length + 1 := by rw [List.length_cons, h1]
  rw [decide_eq_true (show 1 ≤ (c :: (ys.map TL.tl).flatten).length by omega), decide_eq_true (show (c :: (ys.map TL.tl).flatten).length ≤ 8 by omega)]
  show (true && true && low c && (c :: (ys.map TL.tl).flatten).all lod) = true
  rw [hc, List.all_cons, h2]
  show (true && true && true && ((low c || dig c) && true)) = true
  rw [hc]
  rfl
section
variable {P : Program} {w : World} {K : PySem.W.Frag} {mg : Str → Option Value} {base : Heap}
theorem ok_draw (D : DefAt K mg "_law_draw" s__law_draw) (T : Nm mg) : Dn P w K mg base 1 "_law_draw" ["_law_pot_here", "_law_sides"] spDraw := by
  refine dn_mk D sc__law_draw (fun _ _ _ _ _ _ us hl => match us, hl with | [_, _], _ => rfl) (fun vs H Q E h => ?_) (fun f cdv A outer s H vs Q E hr h => ?_)
  · obtain ⟨_, _, rfl, _⟩ := h; rfl
  · obtain ⟨p, n, rfl, ⟨a, b, hp, ha, hb, hb2⟩, h1, hn, k⟩ := h
    refine ⟨_,
(pss_cons (ps_if (pt_cmpR op_gt (pe_ix ix_list (pv 0) pe_int (fun _ _ => rfl)) pe_int (nomark _))
 (pss_cons (ps_asg (pe_callB call_divmod (by rfl) T.n_divmod (by decide +kernel) (pa_cons (pe_ix ix_list (pv 0) pe_int (fun _ _ => rfl)) (pa_cons (pv 1) pa_nil))) (pg_tup (by rfl) (pgs_cons (pg_sub (pv 0) pe_int set_list) (pgs_cons (pg_name (i := 2) sc__law_draw.nd rfl (Or.inl rfl)) pgs_nil))))
 (pss_one (ps_ret (pv 2))))
 pss_nil)
 (pss_cons (ps_asg (pe_op op_mod (pe_callTy call_int1 (by rfl) T.n_int (by decide +kernel) (pa_cons (pe_op op_add (pe_op op_mul (pe_ix ix_list (pv 0) pe_int (fun _ _ => rfl)) pe_int) pe_int) pa_nil)) pe_int) (pg_sub (pv 0) pe_int set_list))
 (pss_one (ps_ret (pe_op op_mod (pe_callTy call_int1 (by rfl) T.n_int (by decide +kernel) (pa_cons (pe_op op_fdiv (pe_op op_mod (pe_callTy call_int1 (by rfl) T.n_int (by decide +kernel) (pa_cons (pe_op op_mul (pe_ix ix_list (pv 0) pe_int (fun _ _ => rfl)) (pe_ix ix_list (pv 0) pe_int (fun _ _ => rfl))) pa_nil)) pe_int) pe_int) pa_nil)) (pv 1)))))), ?_⟩
    refine ⟨_, rfl, p, _, _, _, rfl, rfl, SqL.of hp, rfl, _, _, rfl, rfl, _, rfl, ?_⟩
    refine ite2 (fun c => ?_) (fun c => ?_)
    · have c' : 0 < a := of_decide_eq_true c
      refine ⟨_, rfl, p, _, _, _, rfl, rfl, SqL.of hp, rfl, _, rfl, _, _, rfl, ⟨by omega, by omega⟩, fun q hq => ?_⟩
      have npq : p ≠ q := ne_of_none hp hq
      refine ⟨q, _, rfl, SqT.of upd_same, rfl, _, _, rfl, _, rfl, p, _, _, _, rfl, rfl, (by rw [upd_ne npq]; exact hp), rfl, _, _, rfl, rfl, _, rfl, ?_⟩
      refine k _ _ (Int.emod_nonneg _ (by omega)) (Int.emod_lt_of_pos _ (by omega)) ((Kp.new hq).trans Kp.put) ⟨_, _, upd_same, Int.ediv_nonneg ha (by omega), hb, hb2⟩
    · refine ⟨_, rfl, p, _, _, _, rfl, rfl, SqL.of hp, rfl, _, _, rfl, rfl, .inr ⟨by decide, by decide⟩, _, _, rfl, rfl, .inl ⟨_, rfl, _, _, rfl, rfl, (by show (0 : Int) < 2147483587; decide), ?_⟩⟩
      refine ⟨_, rfl, p, _, _, _, rfl, rfl, hp, rfl, ?_⟩
      refine ⟨_, rfl, p, _, _, _, rfl, rfl, SqL.of upd_same, rfl, _, rfl, p, _, _, _, rfl, rfl, SqL.of upd_same, rfl, _, _, rfl, rfl, .inl ⟨?_, ?_⟩, .inl ⟨_, rfl, _, _, rfl, rfl, (by show (0 : Int) < 2147483549; decide), _, _, rfl, rfl, ⟨by decide, by decide⟩, .inl ⟨_, rfl, _, rfl, _, _, rfl, rfl, (by omega), ?_⟩⟩⟩
      · have := Int.emod_nonneg (b * 40009 + 15013) (show (2147483587 : Int) ≠ 0 by decide); omega
      · have := Int.emod_lt_of_pos (b * 40009 + 15013) (show (0 : Int) < 2147483587 by decide); omega
      · refine k _ _ (Int.emod_nonneg _ (by omega)) (Int.emod_lt_of_pos _ (by omega)) Kp.put ⟨_, _, upd_same, ha, Int.emod_nonneg _ (by decide), ?_⟩
        have := Int.emod_lt_of_pos (b * 40009 + 15013) (show (0 : Int) < 2147483587 by decide); omega

theorem ok_pick (D : DefAt K mg "_law_pick" s__law_pick) (T : Nm mg) (c_law_draw : Dn P w K mg base 1 "_law_draw" ["_law_pot_here", "_law_sides"] spDraw) : Dn P w K mg base 2 "_law_pick" ["_law_pot_here", "_law_some"] spPick := by
  refine dn_mk D sc__law_pick (fun _ _ _ _ _ _ us hl => match us, hl with | [_, _], _ => rfl) (fun vs H Q E h => ?_) (fun f cdv A outer s H vs Q E hr h => ?_)
  · obtain ⟨_, _, _, rfl, _⟩ := h; rfl
  obtain ⟨p, l, xs, rfl, pot, hl, ne, h1, h2, k⟩ := h
  refine ⟨_, ((pss_one (ps_ret (pe_ix ix_list (pv 1) (pe_d c_law_draw hr (by decide) (by rfl) (pa_cons (pv 0) (pa_cons (pe_callB call_len (by rfl) T.n_len (by decide +kernel) (pa_cons (pv 1) pa_nil)) pa_nil))) (fun _ _ => rfl))))), ?_⟩
  refine ⟨_, rfl, _, rfl, _, rfl, _, _, rfl, .inl ⟨xs, SqL.of hl, rfl⟩, p, _, rfl, pot, by omega, by omega, fun d H' d0 d1 kp pot' => ?_⟩
  have hd : d.toNat < xs.length := by omega
  exact ⟨l, xs, d, xs[d.toNat], rfl, rfl, SqL.of (kp _ _ hl ne), by
    have e : ((d.toNat : Nat) : Int) = d := by omega
    have q : atI xs ((d.toNat : Nat) : Int) = some xs[d.toNat] := atI_nat (by simp [hd])
    rw [e] at q
    exact q, k d.toNat _ H' (by simp [hd]) kp pot'⟩
theorem ok_label (D : DefAt K mg "_law_label" s__law_label) (T : Nm mg) (c_law_draw : Dn P w K mg base 1 "_law_draw" ["_law_pot_here", "_law_sides"] spDraw) (c_law_pick : Dn P w K mg base 2 "_law_pick" ["_law_pot_here", "_law_some"] spPick) :
    Dn P w K mg base 3 "_law_label" ["_law_pot_here"] spLabel := by
  refine dn_mk D sc__law_label (fun _ _ _ _ _ _ us hl => match us, hl with | [_], _ => rfl) (fun vs H Q E h => ?_) (fun f cdv A outer s H vs Q E hr h => ?_)
  · obtain ⟨_, rfl, _⟩ := h; rfl
  obtain ⟨p, rfl, pot, k⟩ := h
  refine ⟨_, ((pss_cons (ps_set (i := 1) sc__law_label.nd rfl (Or.inr rfl) pe_str)
 (pss_cons (ps_set (i := 2) sc__law_label.nd rfl (Or.inl rfl) (pe_d c_law_pick hr (by decide) (by rfl) (pa_cons (pv 0) (pa_cons (pe_lst (pa_cons pe_int (pa_cons pe_int (pa_cons pe_int (pa_cons pe_int (pa_cons pe_int (pa_cons pe_int (pa_cons pe_int (pa_cons pe_int pa_nil))))))))) pa_nil))))
 (pss_one (ps_ret (pe_op op_add_str (pe_ix ix_str (pv 1) (pe_d c_law_draw hr (by decide) (by rfl) (pa_cons (pv 0) (pa_cons pe_int pa_nil))) (fun _ _ => rfl)) (pe_join pe_str (pe_lc (own := [("_law_turn", 3)]) (g := gName 3) rfl sc__law_label.nd (pi_range1 (by rfl) T.n_range (pa_cons (pe_op op_sub (pv 2) pe_int) pa_nil)) (blkOk_by (own := [("_law_turn", 3)]) (N := N__law_label) (sc := defScope s__law_label) (by decide +kernel)) (fun _ _ _ _ _ => (pg_name (i := 3) sc__law_label.nd rfl (Or.inl rfl))) (fun _ _ _ _ _ => pts_nil) (fun _ _ _ _ _ => (pe_ix ix_str (pv 1) (pe_d c_law_draw hr (by decide) (by rfl) (pa_cons (pv 0) (pa_cons pe_int pa_nil))) (fun _ _ => rfl))))))))))), ?_⟩
  refine ⟨_, rfl, by show 8 ≤ sizeLine; decide, fun l hl => ?_⟩
  have nlp : l ≠ p := fun z => pot.some (z ▸ hl)
  refine ⟨p, l, _, rfl, pot.same (Same.new hl), upd_same, nlp, by decide, by decide, fun i x H1 hx kp1 pot1 => ?_⟩
  obtain ⟨n, rfl, n1, n8⟩ : ∃ n : Int, x = .int n ∧ 1 ≤ n ∧ n ≤ 8 := by
    have := List.mem_of_getElem? hx
    simp only [List.mem_cons, List.not_mem_nil, or_false] at this
    rcases this with z | z | z | z | z | z | z | z <;> subst z <;> exact ⟨_, rfl, by decide, by decide⟩
  refine ⟨_, rfl, _, rfl, p, 26, rfl, pot1, by decide, by decide, fun d H2 d0 d1 kp2 pot2 => ?_⟩
  obtain ⟨c, ca, _, cl⟩ := sign_at d d0 (by omega)
  have kp02 : Kp p H H2 := ((Kp.new hl).trans kp1).trans kp2
  refine ⟨signsS, d, c, rfl, rfl, by decide, ca, ⟨_, rfl⟩, _, rfl, _, _, rfl, rfl, _, rfl, by omega, by omega, fun Dd hD => ?_⟩
  have nDp : Dd ≠ p := fun z => pot2.some (z ▸ hD)
  refine lc_run (walk_range (lo := 0) (n := (n - 1).toNat)) (fun i acc H' => Kp p H2 H' ∧ Pot H' p ∧ ∃ ys : List Str, acc = ys.map V.str ∧ ys.length = i ∧ Ones ys) ⟨Kp.new hD, pot2.same (Same.new hD), [], rfl, rfl, fun _ z => (List.not_mem_nil z).elim⟩ (by rw [sizeLine_eq]; omega)
    (fun i acc H' ⟨_, _, ys, e, l, _⟩ => by rw [e, List.length_map, l]) (fun _ _ _ _ _ _ => trivial) ?_ ?_
  · rintro i acc x H3 H' κ hi e ⟨kp3, pot3, ys, rfl, yl, yo⟩ ⟨rfl, rfl⟩ kk
    refine ⟨rfl, _, rfl, _, rfl, p, 36, rfl, pot3, by decide, by decide, fun d4 H4 d40 d41 kp4 pot4 => ?_⟩
    obtain ⟨c4, ca4, cl4, _⟩ := sign_at d4 d40 d41
    refine ⟨signsS, d4, c4, rfl, rfl, by decide, ca4, kk _ H4 (kp4 _ _ e nDp) ⟨fun b o q nb => ?_, pot4.keep fun o q => ?_, ys ++ [⟨#[c4]⟩], by simp, by simp [yl], fun y hy => ?_⟩⟩
    · rw [upd_ne (ne_of_none q hD)]
      exact kp4 b o (kp3 b o q nb) nb
    · rw [upd_ne (Ne.symm nDp)]
      exact q
    · rcases List.mem_append.mp hy with z | z
      · exact yo y z
      · have : y = ⟨#[c4]⟩ := by simpa using z
        exact ⟨c4, this, cl4⟩
  · rintro acc H3 e ⟨kp3, pot3, ys, rfl, yl, yo⟩
    have yl7 : ys.length ≤ 7 := by omega
    have sl := yo.len
    refine ⟨"", Dd, ys, rfl, rfl, .inl (SqL.of e), by rw [sl]; show ys.length + ys.length * 0 ≤ _; omega, _, _, rfl, rfl, ?_, ?_⟩
    · have h1 := label_name (cl (by omega)) yo yl7
      have h2 : ((⟨#[c]⟩ : Str) ++ Txt.join "" ys).length ≤ 8 := by
        unfold nameL at h1
        simp only [Bool.and_eq_true, decide_eq_true_eq] at h1
        rw [len_cps]
        exact h1.1.1.2
      rw [len_app] at h2
      rw [sizeLine_eq]
      omega
    · exact k _ H3 (label_name (cl (by omega)) yo yl7) (kp02.trans kp3) pot3
end
end Hv

namespace Hv
open PySem PySem.Spec PyProof.Rows L2
abbrev s__law_odd_label : Stmt := topS 22
abbrev N__law_odd_label : List Str := ["_law_pot_here", "_law_label_here", "_law_way", "_law_at", "_law_sign"]
theorem sc__law_odd_label : FnScope N__law_odd_label ["_law_pot_here"] (defScope s__law_odd_label) := ⟨rfl, rfl, rfl, by decide +kernel, rfl, by decide +kernel, by decide +kernel⟩
abbrev s__law_odd_digit : Stmt := topS 23
abbrev N__law_odd_digit : List Str := ["_law_pot_here"]
theorem sc__law_odd_digit : FnScope N__law_odd_digit ["_law_pot_here"] (defScope s__law_odd_digit) := ⟨rfl, rfl, rfl, by decide +kernel, rfl, by decide +kernel, by decide +kernel⟩
abbrev s__law_act : Stmt := topS 24
abbrev N__law_act : List Str := ["_law_pot_here", "_law_plain", "_law_way"]
theorem sc__law_act : FnScope N__law_act ["_law_pot_here"] (defScope s__law_act) := ⟨rfl, rfl, rfl, by decide +kernel, rfl, by decide +kernel, by decide +kernel⟩
/-- what is tracked -/
def OldZ (H : Hp) : Addr → Prop := fun b => H b ≠ none
theorem Dat.kp {Z : Addr → Prop} {H H' : Hp} {v : V} {d : PyData} {p : Addr} (h : Dat Z H v d) (zp : Z p) (k : Kp p H H') : Dat Z H' v d := h.mono (fun _ q => .inl q) fun b o e n => k b o e fun z => n (z ▸ zp)
theorem Dats.kp {Z : Addr → Prop} {H H' : Hp} {v : List V} {d : List PyData} {p : Addr} (h : Dats Z H v d) (zp : Z p) (k : Kp p H H') : Dats Z H' v d := h.mono (fun _ q => .inl q) fun b o e n => k b o e fun z => n (z ▸ zp)
theorem Dat.less {Z Z' : Addr → Prop} {H : Hp} {v : V} {d : PyData} (h : Dat Z H v d) (hz : ∀ b, Z' b → Z b) : Dat Z' H v d := h.mono (fun b q => .inl (hz b q)) fun _ _ e _ => e
/-- short texts -/
def SOk (n : Nat) (x : Str) : Prop := x.length ≤ n ∧ ∀ c ∈ x.cps.toList, c < 128
theorem SOk.mono {n m : Nat} {x : Str} (h : SOk n x) (k : n ≤ m) : SOk m x := ⟨Nat.le_trans h.1 k, h.2⟩
theorem SOk.sm {n b : Nat} {x : Str} (h : SOk n x) (hn : n ≤ 100000) (hb : 10 * n + 2 ≤ b) (m : Nat) : Sm m b (.str x) := by
  refine ⟨?_, ?_, Nat.zero_le _⟩
  · show (decide (x.length ≤ 100000) && x.cps.toList.all (fun c => decide (c < 256))) = true
    rw [decide_eq_true (Nat.le_trans h.1 hn), Bool.true_and, List.all_eq_true]
    intro c hc
    have := h.2 c hc
    exact decide_eq_true (by omega)
  · have := h.1
    show 10 * x.length + 2 ≤ b
    omega
theorem SOk.app {n m : Nat} {x y : Str} (h : SOk n x) (k : SOk m y) : SOk (n + m) (x ++ y) := by
  refine ⟨by rw [len_app]; exact Nat.add_le_add h.1 k.1, fun c hc => ?_⟩
  have e : (x ++ y).cps.toList = x.cps.toList ++ y.cps.toList := TL.tl_append x y
  rw [e] at hc
  exact (List.mem_append.mp hc).elim (h.2 c) (k.2 c)
theorem SOk.cut {n : Nat} {x : Str} (h : SOk n x) (lo hi : Option Int) : SOk n (cutS x lo hi) := by
  have e : (cutS x lo hi).cps.toList = (x.cps.toList.drop (HT.sIx x.length 0 lo)).take (HT.sIx x.length x.length hi - HT.sIx x.length 0 lo) := by simp [cutS]
  refine ⟨?_, fun c hc => ?_⟩
  · have := h.1
    rw [len_cps] at this ⊢
    rw [e, List.length_take, List.length_drop]
    omega
  · rw [e] at hc
    exact h.2 c (List.mem_of_mem_drop (List.mem_of_mem_take hc))
theorem up1_lt (c : Nat) (h : c < 128) : up1 c < 128 := by
  unfold up1
  split <;> omega
theorem SOk.up {n : Nat} {x : Str} (h : SOk n x) : SOk n (Txt.upper x) := by
  rw [upper_ascii (x := x) h.2]
  refine ⟨?_, fun c hc => ?_⟩
  · show (x.cps.map up1).size ≤ n
    rw [Array.size_map]
    exact h.1
  · have hc' : c ∈ (x.cps.map up1).toList := hc
    rw [Array.toList_map] at hc'
    obtain ⟨c', m, rfl⟩ := List.mem_map.mp hc'
    exact up1_lt c' (h.2 c' m)
theorem lod_lt {c : Nat} (h : lod c = true) : c < 128 := by
  have e : ∀ c ∈ signsS.cps.toList, c < 128 := by decide +kernel
  rw [← signs_mem] at h
  exact e c (of_decide_eq_true h)
theorem name_sok {x : Str} (h : nameL x.cps.toList = true) : SOk 8 x ∧ 1 ≤ x.length := by
  unfold nameL at h
  simp only [Bool.and_eq_true, decide_eq_true_eq] at h
  refine ⟨⟨by rw [len_cps]; exact h.1.1.2, fun c hc => lod_lt (List.all_eq_true.mp h.2 c hc)⟩, by rw [len_cps]; exact h.1.1.1⟩
/-- a thing drawn: small data, new -/
def spThing (n b : Nat) (f : PyData → Prop) : Sp := fun vs H Q _ => ∃ (p : Addr), vs = [.ref p] ∧ Pot H p ∧ ∀ (v : V) (d : PyData) (H' : Hp), f d → Sm n b d → Dat (OldZ H) H' v d → Kp p H H' → Pot H' p → Q v H'
end Hv

namespace Hv
open PySem PySem.Spec PyProof.Rows L2
section
variable {P : Program} {w : World} {K : PySem.W.Frag} {mg : Str → Option Value} {base : Heap}
theorem spThing_len {n b : Nat} {f : PyData → Prop} : ∀ vs H Q E, spThing n b f vs H Q E → vs.length = 1 := fun vs H Q E h => by
  obtain ⟨_, rfl, _⟩ := h
  rfl
theorem ok_odd_digit (D : DefAt K mg "_law_odd_digit" s__law_odd_digit) (T : Nm mg) (c_law_pick : Dn P w K mg base 2 "_law_pick" ["_law_pot_here", "_law_some"] spPick) : Dn P w K mg base 3 "_law_odd_digit" ["_law_pot_here"] (spThing 1 3000 fun _ => True) := by
  refine dn_mk D sc__law_odd_digit (fun _ _ _ _ _ _ us hl => match us, hl with | [_], _ => rfl) spThing_len (fun f cdv A outer s H vs Q E hr h => ?_)
  obtain ⟨p, rfl, pot, k⟩ := h
  refine ⟨_, ((pss_one (ps_ret (pe_d c_law_pick hr (by decide) (by rfl) (pa_cons (pv 0) (pa_cons (pe_lst (pa_cons pe_int (pa_cons (pe_un un_neg pe_int) (pa_cons pe_bl (pa_cons pe_bl (pa_cons pe_str (pa_cons pe_non (pa_cons (pe_tup (pa_cons pe_int pa_nil)) (pa_cons (pe_lst (pa_cons pe_int pa_nil)) (pa_cons (pe_op op_pow pe_int pe_int) (pa_cons (pe_un un_neg (pe_op op_pow pe_int pe_int)) (pa_cons pe_int (pa_cons pe_int (pa_cons pe_int pa_nil)))))))))))))) pa_nil)))))), ?_⟩
  refine ⟨_, rfl, _, rfl, by show 1 ≤ sizeLine; decide, fun p1 h1 => ⟨by show 1 ≤ sizeLine; decide, fun p2 h2 => ?_⟩⟩
  refine ⟨_, _, rfl, rfl, ⟨by decide, by decide, by decide⟩, _, _, rfl, rfl, ⟨by decide, by decide, by decide⟩, _, rfl, by show 13 ≤ sizeLine; decide, fun l hl => ?_⟩
  have pot1 := pot.same (Same.new (o := .tup [.int 1]) h1)
  have pot2 := pot1.same (Same.new (o := .lst [.int 0]) h2)
  have nlp : l ≠ p := fun z => pot2.some (z ▸ hl)
  have s1 : Same H (upd H p1 (.tup [.int 1])) := Same.new h1
  have s2 : Same (upd H p1 (.tup [.int 1])) (upd (upd H p1 (.tup [.int 1])) p2 (.lst [.int 0])) := Same.new h2
  have n1p : p1 ≠ p := fun z => pot.some (z ▸ h1)
  have n2p : p2 ≠ p := fun z => pot1.some (z ▸ h2)
  refine ⟨p, l, _, rfl, pot2.same (Same.new hl), upd_same, nlp, by simp, by simp, fun i x H1 hx kp1 pot1 => ?_⟩
  have kp : Kp p H H1 := (((Same.kp s1 p).trans (Same.kp s2 p)).trans (Kp.new hl)).trans kp1
  have e1 : H1 p1 = some (.tup [.int 1]) := kp1 _ _ (Same.new (o := .lst _) hl _ _ (s2 _ _ upd_same)) n1p
  have e2 : H1 p2 = some (.lst [.int 0]) := kp1 _ _ (Same.new (o := .lst _) hl _ _ upd_same) n2p
  have o1 : ¬ OldZ H p1 := fun z => z h1
  have o2 : ¬ OldZ H p2 := fun z => z (s1.free h2)
  have fin : ∃ d, Sm 1 3000 d ∧ Dat (OldZ H) H1 x d := by
    have := List.mem_of_getElem? hx
    simp only [List.mem_cons, List.not_mem_nil, or_false] at this
    have mk : ∀ i : Int, i.natAbs.log2 < 1920 → Sm 1 3000 (.int i) := fun i h => ⟨decide_eq_true h, by show 1921 ≤ 3000; decide, Nat.zero_le _⟩
    rcases this with z | z | z | z | z | z | z | z | z | z | z | z | z <;> subst z
    · exact ⟨.int 4, mk 4 (by decide), .int 4⟩
    · exact ⟨.int (-1), mk (-1) (by decide), .int _⟩
    · exact ⟨.bool true, ⟨rfl, by decide, Nat.zero_le _⟩, .bl _⟩
    · exact ⟨.bool false, ⟨rfl, by decide, Nat.zero_le _⟩, .bl _⟩
    · exact ⟨.str "1", ⟨by decide, by decide, Nat.zero_le _⟩, .str _⟩
    · exact ⟨.none, ⟨rfl, by decide, Nat.zero_le _⟩, .non⟩
    · exact ⟨.tuple [.int 1], ⟨by decide, by decide, by decide⟩, .tup o1 e1 (.cons (.int 1) .nil)⟩
    · exact ⟨.list [.int 0], ⟨by decide, by decide, by decide⟩, .lst o2 e2 (.cons (.int 0) .nil)⟩
    · exact ⟨_, mk _ (by decide +kernel), .int _⟩
    · exact ⟨_, mk _ (by decide +kernel), .int _⟩
    · exact ⟨.int 5, mk 5 (by decide), .int _⟩
    · exact ⟨.int 0, mk 0 (by decide), .int _⟩
    · exact ⟨.int 3, mk 3 (by decide), .int _⟩
  obtain ⟨d, sm, dv⟩ := fin
  exact k x d H1 trivial sm dv kp pot1
theorem ok_odd_label (D : DefAt K mg "_law_odd_label" s__law_odd_label) (T : Nm mg) (c_law_draw : Dn P w K mg base 1 "_law_draw" ["_law_pot_here", "_law_sides"] spDraw) (c_law_pick : Dn P w K mg base 2 "_law_pick" ["_law_pot_here", "_law_some"] spPick) (c_law_label : Dn P w K mg base 3 "_law_label" ["_law_pot_here"] spLabel) :
    Dn P w K mg base 4 "_law_odd_label" ["_law_pot_here"] (spThing 1 3000 fun _ => True) := by
  refine dn_mk D sc__law_odd_label (fun _ _ _ _ _ _ us hl => match us, hl with | [_], _ => rfl) spThing_len (fun f cdv A outer s H vs Q E hr h => ?_)
  obtain ⟨p, rfl, pot, k⟩ := h
  refine ⟨_, ((pss_cons (ps_set (i := 1) sc__law_odd_label.nd rfl (Or.inl rfl) (pe_d c_law_label hr (by decide) (by rfl) (pa_cons (pv 0) pa_nil)))
 (pss_cons (ps_par (i := 3) (j := 4) (by rfl) sc__law_odd_label.nd rfl rfl (by decide) rfl rfl (pa_cons (pe_d c_law_draw hr (by decide) (by rfl) (pa_cons (pv 0) (pa_cons (pe_callB call_len (by rfl) T.n_len (by decide +kernel) (pa_cons (pv 1) pa_nil)) pa_nil))) (pa_cons (pe_d c_law_pick hr (by decide) (by rfl) (pa_cons (pv 0) (pa_cons (pe_lst (pa_cons pe_str (pa_cons pe_str (pa_cons pe_str (pa_cons pe_str (pa_cons pe_str (pa_cons pe_str (pa_cons pe_str (pa_cons pe_str (pa_cons pe_str (pa_cons pe_str pa_nil))))))))))) pa_nil))) pa_nil)) (by rfl))
 (pss_cons (ps_set (i := 2) sc__law_odd_label.nd rfl (Or.inl rfl) (pe_d c_law_draw hr (by decide) (by rfl) (pa_cons (pv 0) (pa_cons pe_int pa_nil))))
 (pss_cons (ps_if (pt_cmpR op_lt (pv 2) pe_int (nomark _))
 (pss_one (ps_ret (pe_op op_add_str (pe_op op_add_str (pe_slice sl_str (pv 1) po_none (po_some (pv 3))) (pv 4)) (pe_slice sl_str (pv 1) (po_some (pe_op op_add (pv 3) pe_int)) po_none))))
 pss_nil)
 (pss_cons (ps_if (pt_cmpR op_eq (pv 2) pe_int (nomark _))
 (pss_one (ps_ret (pe_slice sl_str (pe_op op_add_str (pv 1) pe_str) po_none (po_some pe_int))))
 pss_nil)
 (pss_one (ps_ret (pe_d c_law_pick hr (by decide) (by rfl) (pa_cons (pv 0) (pa_cons (pe_lst (pa_cons pe_str (pa_cons pe_non (pa_cons pe_int (pa_cons pe_bl (pa_cons (pe_tup (pa_cons (pv 1) pa_nil)) (pa_cons (pe_lst (pa_cons (pv 1) pa_nil)) (pa_cons pe_dnewK (pa_cons (pe_op op_add_str (pv 1) pe_str) (pa_cons (pe_op op_add_str pe_str (pv 1)) (pa_cons (pe_upper (pv 1)) pa_nil))))))))))) pa_nil))))))))))), ?_⟩
  refine ⟨_, rfl, p, rfl, pot, fun x H1 nx kp1 pot1 => ?_⟩
  obtain ⟨sx, lx⟩ := name_sok nx
  have szx : x.length ≤ sizeLine := by have := sx.1; rw [sizeLine_eq]; omega
  -- at, sign
  refine ⟨_, rfl, _, rfl, _, _, rfl, ⟨szx, rfl⟩, p, _, rfl, pot1, by omega, by have := sx.1; omega, fun d H2 d0 d1 kp2 pot2 => ?_⟩
  refine ⟨_, rfl, by show 10 ≤ sizeLine; decide, fun l hl => ?_⟩
  have nlp : l ≠ p := fun z => pot2.some (z ▸ hl)
  refine ⟨p, l, _, rfl, pot2.same (Same.new hl), upd_same, nlp, by decide, by decide, fun i y H3 hy kp3 pot3 => ?_⟩
  obtain ⟨sg, rfl, ssg⟩ : ∃ sg : Str, y = .str sg ∧ SOk 1 sg := by
    have := List.mem_of_getElem? hy
    simp only [List.mem_cons, List.not_mem_nil, or_false] at this
    rcases this with z | z | z | z | z | z | z | z | z | z <;> subst z <;> exact ⟨_, rfl, by decide +kernel, by decide +kernel⟩
  have kp03 : Kp p H H3 := ((kp1.trans kp2).trans (Kp.new hl)).trans kp3
  refine ⟨_, _, rfl, ?_⟩
  -- way
  refine ⟨_, rfl, p, 6, rfl, pot3, by decide, by decide, fun way H4 w0 w1 kp4 pot4 => ?_⟩
  have kp04 := kp03.trans kp4
  refine ⟨_, rfl, _, _, rfl, rfl, _, rfl, ite_d (fun c => ?_) (fun c => ?_)⟩
  · have c1 := sx.cut none (some d)
    have c2 := sx.cut (some (d + 1)) none
    have c3 := c1.app ssg
    have c4 := c3.app c2
    refine ⟨_, rfl, _, rfl, _, rfl, _, rfl, szx, _, rfl, _, _, rfl, rfl, by rw [← len_app, sizeLine_eq]; have := c3.1; omega, _, rfl, _, rfl, _, _, rfl, rfl, _, rfl, _, rfl, szx, _, _, rfl, rfl, by rw [← len_app, sizeLine_eq]; have := c4.1; omega, ?_⟩
    exact k _ (.str _) H4 trivial (c4.sm (by decide) (by decide) 1) (.str _) kp04 pot4
  · refine ⟨_, rfl, rfl, _, rfl, ite_d (fun c5 => ?_) (fun c5 => ?_)⟩
    · have ab : SOk 8 "abcdefgh" := ⟨by decide, by decide +kernel⟩
      have c1 := sx.app ab
      have l1 : (x ++ "abcdefgh").length ≤ sizeLine := by have := c1.1; rw [sizeLine_eq]; omega
      refine ⟨_, rfl, _, _, rfl, rfl, by rw [← len_app]; exact l1, _, rfl, _, rfl, l1, ?_⟩
      exact k _ (.str _) H4 trivial ((c1.cut none (some 9)).sm (by decide) (by decide) 1) (.str _) kp04 pot4
    · have sp1 : SOk 1 " " := ⟨by decide, by decide +kernel⟩
      have l1 : (x ++ " ").length ≤ sizeLine := by have := (sx.app sp1).1; rw [sizeLine_eq]; omega
      have l2 : ((" " : Str) ++ x).length ≤ sizeLine := by have := (sp1.app sx).1; rw [sizeLine_eq]; omega
      refine ⟨_, rfl, _, rfl, by show 1 ≤ sizeLine; decide, fun q1 g1 => ⟨_, rfl, by show 1 ≤ sizeLine; decide, fun q2 g2 => fun q3 g3 => ?_⟩⟩
      refine ⟨_, rfl, _, _, rfl, rfl, by rw [← len_app]; exact l1, _, rfl, _, _, rfl, rfl, by rw [← len_app]; exact l2, _, rfl, ⟨_, rfl⟩, _, rfl, rfl, by have := sx.1; omega, by show 10 ≤ sizeLine; decide, fun l2 hl2 => ?_⟩
      have t1 : Same H4 (upd H4 q1 (.tup [.str x])) := Same.new g1
      have t2 : Same (upd H4 q1 (.tup [.str x])) (upd (upd H4 q1 (.tup [.str x])) q2 (.lst [.str x])) := Same.new g2
      have t3 : Same (upd (upd H4 q1 (.tup [.str x])) q2 (.lst [.str x])) (upd (upd (upd H4 q1 (.tup [.str x])) q2 (.lst [.str x])) q3 (.dK [])) := Same.new g3
      have t13 := Same.trans' (Same.trans' t1 t2) t3
      have pot7 := pot4.same t13
      have nl2 : l2 ≠ p := fun z => pot7.some (z ▸ hl2)
      refine ⟨p, l2, _, rfl, pot7.same (Same.new hl2), upd_same, nl2, by simp, by simp, fun i5 y5 H5 hy5 kp5 pot5 => ?_⟩
      have n1p : q1 ≠ p := fun z => pot4.some (z ▸ g1)
      have n2p : q2 ≠ p := fun z => (pot4.same t1).some (z ▸ g2)
      have n3p : q3 ≠ p := fun z => (pot4.same (Same.trans' t1 t2)).some (z ▸ g3)
      have t4 := Same.new (o := .lst [.str "", .non, .int 5, .bl true, .ref q1, .ref q2, .ref q3, .str (x ++ " "), .str (" " ++ x), .str (Txt.upper x)]) hl2
      have e1 : H5 q1 = some (.tup [.str x]) := kp5 _ _ (t4 _ _ (t3 _ _ (t2 _ _ upd_same))) n1p
      have e2 : H5 q2 = some (.lst [.str x]) := kp5 _ _ (t4 _ _ (t3 _ _ upd_same)) n2p
      have e3 : H5 q3 = some (.dK []) := kp5 _ _ (t4 _ _ upd_same) n3p
      have old : ∀ q, q ≠ p → H4 q = none → ¬ OldZ H q := fun q nq hq z => z (by
        cases e : H q with
        | none => rfl
        | some o => rw [kp04 q o e nq] at hq; cases hq)
      have o1 := old q1 n1p g1
      have o2 := old q2 n2p (t1.free g2)
      have o3 := old q3 n3p ((Same.trans' t1 t2).free g3)
      have kp : Kp p H H5 := ((kp04.trans (Same.kp t13 p)).trans (Same.kp t4 p)).trans kp5
      have fin : ∃ d, Sm 1 3000 d ∧ Dat (OldZ H) H5 y5 d := by
        have := List.mem_of_getElem? hy5
        simp only [List.mem_cons, List.not_mem_nil, or_false] at this
        have sx1 := sx.sm (b := 100) (by decide) (by decide) 0
        rcases this with z | z | z | z | z | z | z | z | z | z <;> subst z
        · exact ⟨.str "", ⟨by decide, by decide, Nat.zero_le _⟩, .str _⟩
        · exact ⟨.none, ⟨rfl, by decide, Nat.zero_le _⟩, .non⟩
        · exact ⟨.int 5, ⟨by decide, by decide, Nat.zero_le _⟩, .int _⟩
        · exact ⟨.bool true, ⟨rfl, by decide, Nat.zero_le _⟩, .bl _⟩
        · refine ⟨.tuple [.str x], ⟨?_, ?_, ?_⟩, .tup o1 e1 (.cons (.str x) .nil)⟩
          · show (okD (.str x) && true) = true
            rw [sx1.ok]; rfl
          · have := sx1.bg
            show big (.str x) + 2 + 0 + 3 ≤ 3000
            omega
          · exact Nat.le_refl _
        · refine ⟨.list [.str x], ⟨?_, ?_, ?_⟩, .lst o2 e2 (.cons (.str x) .nil)⟩
          · show (okD (.str x) && true) = true
            rw [sx1.ok]; rfl
          · have := sx1.bg
            show big (.str x) + 2 + 0 + 3 ≤ 3000
            omega
          · exact Nat.le_refl _
        · exact ⟨.dict [], ⟨by decide, by decide, by decide⟩, .dct (ks := []) (ds := []) o3 e3 .nil⟩
        · exact ⟨_, (sx.app sp1).sm (by decide) (by decide) 1, .str _⟩
        · exact ⟨_, (sp1.app sx).sm (by decide) (by decide) 1, .str _⟩
        · exact ⟨_, sx.up.sm (by decide) (by decide) 1, .str _⟩
      obtain ⟨dd, sm, dv⟩ := fin
      exact k y5 dd H5 trivial sm dv kp pot5
end
end Hv

namespace Hv
open PySem PySem.Spec PyProof.Rows L2
/-! ### expressions that build data, and may draw -/
/-- Z holds none but tracked ones -/
def Zo (Z : Addr → Prop) (H : Hp) : Prop := ∀ b, Z b → H b ≠ none
theorem Zo.same {Z : Addr → Prop} {H H' : Hp} (h : Zo Z H) (s : Same H H') : Zo Z H' := fun b zb n => h b zb (s.free n)
theorem Kp.free {p : Addr} {H H' : Hp} (k : Kp p H H') {b : Addr} (nb : b ≠ p) (h : H' b = none) : H b = none := by
  cases e : H b with
  | none => rfl
  | some o => rw [k b o e nb] at h; cases h
theorem Zo.kp {Z : Addr → Prop} {H H' : Hp} {p : Addr} (h : Zo Z H) (k : Kp p H H') (pot : Pot H' p) : Zo Z H' := fun b zb n => by
  by_cases e : b = p
  · exact pot.some (e ▸ n)
  · exact h b zb (k.free e n)
theorem Zo.off {Z : Addr → Prop} {H : Hp} (h : Zo Z H) {b : Addr} (n : H b = none) : ¬ Z b := fun z => h b z n
theorem Zo.old (H : Hp) : Zo (OldZ H) H := fun _ z => z
/-- how long a list or tuple may be here -/
theorem sizeBig : 1000 ≤ sizeLine := by rw [sizeLine_eq]; decide
theorem depthAll_le {n : Nat} : ∀ {ds : List PyData}, (∀ d ∈ ds, d.depth ≤ n) → PyData.depthAll ds ≤ n
  | [], _ => Nat.zero_le _
  | d :: ds, h => by
    have h1 := h d List.mem_cons_self
    have h2 := depthAll_le (ds := ds) fun e he => h e (List.mem_cons_of_mem _ he)
    show max d.depth (PyData.depthAll ds) ≤ n
    exact Nat.max_le.mpr ⟨h1, h2⟩
theorem bigs_le {b : Nat} : ∀ {ds : List PyData}, (∀ d ∈ ds, big d ≤ b) → bigs ds ≤ ds.length * (b + 2)
  | [], _ => Nat.zero_le _
  | d :: ds, h => by
    have h1 := h d List.mem_cons_self
    have h2 := bigs_le (ds := ds) fun e he => h e (List.mem_cons_of_mem _ he)
    show big d + 2 + bigs ds ≤ (ds.length + 1) * (b + 2)
    rw [Nat.add_mul]
    omega
theorem Sm.all {n b m : Nat} {ds : List PyData} (h : ∀ d ∈ ds, Sm n b d) (hl : ds.length ≤ m) : oksD ds = true ∧ bigs ds ≤ m * (b + 2) ∧ PyData.depthAll ds ≤ n :=
  ⟨oksD_of fun d hd => (h d hd).ok, Nat.le_trans (bigs_le fun d hd => (h d hd).bg) (Nat.mul_le_mul_right _ hl), depthAll_le fun d hd => (h d hd).dp⟩
theorem Sm.tup {n b m c : Nat} {ds : List PyData} (h : ∀ d ∈ ds, Sm n b d) (hl : ds.length ≤ m) (hc : m * (b + 2) + 3 ≤ c) : Sm (n + 1) c (.tuple ds) := by
  obtain ⟨h1, h2, h3⟩ := Sm.all h hl
  refine ⟨h1, ?_, ?_⟩
  · show bigs ds + 3 ≤ c
    omega
  · show PyData.depthAll ds + 1 ≤ n + 1
    omega
theorem Sm.lst {n b m c : Nat} {ds : List PyData} (h : ∀ d ∈ ds, Sm n b d) (hl : ds.length ≤ m) (hc : m * (b + 2) + 3 ≤ c) : Sm (n + 1) c (.list ds) := by
  obtain ⟨h1, h2, h3⟩ := Sm.all h hl
  refine ⟨h1, ?_, ?_⟩
  · show bigs ds + 3 ≤ c
    omega
  · show PyData.depthAll ds + 1 ≤ n + 1
    omega
theorem Sm.i {b : Nat} (hb : 1921 ≤ b) (i : Int) (h : i.natAbs.log2 < 1920) (n : Nat) : Sm n b (.int i) := ⟨decide_eq_true h, hb, Nat.zero_le _⟩
theorem Sm.b {c : Nat} (hb : 5 ≤ c) (b : Bool) (n : Nat) : Sm n c (.bool b) := ⟨rfl, hb, Nat.zero_le _⟩
theorem Sm.n {c : Nat} (hb : 5 ≤ c) (n : Nat) : Sm n c .none := ⟨rfl, by show 4 ≤ c; omega, Nat.zero_le _⟩
theorem oksD_iff {ds : List PyData} : oksD ds = true ↔ ∀ d ∈ ds, okD d = true := ⟨oksD_mem, oksD_of⟩
theorem big_mem : ∀ {ds : List PyData} {d : PyData}, d ∈ ds → big d ≤ bigs ds
  | e :: ds, d, h => by
    show big d ≤ big e + 2 + bigs ds
    rcases List.mem_cons.mp h with rfl | h
    · omega
    · have := big_mem h
      omega
theorem depth_mem : ∀ {ds : List PyData} {d : PyData}, d ∈ ds → d.depth ≤ PyData.depthAll ds
  | e :: ds, d, h => by
    show d.depth ≤ max e.depth (PyData.depthAll ds)
    rcases List.mem_cons.mp h with rfl | h
    · exact Nat.le_max_left _ _
    · exact Nat.le_trans (depth_mem h) (Nat.le_max_right _ _)
theorem Sm.untup {n b : Nat} {ds : List PyData} (h : Sm (n + 1) b (.tuple ds)) : ∀ d ∈ ds, Sm n b d := fun d hd =>
  ⟨oksD_mem h.ok d hd, by have := big_mem hd; have := h.bg; have e : big (.tuple ds) = bigs ds + 3 := rfl; omega, by have := depth_mem hd; have := h.dp; have e : (PyData.tuple ds).depth = PyData.depthAll ds + 1 := rfl; omega⟩
/-- the pot p is laid, p is in Z, Z is tracked -/
structure Px (p : Addr) (Z : Addr → Prop) (H : Hp) : Prop where
  pot : Pot H p
  zp : Z p
  zo : Zo Z H
theorem Px.kp {p : Addr} {Z : Addr → Prop} {H H' : Hp} (x : Px p Z H) (k : Kp p H H') (pot : Pot H' p) : Px p Z H' := ⟨pot, x.zp, x.zo.kp k pot⟩
theorem Px.ne {p : Addr} {Z : Addr → Prop} {H : Hp} (x : Px p Z H) {q : Addr} (h : H q = none) : q ≠ p := fun z => x.pot.some (z ▸ h)
/-- te gives data for which F, whatever is tracked besides -/
def Dt (p : Addr) (Z : Addr → Prop) (σ : L2.St) (H : Hp) (te : TE) (F : PyData → Prop) : Prop :=
  ∀ H1, Kp p H H1 → Pot H1 p → ∀ Q : VK, (∀ v d H', F d → Dat Z H' v d → Kp p H1 H' → Pot H' p → Q v H') → te σ H1 Q
/-- n of them, each F -/
def Dts (p : Addr) (Z : Addr → Prop) (σ : L2.St) (H : Hp) (ta : TA) (F : PyData → Prop) (n : Nat) : Prop :=
  ∀ H1, Kp p H H1 → Pot H1 p → ∀ Q : List V → Hp → Prop, (∀ vs ds H', (∀ d ∈ ds, F d) → ds.length = n → Dats Z H' vs ds → Kp p H1 H' → Pot H' p → Q vs H') → ta σ H1 Q
section
variable {p : Addr} {Z : Addr → Prop} {σ : L2.St} {H : Hp} {te tb : TE} {ta : TA} {F G : PyData → Prop} {n m : Nat}
theorem Dt.go (h : Dt p Z σ H te F) (pot : Pot H p) {Q : VK} (k : ∀ v d H', F d → Dat Z H' v d → Kp p H H' → Pot H' p → Q v H') : te σ H Q := h H Kp.refl pot Q k
theorem Dt.asg {g : TG} {u : TS} {D : Ends} (h : Dt p Z σ H te F) (pot : Pot H p) (k : ∀ v d H', F d → Dat Z H' v d → Kp p H H' → Pot H' p → g v σ H' (u D)) : tSeq (tAsg te g) u D σ H := h H Kp.refl pot _ k
theorem Dt.ret {D : Ends} (h : Dt p Z σ H te F) (pot : Pot H p) (k : ∀ v d H', F d → Dat Z H' v d → Kp p H H' → Pot H' p → D.rt v H') : tRet te D σ H := h H Kp.refl pot _ k
theorem Dt.mono (h : Dt p Z σ H te F) (f : ∀ d, F d → G d) : Dt p Z σ H te G := fun H1 k1 pot Q q => h H1 k1 pot Q fun v d H' fd => q v d H' (f d fd)
theorem Dt.later {H' : Hp} (h : Dt p Z σ H te F) (k : Kp p H H') : Dt p Z σ H' te F := fun H1 k1 pot Q q => h H1 (k.trans k1) pot Q q
theorem dt_c {v : V} {d : PyData} (zp : Z p) (h : Dat Z H v d) (f : F d) : Dt p Z σ H (tC v) F := fun H1 k1 pot Q q => q v d H1 f (h.kp zp k1) Kp.refl pot
theorem dt_str {x : Str} (f : F (.str x)) : Dt p Z σ H (tC (.str x)) F := fun H1 k1 pot Q q => q _ _ H1 f (.str x) Kp.refl pot
theorem dt_int {i : Int} (f : F (.int i)) : Dt p Z σ H (tC (.int i)) F := fun H1 k1 pot Q q => q _ _ H1 f (.int i) Kp.refl pot
theorem dt_bl {b : Bool} (f : F (.bool b)) : Dt p Z σ H (tC (.bl b)) F := fun H1 k1 pot Q q => q _ _ H1 f (.bl b) Kp.refl pot
theorem dt_non (f : F .none) : Dt p Z σ H (tC .non) F := fun H1 k1 pot Q q => q _ _ H1 f .non Kp.refl pot
theorem dt_var {i : Nat} {v : V} {d : PyData} (zp : Z p) (h : Dat Z H v d) (e : σ[i]? = some (some v)) (f : F d) : Dt p Z σ H (tVar i) F := fun H1 k1 pot Q q => ⟨v, e, q v d H1 f (h.kp zp k1) Kp.refl pot⟩
theorem dts_nil : Dts p Z σ H tNil F 0 := fun H1 k1 pot Q q => q [] [] H1 (fun _ z => (List.not_mem_nil z).elim) rfl .nil Kp.refl pot
theorem dts_cons (zp : Z p) (h : Dt p Z σ H te F) (t : Dts p Z σ H ta F n) : Dts p Z σ H (tCons te ta) F (n + 1) := fun H1 k1 pot Q q =>
  h H1 k1 pot _ fun v d H2 fd dv k2 pot2 => t H2 (k1.trans k2) pot2 _ fun vs ds H3 fs hl dvs k3 pot3 =>
    q (v :: vs) (d :: ds) H3 (fun e he => (List.mem_cons.mp he).elim (fun z => z ▸ fd) (fs e)) (by rw [List.length_cons, hl]) (.cons (dv.kp zp k3) dvs) (k2.trans k3) pot3
/-- a tuple of at most n, each G -/
def TupOf (n : Nat) (G : PyData → Prop) : PyData → Prop := fun d => ∃ ds, d = .tuple ds ∧ ds.length ≤ n ∧ ∀ e ∈ ds, G e
def LstOf (n : Nat) (G : PyData → Prop) : PyData → Prop := fun d => ∃ ds, d = .list ds ∧ ds.length ≤ n ∧ ∀ e ∈ ds, G e
theorem new_kp {o : HO} {q : Addr} (h : H q = none) (pot : Pot H p) : Kp p H (upd H q o) ∧ Pot (upd H q o) p := ⟨Kp.new h, pot.same (Same.new h)⟩
theorem dt_tupS (x : Px p Z H) (t : Dts p Z σ H ta F n) (hn : n ≤ sizeLine) : Dt p Z σ H (tTup ta) (fun d => ∃ ds, d = .tuple ds ∧ ds.length = n ∧ ∀ e ∈ ds, F e) := fun H1 k1 pot Q q =>
  t H1 k1 pot _ fun vs ds H2 fs hl dvs k2 pot2 => ⟨by rw [dvs.length, hl]; exact hn, fun a ha =>
    have y := (x.kp (k1.trans k2) pot2)
    q _ _ _ ⟨ds, rfl, hl, fs⟩ (.tup (y.zo.off ha) upd_same (dvs.kp x.zp (Kp.new ha))) (k2.trans (Kp.new ha)) (pot2.same (Same.new ha))⟩
theorem dt_lstS (x : Px p Z H) (t : Dts p Z σ H ta F n) (hn : n ≤ sizeLine) : Dt p Z σ H (tLst ta) (fun d => ∃ ds, d = .list ds ∧ ds.length = n ∧ ∀ e ∈ ds, F e) := fun H1 k1 pot Q q =>
  t H1 k1 pot _ fun vs ds H2 fs hl dvs k2 pot2 => ⟨by rw [dvs.length, hl]; exact hn, fun a ha =>
    have y := (x.kp (k1.trans k2) pot2)
    q _ _ _ ⟨ds, rfl, hl, fs⟩ (.lst (y.zo.off ha) upd_same (dvs.kp x.zp (Kp.new ha))) (k2.trans (Kp.new ha)) (pot2.same (Same.new ha))⟩
theorem dt_tupN (x : Px p Z H) (t : Dts p Z σ H ta F n) (hn : n ≤ 1000) : Dt p Z σ H (tTup ta) (TupOf n F) := (dt_tupS x t (Nat.le_trans hn sizeBig)).mono fun d ⟨ds, e, l, f⟩ => ⟨ds, e, Nat.le_of_eq l, f⟩
theorem dt_lstN (x : Px p Z H) (t : Dts p Z σ H ta F n) (hn : n ≤ 1000) : Dt p Z σ H (tLst ta) (LstOf n F) := (dt_lstS x t (Nat.le_trans hn sizeBig)).mono fun d ⟨ds, e, l, f⟩ => ⟨ds, e, Nat.le_of_eq l, f⟩
theorem dt_dict0 (x : Px p Z H) (f : F (.dict [])) : Dt p Z σ H (fun _ H Q => ∀ q, H q = none → Q (.ref q) (upd H q (.dK []))) F := fun H1 k1 pot Q q a ha =>
  q _ _ _ f (.dct (ks := []) (ds := []) ((x.kp k1 pot).zo.off ha) upd_same .nil) (Kp.new ha) (pot.same (Same.new ha))
/-! the pot -/
theorem dt_draw {i : Nat} {tn : TE} (e : σ[i]? = some (some (.ref p))) {lo hi : Int} (t : Dt p Z σ H tn (fun d => ∃ n, d = .int n ∧ lo ≤ n ∧ n ≤ hi)) (h1 : 1 ≤ lo) (h2 : hi ≤ 1000000000) : Dt p Z σ H (tCall spDraw [] E0 (tCons (tVar i) (tCons tn tNil))) (fun d => ∃ n, d = .int n ∧ 0 ≤ n ∧ n < hi) := fun H1 k1 pot Q q =>
  ⟨_, e, t H1 k1 pot _ fun v d H2 fd dv k2 pot2 => by
    obtain ⟨n, rfl, l, u⟩ := fd
    cases dv
    exact ⟨p, n, rfl, pot2, by omega, by omega, fun d H' d0 d1 k3 pot3 => q _ _ H' ⟨d, rfl, d0, by omega⟩ (.int d) (k2.trans k3) pot3⟩⟩
theorem dt_drawC {i : Nat} {c : Int} (e : σ[i]? = some (some (.ref p))) (h1 : 1 ≤ c := by decide) (h2 : c ≤ 1000000000 := by decide) : Dt p Z σ H (tCall spDraw [] E0 (tCons (tVar i) (tCons (tC (.int c)) tNil))) (fun d => ∃ n, d = .int n ∧ 0 ≤ n ∧ n < c) :=
  dt_draw e (dt_int (i := c) ⟨c, rfl, Int.le_refl _, Int.le_refl _⟩) h1 h2
theorem dt_pick {i : Nat} (x : Px p Z H) (e : σ[i]? = some (some (.ref p))) (t : Dts p Z σ H ta F n) (h1 : 1 ≤ n := by decide) (h2 : n ≤ 1000 := by decide) : Dt p Z σ H (tCall spPick [] E0 (tCons (tVar i) (tCons (tLst ta) tNil))) F := fun H1 k1 pot Q q =>
  ⟨_, e, t H1 k1 pot _ fun vs ds H2 fs hl dvs k2 pot2 => ⟨by rw [dvs.length, hl]; have := sizeBig; omega, fun a ha => by
    have y := (x.kp (k1.trans k2) pot2)
    have vl : vs.length = n := by rw [dvs.length, hl]
    refine ⟨p, a, vs, rfl, pot2.same (Same.new ha), upd_same, y.ne ha, by omega, by omega, fun i v H3 hv k3 pot3 => ?_⟩
    obtain ⟨d, hd, dv⟩ := dvs.get hv
    exact q v d H3 (fs d (List.mem_of_getElem? hd)) ((dv.kp x.zp (Kp.new ha)).kp x.zp k3) ((k2.trans (Kp.new ha)).trans k3) pot3⟩⟩
theorem dt_thing {i n b : Nat} {f : PyData → Prop} (x : Px p Z H) (e : σ[i]? = some (some (.ref p))) : Dt p Z σ H (tCall (spThing n b f) [] E0 (tCons (tVar i) tNil)) (fun d => f d ∧ Sm n b d) := fun H1 k1 pot Q q =>
  ⟨_, e, p, rfl, pot, fun v d H' fd sm dv k2 pot2 => q v d H' ⟨fd, sm⟩ (dv.less fun b zb => (x.kp k1 pot).zo b zb) k2 pot2⟩
/-! texts -/
def StrOf (n : Nat) : PyData → Prop := fun d => ∃ x, d = .str x ∧ SOk n x
theorem SOk.sz {n : Nat} {x : Str} (h : SOk n x) (hn : n ≤ 1000) : x.length ≤ sizeLine := Nat.le_trans h.1 (Nat.le_trans hn sizeBig)
theorem dt_lit {x : Str} (n : Nat) (h : SOk n x) : Dt p Z σ H (tC (.str x)) (StrOf n) := dt_str ⟨x, rfl, h⟩
theorem dt_addS (h : Dt p Z σ H te (StrOf n)) (k : Dt p Z σ H tb (StrOf m)) (hl : n + m ≤ 1000) : Dt p Z σ H (tOp (fun x y H Q => ∃ i j, x = .str i ∧ y = .str j ∧ i.length + j.length ≤ sizeLine ∧ Q (.str (i ++ j)) H) te tb) (StrOf (n + m)) := fun H1 k1 pot Q q =>
  h H1 k1 pot _ fun v d H2 fd dv k2 pot2 => k H2 (k1.trans k2) pot2 _ fun u e H3 fe du k3 pot3 => by
    obtain ⟨x, rfl, sx⟩ := fd
    obtain ⟨y, rfl, sy⟩ := fe
    cases dv
    cases du
    have s := sx.app sy
    exact ⟨x, y, rfl, rfl, by rw [← len_app]; exact s.sz hl, q _ _ H3 ⟨_, rfl, s⟩ (.str _) (k2.trans k3) pot3⟩
/-- a slice's part that is there -/
def Pok (σ : L2.St) (H : Hp) (t : TO) : Prop := ∀ H1 Q, (∀ o, Q o H1) → t σ H1 Q
theorem pok_none : Pok σ H tNoPart := fun H1 Q q => q none
theorem pok_var {i : Nat} {k : Int} (e : σ[i]? = some (some (.int k))) : Pok σ H (tPart (tVar i)) := fun H1 Q q => ⟨_, e, k, rfl, q _⟩
theorem pok_int {k : Int} : Pok σ H (tPart (tC (.int k))) := fun H1 Q q => ⟨k, rfl, q _⟩
theorem pok_var1 {i : Nat} {k c : Int} {f : Int → Int → Int} (e : σ[i]? = some (some (.int k))) : Pok σ H (tPart (tOp (rI0 fun i j => .int (f i j)) (tVar i) (tC (.int c)))) := fun H1 Q q => ⟨_, e, _, _, rfl, rfl, _, rfl, q _⟩
theorem dt_cutS {tl th : TO} (h : Dt p Z σ H te (StrOf n)) (hn : n ≤ 1000) (pl : Pok σ H tl) (ph : Pok σ H th) : Dt p Z σ H (tSl rSlS te tl th) (StrOf n) := fun H1 k1 pot Q q =>
  h H1 k1 pot _ fun v d H2 fd dv k2 pot2 => pl H2 _ fun lo => ph H2 _ fun hi => by
    obtain ⟨x, rfl, sx⟩ := fd
    cases dv
    exact ⟨x, rfl, sx.sz hn, q _ _ H2 ⟨_, rfl, sx.cut lo hi⟩ (.str _) k2 pot2⟩
/-! tuples -/
theorem dat_tup {H : Hp} {v : V} {ds : List PyData} (h : Dat Z H v (.tuple ds)) : ∃ a xs, v = .ref a ∧ ¬ Z a ∧ H a = some (.tup xs) ∧ Dats Z H xs ds := by
  cases h with
  | tup n e t => exact ⟨_, _, rfl, n, e, t⟩
theorem dat_lst {H : Hp} {v : V} {ds : List PyData} (h : Dat Z H v (.list ds)) : ∃ a xs, v = .ref a ∧ ¬ Z a ∧ H a = some (.lst xs) ∧ Dats Z H xs ds := by
  cases h with
  | lst n e t => exact ⟨_, _, rfl, n, e, t⟩
theorem dt_slT {K : PySem.W.Frag} {tl th : TO} (x : Px p Z H) (h : Dt p Z σ H te (TupOf n G)) (pl : Pok σ H tl) (ph : Pok σ H th) : Dt p Z σ H (tSl (rSlA K) te tl th) (TupOf n G) := fun H1 k1 pot Q q =>
  h H1 k1 pot _ fun v d H2 fd dv k2 pot2 => pl H2 _ fun lo => ph H2 _ fun hi => by
    obtain ⟨ds, rfl, hl, hg⟩ := fd
    obtain ⟨a, xs, rfl, na, ea, dx⟩ := dat_tup dv
    have y := (x.kp (k1.trans k2) pot2)
    refine ⟨a, xs, rfl, SqT.of ea, fun _ => q _ _ H2 ⟨ds, rfl, hl, hg⟩ dv k2 pot2, fun _ b hb => ?_⟩
    refine q _ (.tuple ((ds.drop (HT.sIx xs.length 0 lo)).take (HT.sIx xs.length xs.length hi - HT.sIx xs.length 0 lo))) _ ⟨_, rfl, ?_, fun e he => hg e (List.mem_of_mem_drop (List.mem_of_mem_take he))⟩ (.tup (y.zo.off hb) upd_same (Dats.kp ?_ x.zp (Kp.new hb))) (k2.trans (Kp.new hb)) (pot2.same (Same.new hb))
    · rw [List.length_take, List.length_drop]
      omega
    · exact (dx.drop _).take _
theorem dt_catT {K : PySem.W.Frag} (x : Px p Z H) (h : Dt p Z σ H te (TupOf n G)) (k : Dt p Z σ H tb (TupOf m G)) (hnm : n + m ≤ 1000) : Dt p Z σ H (tOp (rCatA K) te tb) (TupOf (n + m) G) := fun H1 k1 pot Q q =>
  h H1 k1 pot _ fun v d H2 fd dv k2 pot2 => k H2 (k1.trans k2) pot2 _ fun u e H3 fe du k3 pot3 => by
    obtain ⟨ds, rfl, hl, hg⟩ := fd
    obtain ⟨es, rfl, hl', hg'⟩ := fe
    have dv3 := dv.kp x.zp k3
    obtain ⟨a, xs, rfl, na, ea, dx⟩ := dat_tup dv3
    obtain ⟨b, ys, rfl, nb, eb, dy⟩ := dat_tup du
    have y := (x.kp ((k1.trans k2).trans k3) pot3)
    refine ⟨a, b, xs, ys, rfl, rfl, SqT.of ea, SqT.of eb, by rw [dx.length, dy.length]; have := sizeBig; omega, fun _ => q _ _ H3 ⟨es, rfl, by omega, hg'⟩ du (k2.trans k3) pot3, fun _ _ => q _ _ H3 ⟨ds, rfl, by omega, hg⟩ dv3 (k2.trans k3) pot3, fun _ _ c hc => ?_⟩
    refine q _ (.tuple (ds ++ es)) _ ⟨_, rfl, by rw [List.length_append]; omega, fun e he => (List.mem_append.mp he).elim (hg e) (hg' e)⟩ (.tup (y.zo.off hc) upd_same (Dats.kp (dx.append dy) x.zp (Kp.new hc))) ((k2.trans k3).trans (Kp.new hc)) (pot3.same (Same.new hc))
theorem dt_revT {K : PySem.W.Frag} (x : Px p Z H) (h : Dt p Z σ H te (TupOf n G)) : Dt p Z σ H (tRevT K te) (TupOf n G) := fun H1 k1 pot Q q =>
  h H1 k1 pot _ fun v d H2 fd dv k2 pot2 => by
    obtain ⟨ds, rfl, hl, hg⟩ := fd
    obtain ⟨a, xs, rfl, na, ea, dx⟩ := dat_tup dv
    have y := (x.kp (k1.trans k2) pot2)
    refine ⟨a, xs, rfl, SqT.of ea, fun b hb => ?_⟩
    exact q _ (.tuple ds.reverse) _ ⟨_, rfl, by rw [List.length_reverse]; exact hl, fun e he => hg e (List.mem_reverse.mp he)⟩ (.tup (y.zo.off hb) upd_same (Dats.kp dx.reverse x.zp (Kp.new hb))) (k2.trans (Kp.new hb)) (pot2.same (Same.new hb))
theorem dt_listOf {K : PySem.W.Frag} (x : Px p Z H) (h : Dt p Z σ H te (fun d => LstOf n G d ∨ TupOf n G d)) : Dt p Z σ H (tCB (fun xs H Q => ∃ p ys, xs = [V.ref p] ∧ (SqL K H p ys ∨ SqT K H p ys) ∧ ∀ l, H l = none → Q (.ref l) (upd H l (.lst ys))) (tCons te tNil)) (LstOf n G) := fun H1 k1 pot Q q =>
  h H1 k1 pot _ fun v d H2 fd dv k2 pot2 => by
    have y := (x.kp (k1.trans k2) pot2)
    rcases fd with ⟨ds, rfl, hl, hg⟩ | ⟨ds, rfl, hl, hg⟩
    · obtain ⟨a, xs, rfl, na, ea, dx⟩ := dat_lst dv
      exact ⟨a, xs, rfl, .inl (SqL.of ea), fun b hb => q _ (.list ds) _ ⟨ds, rfl, hl, hg⟩ (.lst (y.zo.off hb) upd_same (dx.kp x.zp (Kp.new hb))) (k2.trans (Kp.new hb)) (pot2.same (Same.new hb))⟩
    · obtain ⟨a, xs, rfl, na, ea, dx⟩ := dat_tup dv
      exact ⟨a, xs, rfl, .inr (SqT.of ea), fun b hb => q _ (.list ds) _ ⟨ds, rfl, hl, hg⟩ (.lst (y.zo.off hb) upd_same (dx.kp x.zp (Kp.new hb))) (k2.trans (Kp.new hb)) (pot2.same (Same.new hb))⟩
/-- t[0] -/
theorem dt_head {K : PySem.W.Frag} {d : PyData} {r : List PyData} (h : Dt p Z σ H te (fun e => e = .tuple (d :: r))) : Dt p Z σ H (tOp (rIxT K) te (tC (.int 0))) (fun e => e = d) := fun H1 k1 pot Q q =>
  h H1 k1 pot _ fun v e H2 fd dv k2 pot2 => by
    subst fd
    obtain ⟨a, xs, rfl, na, ea, dx⟩ := dat_tup dv
    cases dx with
    | cons h1 h2 => exact ⟨a, _, 0, _, rfl, rfl, SqT.of ea, atI_nat (j := 0) (by rfl), q _ _ H2 rfl h1 k2 pot2⟩
theorem dt_par {i j : Nat} {us : TS} {D : Ends} (zp : Z p) (ha : Dt p Z σ H te F) (hb : Dt p Z σ H tb G) (pot : Pot H p)
    (k : ∀ v d u e H', F d → G e → Dat Z H' v d → Dat Z H' u e → Kp p H H' → Pot H' p → us D ((σ.set i (some v)).set j (some u)) H') : tSeq (tPar i j (tCons te (tCons tb tNil))) us D σ H :=
  ha H Kp.refl pot _ fun v d H1 fd dv k1 pot1 => hb H1 k1 pot1 _ fun u e H2 ge du k2 pot2 => ⟨v, u, rfl, k v d u e H2 fd ge (dv.kp zp k2) du (k1.trans k2) pot2⟩
theorem TupOf.sm {b c : Nat} (hc : n * (b + 2) + 3 ≤ c) : ∀ d, TupOf n (Sm m b) d → Sm (m + 1) c d := fun d ⟨ds, e, l, h⟩ => e ▸ Sm.tup h l hc
theorem LstOf.sm {b c : Nat} (hc : n * (b + 2) + 3 ≤ c) : ∀ d, LstOf n (Sm m b) d → Sm (m + 1) c d := fun d ⟨ds, e, l, h⟩ => e ▸ Sm.lst h l hc
theorem StrOf.sm {b : Nat} (hn : n ≤ 1000) (hc : 10 * n + 2 ≤ b) : ∀ d, StrOf n d → Sm m b d := fun d ⟨x, e, h⟩ => e ▸ h.sm (by omega) hc m
end
end Hv

namespace Hv
open PySem PySem.Spec PyProof.Rows L2
abbrev s__law_spoilt : Stmt := topS 25
abbrev N__law_spoilt : List Str := ["_law_pot_here", "_law_act_here", "_law_way", "_law_at", "_law_spot", "_law_word", "_law_sign"]
theorem sc__law_spoilt : FnScope N__law_spoilt ["_law_pot_here", "_law_act_here"] (defScope s__law_spoilt) := ⟨rfl, rfl, rfl, by decide +kernel, rfl, by decide +kernel, by decide +kernel⟩
theorem plain_name {x : Str} (h : x ∈ plainActs) : SOk 7 x ∧ 1 ≤ x.length := by
  simp only [plainActs, List.mem_cons, List.not_mem_nil, or_false] at h
  rcases h with h | h | h | h | h | h <;> subst h <;> exact ⟨⟨by decide, by decide +kernel⟩, by decide⟩
theorem log_small {n : Int} (h0 : 0 ≤ n) (h1 : n < 1000000000) : n.natAbs.log2 < 1920 := by
  have h : n.natAbs < 2 ^ 1920 := Nat.lt_trans (show n.natAbs < 2 ^ 30 by omega) (Nat.pow_lt_pow_right (by decide) (by decide))
  by_cases z : n.natAbs = 0
  · rw [z]; decide
  · exact (Nat.log2_lt z).mpr h
section
variable {P : Program} {w : World} {K : PySem.W.Frag} {mg : Str → Option Value} {base : Heap}
theorem ok_act (D : DefAt K mg "_law_act" s__law_act) (T : Nm mg) (c_law_draw : Dn P w K mg base 1 "_law_draw" ["_law_pot_here", "_law_sides"] spDraw) (c_law_label : Dn P w K mg base 3 "_law_label" ["_law_pot_here"] spLabel) :
    Dn P w K mg base 4 "_law_act" ["_law_pot_here"] (spThing 1 3000 fun d => isAct d = true) := by
  refine dn_mk D sc__law_act (fun _ _ _ _ _ _ us hl => match us, hl with | [_], _ => rfl) spThing_len (fun f cdv A outer s H vs Q E hr h => ?_)
  obtain ⟨p, rfl, pot, k⟩ := h
  refine ⟨_, ((pss_cons (ps_set (i := 1) sc__law_act.nd rfl (Or.inl rfl) (pe_lst (pa_cons (pe_tup (pa_cons pe_str pa_nil)) (pa_cons (pe_tup (pa_cons pe_str pa_nil)) (pa_cons (pe_tup (pa_cons pe_str pa_nil)) (pa_cons (pe_tup (pa_cons pe_str pa_nil)) (pa_cons (pe_tup (pa_cons pe_str pa_nil)) (pa_cons (pe_tup (pa_cons pe_str pa_nil)) pa_nil))))))))
 (pss_cons (ps_set (i := 2) sc__law_act.nd rfl (Or.inl rfl) (pe_d c_law_draw hr (by decide) (by rfl) (pa_cons (pv 0) (pa_cons pe_int pa_nil))))
 (pss_cons (ps_if (pt_cmpR op_lt (pv 2) pe_int (nomark _))
 (pss_one (ps_ret (pe_ix ix_list (pv 1) (pv 2) (fun _ _ => rfl))))
 pss_nil)
 (pss_cons (ps_if (pt_cmpR op_lt (pv 2) pe_int (nomark _))
 (pss_one (ps_ret (pe_tup (pa_cons pe_str (pa_cons (pe_d c_law_label hr (by decide) (by rfl) (pa_cons (pv 0) pa_nil)) pa_nil)))))
 pss_nil)
 (pss_one (ps_ret (pe_tup (pa_cons pe_str (pa_cons (pe_d c_law_label hr (by decide) (by rfl) (pa_cons (pv 0) pa_nil)) (pa_cons (pe_d c_law_draw hr (by decide) (by rfl) (pa_cons (pv 0) (pa_cons pe_int pa_nil))) pa_nil))))))))))), ?_⟩
  have x0 : Px p (OldZ H) H := ⟨pot, pot.some, Zo.old H⟩
  have one : ∀ (x : Str), x ∈ plainActs → ∀ σ H1, Px p (OldZ H) H1 → Dt p (OldZ H) σ H1 (tTup (tCons (tC (.str x)) tNil)) (fun d => isAct d = true ∧ Sm 1 3000 d) := fun x hx σ H1 x1 =>
    (dt_tupS x1 (dts_cons x1.zp (dt_str (F := fun d => d = .str x) rfl) dts_nil) (Nat.le_trans (by decide) sizeBig)).mono fun d ⟨ds, e, l, f⟩ => by
      obtain ⟨e0, rfl⟩ := List.length_eq_one_iff.mp l
      have : e0 = .str x := f e0 List.mem_cons_self
      subst this
      subst e
      refine ⟨by rw [isAct1]; exact decide_eq_true hx, Sm.tup (n := 0) (b := 72) (m := 1) (fun d hd => ?_) (by simp) (by decide)⟩
      rw [List.mem_singleton] at hd
      subst hd
      exact (plain_name hx).1.sm (by decide) (by decide) 0
  have D1 := dt_lstS (σ := L2.start N__law_act [V.ref p]) x0 (dts_cons x0.zp (one "look" (by decide +kernel) _ H x0) (dts_cons x0.zp (one "inner" (by decide +kernel) _ H x0) (dts_cons x0.zp (one "swallow" (by decide +kernel) _ H x0) (dts_cons x0.zp (one "answer" (by decide +kernel) _ H x0) (dts_cons x0.zp (one "skip" (by decide +kernel) _ H x0) (dts_cons x0.zp (one "fail" (by decide +kernel) _ H x0) dts_nil)))))) (Nat.le_trans (by decide) sizeBig)
  refine D1.asg pot fun v d H1 ⟨ds, e, hl, hds⟩ dv kp1 pot1 => ?_
  subst e
  obtain ⟨a, xs, rfl, na, ea, dx⟩ := dat_lst dv
  have x1 := x0.kp kp1 pot1
  refine (dt_drawC (Z := OldZ H) (H := H1) (i := 0) (c := 10) rfl).asg pot1 fun v2 d2 H2 ⟨way, e2, w0, w1⟩ dv2 kp2 pot2 => ?_
  subst e2
  cases dv2
  have x2 := x1.kp kp2 pot2
  have ea2 : H2 a = some (.lst xs) := kp2 _ _ ea fun z => na (z ▸ x0.zp)
  have dx2 := dx.kp x0.zp kp2
  refine ⟨_, rfl, _, _, rfl, rfl, _, rfl, ite_d (fun c => ?_) (fun c => ?_)⟩
  · have hw : way.toNat < xs.length := by have := dx.length; omega
    obtain ⟨d, hd, dd⟩ := dx2.get (List.getElem?_eq_getElem hw)
    obtain ⟨f1, f2⟩ := hds d (List.mem_of_getElem? hd)
    refine ⟨_, rfl, _, rfl, a, xs, way, xs[way.toNat], rfl, rfl, SqL.of ea2, by
      have e : ((way.toNat : Nat) : Int) = way := by omega
      have q : atI xs ((way.toNat : Nat) : Int) = some xs[way.toNat] := atI_nat (by simp [hw])
      rw [e] at q
      exact q, k _ d H2 f1 f2 dd (kp1.trans kp2) pot2⟩
  · refine ⟨_, rfl, _, _, rfl, rfl, _, rfl, ite_d (fun c => ?_) (fun c => ?_)⟩
    · refine ⟨_, rfl, p, rfl, pot2, fun y H3 ny kp3 pot3 => ⟨by show 2 ≤ sizeLine; decide, fun q hq => ?_⟩⟩
      have x3 := x2.kp kp3 pot3
      refine k _ (.tuple [.str "door", .str y]) _ (by show isAct _ = true; rw [isAct2]; exact Bool.and_eq_true_iff.mpr ⟨by decide, ny⟩) ?_ (.tup (x3.zo.off hq) upd_same (.cons (.str _) (.cons (.str _) .nil))) (((kp1.trans kp2).trans kp3).trans (Kp.new hq)) (pot3.same (Same.new hq))
      refine Sm.tup (n := 0) (b := 82) (m := 2) (fun d hd => ?_) (by simp) (by decide)
      simp only [List.mem_cons, List.not_mem_nil, or_false] at hd
      rcases hd with z | z <;> subst z
      · exact SOk.sm (n := 8) ⟨by decide, by decide +kernel⟩ (by decide) (by decide) 0
      · exact (name_sok ny).1.sm (by decide) (by decide) 0
    · refine ⟨_, rfl, p, rfl, pot2, fun y H3 ny kp3 pot3 => ?_⟩
      have x3 := x2.kp kp3 pot3
      refine ⟨_, rfl, p, 4, rfl, pot3, by decide, by decide, fun n H4 n0 n1 kp4 pot4 => ⟨by show 3 ≤ sizeLine; decide, fun q hq => ?_⟩⟩
      have x4 := x3.kp kp4 pot4
      have hdg : digitOk (.int n) = true := by
        show (decide (0 ≤ n) && decide (n ≤ 3)) = true
        rw [decide_eq_true n0, decide_eq_true (show n ≤ 3 by omega)]; rfl
      refine k _ (.tuple [.str "lend", .str y, .int n]) _ (by show isAct _ = true; rw [isAct3]; exact Bool.and_eq_true_iff.mpr ⟨Bool.and_eq_true_iff.mpr ⟨by decide, ny⟩, hdg⟩) ?_ (.tup (x4.zo.off hq) upd_same (.cons (.str _) (.cons (.str _) (.cons (.int _) .nil)))) ((((kp1.trans kp2).trans kp3).trans kp4).trans (Kp.new hq)) (pot4.same (Same.new hq))
      · have i1 := log_small n0 (by omega)
        refine ⟨?_, ?_, Nat.le_refl _⟩
        · have a1 : okD (.str "lend") = true := by decide
          have a2 : okD (.str y) = true := ((name_sok ny).1.sm (b := 82) (by decide) (by decide) 0).ok
          have a3 : okD (.int n) = true := decide_eq_true i1
          show (okD (.str "lend") && (okD (.str y) && (okD (.int n) && true))) = true
          rw [a1, a2, a3]; rfl
        · have := ((name_sok ny).1.sm (b := 82) (by decide) (by decide) 0).bg
          show big (.str "lend") + 2 + (big (.str y) + 2 + (1921 + 2 + 0)) + 3 ≤ 3000
          have : big (.str "lend") = 42 := by decide
          omega
end
end Hv

namespace Hv
open PySem PySem.Spec PyProof.Rows L2
/-- an act, or another tuple that begins with a word -/
structure ActLike (ds : List PyData) : Prop where
  ex : ∃ (x : Str) (r : List PyData), ds = .str x :: r ∧ SOk 7 x ∧ 1 ≤ x.length ∧ r.length ≤ 2
  sm : ∀ d ∈ ds, Sm 0 3000 d
theorem actLike {d : PyData} (h : isAct d = true) (s : Sm 1 3000 d) : ∃ ds, d = .tuple ds ∧ ActLike ds := by
  unfold isAct at h
  split at h
  · exact ⟨_, rfl, ⟨_, _, rfl, (plain_name (of_decide_eq_true h)).1, (plain_name (of_decide_eq_true h)).2, Nat.zero_le _⟩, s.untup⟩
  · have e := of_decide_eq_true (Bool.and_eq_true_iff.mp h).1
    subst e
    exact ⟨_, rfl, ⟨_, _, rfl, ⟨by decide, by decide +kernel⟩, by decide, by simp⟩, s.untup⟩
  · have e := of_decide_eq_true (Bool.and_eq_true_iff.mp (Bool.and_eq_true_iff.mp h).1).1
    subst e
    exact ⟨_, rfl, ⟨_, _, rfl, ⟨by decide, by decide +kernel⟩, by decide, by simp⟩, s.untup⟩
  · cases h
/-- what spoilt gives: some small thing -/
def spSpoilt : Sp := fun vs H Q _ => ∃ (p : Addr) (Z : Addr → Prop) (v : V) (ds : List PyData), vs = [.ref p, v] ∧ Px p Z H ∧ Dat Z H v (.tuple ds) ∧ ActLike ds ∧ ∀ (u : V) (d : PyData) (H' : Hp), Sm 2 30000 d → Dat Z H' u d → Kp p H H' → Pot H' p → Q u H'
section
variable {P : Program} {w : World} {K : PySem.W.Frag} {mg : Str → Option Value} {base : Heap}
theorem ok_spoilt (D : DefAt K mg "_law_spoilt" s__law_spoilt) (T : Nm mg) (c_law_draw : Dn P w K mg base 1 "_law_draw" ["_law_pot_here", "_law_sides"] spDraw) (c_law_pick : Dn P w K mg base 2 "_law_pick" ["_law_pot_here", "_law_some"] spPick) (c_law_odd_label : Dn P w K mg base 4 "_law_odd_label" ["_law_pot_here"] (spThing 1 3000 fun _ => True)) (c_law_odd_digit : Dn P w K mg base 3 "_law_odd_digit" ["_law_pot_here"] (spThing 1 3000 fun _ => True)) :
    Dn P w K mg base 5 "_law_spoilt" ["_law_pot_here", "_law_act_here"] spSpoilt := by
  refine dn_mk D sc__law_spoilt (fun _ _ _ _ _ _ us hl => match us, hl with | [_, _], _ => rfl) (fun vs H Q E h => ?_) (fun f cdv A outer s H vs Q E hr h => ?_)
  · obtain ⟨_, _, _, _, rfl, _⟩ := h; rfl
  obtain ⟨p, Z, v, ds, rfl, x0, dv, ⟨⟨wd, r, rfl, sw, lw, lr⟩, sm⟩, k⟩ := h
  refine ⟨_, ((pss_cons (ps_par (i := 2) (j := 3) (by rfl) sc__law_spoilt.nd rfl rfl (by decide) rfl rfl (pa_cons (pe_d c_law_draw hr (by decide) (by rfl) (pa_cons (pv 0) (pa_cons pe_int pa_nil))) (pa_cons (pe_d c_law_draw hr (by decide) (by rfl) (pa_cons (pv 0) (pa_cons (pe_callB call_len (by rfl) T.n_len (by decide +kernel) (pa_cons (pv 1) pa_nil)) pa_nil))) pa_nil)) (by rfl))
 (pss_cons (ps_if (pt_cmpR op_eq (pv 2) pe_int (nomark _))
 (pss_one (ps_ret (pe_op op_catA (pe_op op_catA (pe_slice sl_tupA (pv 1) po_none (po_some (pv 3))) (pe_tup (pa_cons (pe_d c_law_odd_label hr (by decide) (by rfl) (pa_cons (pv 0) pa_nil)) pa_nil))) (pe_slice sl_tupA (pv 1) (po_some (pe_op op_add (pv 3) pe_int)) po_none))))
 pss_nil)
 (pss_cons (ps_if (pt_cmpR op_eq (pv 2) pe_int (nomark _))
 (pss_one (ps_ret (pe_op op_catA (pe_op op_catA (pe_slice sl_tupA (pv 1) po_none (po_some (pv 3))) (pe_tup (pa_cons (pe_d c_law_odd_digit hr (by decide) (by rfl) (pa_cons (pv 0) pa_nil)) pa_nil))) (pe_slice sl_tupA (pv 1) (po_some (pe_op op_add (pv 3) pe_int)) po_none))))
 pss_nil)
 (pss_cons (ps_if (pt_cmpR op_eq (pv 2) pe_int (nomark _))
 (pss_one (ps_ret (pe_op op_catA (pe_slice sl_tupA (pv 1) po_none (po_some (pv 3))) (pe_slice sl_tupA (pv 1) (po_some (pe_op op_add (pv 3) pe_int)) po_none))))
 pss_nil)
 (pss_cons (ps_if (pt_cmpR op_eq (pv 2) pe_int (nomark _))
 (pss_one (ps_ret (pe_op op_catA (pe_op op_catA (pe_slice sl_tupA (pv 1) po_none (po_some (pv 3))) (pe_tup (pa_cons (pe_d c_law_pick hr (by decide) (by rfl) (pa_cons (pv 0) (pa_cons (pe_lst (pa_cons pe_str (pa_cons pe_int (pa_cons pe_str (pa_cons pe_non (pa_cons (pe_tup pa_nil) pa_nil)))))) pa_nil))) pa_nil))) (pe_slice sl_tupA (pv 1) (po_some (pv 3)) po_none))))
 pss_nil)
 (pss_cons (ps_if (pt_cmpR op_eq (pv 2) pe_int (nomark _))
 (pss_one (ps_ret (pe_op op_catA (pv 1) (pe_tup (pa_cons (pe_d c_law_pick hr (by decide) (by rfl) (pa_cons (pv 0) (pa_cons (pe_lst (pa_cons pe_str (pa_cons pe_int (pa_cons pe_str (pa_cons pe_non (pa_cons (pe_tup pa_nil) pa_nil)))))) pa_nil))) pa_nil)))))
 pss_nil)
 (pss_cons (ps_if (pt_cmpR op_eq (pv 2) pe_int (nomark _))
 (pss_cons (ps_par (i := 5) (j := 6) (by rfl) sc__law_spoilt.nd rfl rfl (by decide) rfl rfl (pa_cons (pe_ix ix_tup (pv 1) pe_int (fun _ _ => rfl)) (pa_cons (pe_d c_law_pick hr (by decide) (by rfl) (pa_cons (pv 0) (pa_cons (pe_lst (pa_cons pe_str (pa_cons pe_str (pa_cons pe_str (pa_cons pe_str (pa_cons pe_str (pa_cons pe_str pa_nil))))))) pa_nil))) pa_nil)) (by rfl))
 (pss_cons (ps_set (i := 4) sc__law_spoilt.nd rfl (Or.inl rfl) (pe_d c_law_draw hr (by decide) (by rfl) (pa_cons (pv 0) (pa_cons (pe_callB call_len (by rfl) T.n_len (by decide +kernel) (pa_cons (pv 5) pa_nil)) pa_nil))))
 (pss_one (ps_ret (pe_op op_catA (pe_tup (pa_cons (pe_op op_add_str (pe_op op_add_str (pe_slice sl_str (pv 5) po_none (po_some (pv 4))) (pv 6)) (pe_slice sl_str (pv 5) (po_some (pe_op op_add (pv 4) pe_int)) po_none)) pa_nil)) (pe_slice sl_tupA (pv 1) (po_some pe_int) po_none))))))
 pss_nil)
 (pss_cons (ps_if (pt_cmpR op_eq (pv 2) pe_int (nomark _))
 (pss_one (ps_ret (pe_revT (pv 1))))
 pss_nil)
 (pss_one (ps_ret (pe_d c_law_pick hr (by decide) (by rfl) (pa_cons (pv 0) (pa_cons (pe_lst (pa_cons (pe_callTy call_list_of (by rfl) T.n_list (by decide +kernel) (pa_cons (pv 1) pa_nil)) (pa_cons (pe_tup (pa_cons (pv 1) pa_nil)) (pa_cons (pe_lst (pa_cons (pv 1) pa_nil)) (pa_cons (pe_ix ix_tup (pv 1) pe_int (fun _ _ => rfl)) (pa_cons (pe_tup (pa_cons (pe_callTy call_list_of (by rfl) T.n_list (by decide +kernel) (pa_cons (pv 1) pa_nil)) pa_nil)) (pa_cons (pe_tup pa_nil) (pa_cons (pe_lst pa_nil) (pa_cons pe_non (pa_cons pe_int (pa_cons pe_bl (pa_cons pe_dnewK (pa_cons (pe_op op_catA (pv 1) (pv 1)) pa_nil))))))))))))) pa_nil)))))))))))))), ?_⟩
  have zp := x0.zp
  have hlen : (PyData.str wd :: r).length ≤ 3 := by rw [List.length_cons]; omega
  have n1 : Dt p Z (L2.start N__law_spoilt [V.ref p, v]) H (tCB (fun xs H_1 Q => ∃ x n, xs = [x] ∧ LenV K x H_1 n ∧ Q (V.int n) H_1) (tCons (tVar 1) tNil)) (fun d => ∃ n, d = .int n ∧ 1 ≤ n ∧ n ≤ 3) := fun H1 k1 pot1 Q1 q1 => by
    obtain ⟨a, xs, e, na, ea, dx⟩ := dat_tup (dv.kp zp k1)
    subst e
    have := dx.length
    refine ⟨_, rfl, _, _, rfl, .inr ⟨xs, SqT.of ea, rfl⟩, q1 _ _ H1 ⟨_, rfl, ?_, ?_⟩ (.int _) Kp.refl pot1⟩
    · rw [this, List.length_cons]; omega
    · rw [this]; omega
  refine dt_par zp (dt_drawC rfl) (dt_draw rfl n1 (by decide) (by decide)) x0.pot fun v1 d1 v2 d2 H2 ⟨way, e1, w0, w1⟩ ⟨at_, e2, a0, a1⟩ dv1 dv2 kp2 pot2 => ?_
  subst e1 e2
  cases dv1
  cases dv2
  have x2 := x0.kp kp2 pot2
  have dw := dv.kp zp kp2
  have fin : ∀ (u : V) (d : PyData) (H' : Hp), Sm 2 30000 d → Dat Z H' u d → Kp p H2 H' → Pot H' p → Q u H' := fun u d H' s dd kk pp => k u d H' s dd (kp2.trans kk) pp
  have act : ∀ σ : L2.St, σ[1]? = some (some v) → Dt p Z σ H2 (tVar 1) (TupOf 3 (Sm 1 3000)) := fun σ e => dt_var zp dw e ⟨_, rfl, hlen, fun d hd => (sm d hd).mono (by decide) (Nat.le_refl _)⟩
  have act0 : ∀ σ : L2.St, σ[1]? = some (some v) → Dt p Z σ H2 (tVar 1) (TupOf 3 (Sm 0 3000)) := fun σ e => dt_var zp dw e ⟨_, rfl, hlen, fun d hd => sm d hd⟩
  have actE : ∀ σ : L2.St, σ[1]? = some (some v) → Dt p Z σ H2 (tVar 1) (fun e => e = .tuple (.str wd :: r)) := fun σ e => dt_var zp dw e rfl
  have low : ∀ (d : PyData), TupOf 7 (Sm 1 3000) d → Sm 2 30000 d := TupOf.sm (by decide)
  have s1 : ∀ x : Str, SOk 1 x → Sm 1 3000 (.str x) := fun x h => h.sm (by decide) (by decide) 1
  have pk : ∀ σ : L2.St, σ[0]? = some (some (.ref p)) → Dt p Z σ H2 (tCall spPick [] E0 (tCons (tVar 0) (tCons (tLst (tCons (tC (V.str "")) (tCons (tC (V.int 0)) (tCons (tC (V.str "a")) (tCons (tC V.non) (tCons (tTup tNil) tNil)))))) tNil))) (Sm 1 3000) := fun σ e =>
    dt_pick x2 e (dts_cons zp (dt_str (s1 _ ⟨by decide, by decide +kernel⟩)) (dts_cons zp (dt_int (Sm.i (by decide) 0 (by decide) 1)) (dts_cons zp (dt_str (s1 _ ⟨by decide, by decide +kernel⟩)) (dts_cons zp (dt_non (Sm.n (by decide) 1)) (dts_cons zp ((dt_tupN x2 (dts_nil (F := Sm 0 3000)) (by decide)).mono (TupOf.sm (by decide))) dts_nil)))))
  refine ⟨_, rfl, rfl, _, rfl, ite_d (fun c => ?_) (fun c => ?_)⟩
  · exact (dt_catT x2 (dt_catT x2 (dt_slT x2 (act _ rfl) pok_none (pok_var rfl)) (dt_tupN x2 (dts_cons zp ((dt_thing x2 rfl).mono fun d h => h.2) dts_nil) (by decide)) (by decide)) (dt_slT x2 (act _ rfl) (pok_var1 rfl) pok_none) (by decide)).ret pot2 fun u d H' fd => fin u d H' (low d fd)
  refine ⟨_, rfl, rfl, _, rfl, ite_d (fun c => ?_) (fun c => ?_)⟩
  · exact (dt_catT x2 (dt_catT x2 (dt_slT x2 (act _ rfl) pok_none (pok_var rfl)) (dt_tupN x2 (dts_cons zp ((dt_thing x2 rfl).mono fun d h => h.2) dts_nil) (by decide)) (by decide)) (dt_slT x2 (act _ rfl) (pok_var1 rfl) pok_none) (by decide)).ret pot2 fun u d H' fd => fin u d H' (low d fd)
  refine ⟨_, rfl, rfl, _, rfl, ite_d (fun c => ?_) (fun c => ?_)⟩
  · exact (dt_catT x2 (dt_slT x2 (act _ rfl) pok_none (pok_var rfl)) (dt_slT x2 (act _ rfl) (pok_var1 rfl) pok_none) (by decide)).ret pot2 fun u d H' fd => fin u d H' (TupOf.sm (by decide) d fd)
  refine ⟨_, rfl, rfl, _, rfl, ite_d (fun c => ?_) (fun c => ?_)⟩
  · exact (dt_catT x2 (dt_catT x2 (dt_slT x2 (act _ rfl) pok_none (pok_var rfl)) (dt_tupN x2 (dts_cons zp (pk _ rfl) dts_nil) (by decide)) (by decide)) (dt_slT x2 (act _ rfl) (pok_var rfl) pok_none) (by decide)).ret pot2 fun u d H' fd => fin u d H' (low d fd)
  refine ⟨_, rfl, rfl, _, rfl, ite_d (fun c => ?_) (fun c => ?_)⟩
  · exact (dt_catT x2 (act _ rfl) (dt_tupN x2 (dts_cons zp (pk _ rfl) dts_nil) (by decide)) (by decide)).ret pot2 fun u d H' fd => fin u d H' (TupOf.sm (by decide) d fd)
  refine ⟨_, rfl, rfl, _, rfl, ite_d (fun c => ?_) (fun c => ?_)⟩
  · have sl : ∀ x : Str, SOk 1 x → StrOf 1 (.str x) := fun x h => ⟨x, rfl, h⟩
    refine dt_par zp (dt_head (actE _ rfl)) (dt_pick (F := StrOf 1) x2 rfl (dts_cons zp (dt_str (sl _ ⟨by decide, by decide +kernel⟩)) (dts_cons zp (dt_str (sl _ ⟨by decide, by decide +kernel⟩)) (dts_cons zp (dt_str (sl _ ⟨by decide, by decide +kernel⟩)) (dts_cons zp (dt_str (sl _ ⟨by decide, by decide +kernel⟩)) (dts_cons zp (dt_str (sl _ ⟨by decide, by decide +kernel⟩)) (dts_cons zp (dt_str (sl _ ⟨by decide, by decide +kernel⟩)) dts_nil))))))) pot2 fun v1 d1 v3 d3 H3 e1 ⟨sg, e3, ssg⟩ dv1 dv3 kp3 pot3 => ?_
    subst e1 e3
    cases dv1
    cases dv3
    have x3 := x2.kp kp3 pot3
    refine ⟨_, rfl, _, rfl, _, _, rfl, ⟨sw.sz (by decide), rfl⟩, p, _, rfl, pot3, by omega, by have := sw.1; omega, fun spot H4 s0 s1 kp4 pot4 => ?_⟩
    have x4 := x3.kp kp4 pot4
    have kp24 := kp3.trans kp4
    have hw : Dt p Z ((((((L2.start N__law_spoilt [V.ref p, v]).set 2 (some (.int way))).set 3 (some (.int at_))).set 5 (some (.str wd))).set 6 (some (.str sg))).set 4 (some (.int spot))) H4 (tVar 5) (StrOf 7) := dt_var zp (.str wd) rfl ⟨wd, rfl, sw⟩
    exact (dt_catT x4 (dt_tupN x4 (dts_cons zp ((dt_addS (dt_addS (dt_cutS hw (by decide) pok_none (pok_var rfl)) (dt_var (F := StrOf 1) zp (.str sg) rfl ⟨sg, rfl, ssg⟩) (by decide)) (dt_cutS hw (by decide) (pok_var1 rfl) pok_none) (by decide)).mono (StrOf.sm (by decide) (by decide))) dts_nil) (by decide)) (dt_slT x4 ((act _ rfl).later kp24) pok_int pok_none) (by decide)).ret pot4 fun u d H' fd dd kk pp => fin u d H' (TupOf.sm (by decide) d fd) dd (kp24.trans kk) pp
  refine ⟨_, rfl, rfl, _, rfl, ite_d (fun c => ?_) (fun c => ?_)⟩
  · exact (dt_revT x2 (act _ rfl)).ret pot2 fun u d H' fd => fin u d H' (TupOf.sm (by decide) d fd)
  · have l0 := fun (σ : L2.St) (e : σ[1]? = some (some v)) => (dt_listOf (K := K) x2 ((act0 σ e).mono fun d h => .inr h)).mono (LstOf.sm (c := 10000) (by decide))
    have a0 := fun (σ : L2.St) (e : σ[1]? = some (some v)) => (act0 σ e).mono (TupOf.sm (c := 10000) (by decide))
    refine (dt_pick (F := Sm 2 30000) x2 rfl (dts_cons zp ((l0 _ rfl).mono fun d h => h.mono (by decide) (by decide)) (dts_cons zp ((dt_tupN x2 (dts_cons zp (a0 _ rfl) dts_nil) (by decide)).mono (TupOf.sm (by decide))) (dts_cons zp ((dt_lstN x2 (dts_cons zp (a0 _ rfl) dts_nil) (by decide)).mono (LstOf.sm (by decide))) (dts_cons zp ((dt_head (actE _ rfl)).mono fun d e => e ▸ (sm _ List.mem_cons_self).mono (by decide) (by decide)) (dts_cons zp ((dt_tupN x2 (dts_cons zp (l0 _ rfl) dts_nil) (by decide)).mono (TupOf.sm (by decide))) (dts_cons zp ((dt_tupN x2 (dts_nil (F := Sm 1 3000)) (by decide)).mono (TupOf.sm (by decide))) (dts_cons zp ((dt_lstN x2 (dts_nil (F := Sm 1 3000)) (by decide)).mono (LstOf.sm (by decide))) (dts_cons zp (dt_non (Sm.n (by decide) 2)) (dts_cons zp (dt_int (Sm.i (by decide) 0 (by decide) 2)) (dts_cons zp (dt_bl (Sm.b (by decide) true 2)) (dts_cons zp (dt_dict0 x2 ⟨by decide, by decide, by decide⟩) (dts_cons zp ((dt_catT x2 (act _ rfl) (act _ rfl) (by decide)).mono (TupOf.sm (by decide))) dts_nil))))))))))))).ret pot2 fin
end
end Hv

namespace Hv
open PySem PySem.Spec PyProof.Rows L2
/-- list(e) -/
def rLst (K : PySem.W.Frag) : List V → Hp → VK → Prop := fun xs H Q => ∃ p ys, xs = [V.ref p] ∧ (SqL K H p ys ∨ SqT K H p ys) ∧ ∀ l, H l = none → Q (.ref l) (upd H l (.lst ys))
/-! ### comprehensions whose items are data -/
/-- Z and D -/
def Zd (Z : Addr → Prop) (D : Addr) : Addr → Prop := fun b => Z b ∨ b = D
theorem Dat.zd {Z : Addr → Prop} {H : Hp} {v : V} {d : PyData} {D : Addr} (h : Dat Z H v d) (hD : H D = none) : Dat (Zd Z D) H v d := h.mono (fun b q => q.elim .inl fun e => .inr (e ▸ hD)) fun _ _ e _ => e
theorem Dats.zd {Z : Addr → Prop} {H : Hp} {v : List V} {d : List PyData} {D : Addr} (h : Dats Z H v d) (hD : H D = none) : Dats (Zd Z D) H v d := h.mono (fun b q => q.elim .inl fun e => .inr (e ▸ hD)) fun _ _ e _ => e
theorem Dats.less {Z Z' : Addr → Prop} {H : Hp} {v : List V} {d : List PyData} (h : Dats Z H v d) (hz : ∀ b, Z' b → Z b) : Dats Z' H v d := h.mono (fun b q => .inl (hz b q)) fun _ _ e _ => e
theorem Dats.snoc {Z : Addr → Prop} {H : Hp} {v : V} {d : PyData} {vs : List V} {ds : List PyData} (h : Dats Z H vs ds) (k : Dat Z H v d) : Dats Z H (vs ++ [v]) (ds ++ [d]) := h.append (.cons k .nil)
theorem Zo.zd {Z : Addr → Prop} {H : Hp} {D : Addr} {o : HO} (h : Zo Z H) (hD : H D = none) : Zo (Zd Z D) (upd H D o) := fun b zb => by
  rcases zb with zb | rfl
  · intro n
    have := h b zb
    rw [upd_ne (fun e => this (by rw [e]; exact hD))] at n
    exact this n
  · rw [upd_same]; exact fun z => nomatch z
theorem lc_datS {J : It} {n : Nat} {G : Hp → Prop} {Y : Nat → Hp → V → Hp → Prop} (w : Walk J n G Y) {g : TG} {te : TE} {vs : List Nat} {σ : L2.St} {H1 : Hp} {D : Addr} {Qd : Hp → Prop} {Z : Addr → Prop} (f : Nat → PyData) (zo : Zo Z H1) (hD : H1 D = none) (hz : n < sizeLine) (hG : ∀ H, Same H1 H → G H)
    (turn : ∀ i x H H' (κ : VK), i < n → Same H1 H → Zo (Zd Z D) H → Y i H x H' → (∀ v H4, Same H H4 → Dat (Zd Z D) H4 v (f i) → κ v H4) → g x (wipe σ vs) H' fun σ2 H2 => wipe σ2 vs = wipe σ vs ∧ te σ2 H2 κ)
    (done : ∀ H, Same H1 H → Dat Z H (.ref D) (.list ((List.range n).map f)) → Qd H) : LcAsks J g te vs σ H1 D Qd := by
  refine lc_run w (fun i acc H => Same H1 H ∧ Zo (Zd Z D) H ∧ Dats (Zd Z D) H acc ((List.range i).map f)) ⟨Same.new hD, zo.zd hD, .nil⟩ hz (fun i acc H p => by rw [p.2.2.length]; simp) (fun i acc H _ _ p => hG H p.1) ?_ fun acc H e p => done H p.1 ?_
  · rintro i acc x H H' κ hi e ⟨s, z, ds⟩ y k
    refine turn i x H H' κ hi s z y fun v H4 s4 dv => k v H4 (s4 _ _ e) ⟨fun b o q => ?_, ?_, ?_⟩
    · rw [upd_ne (ne_of_none q hD)]
      exact s4 b o (s b o q)
    · intro b zb
      by_cases eb : b = D
      · rw [eb, upd_same]; exact fun z => nomatch z
      · rw [upd_ne eb]
        exact fun q => z b zb (s4.free q)
    · rw [List.range_succ, List.map_append]
      refine Dats.mono (fun _ q => .inl q) (fun b o q nz => ?_) (Dats.snoc (Dats.mono (fun _ q => .inl q) (fun b o q _ => s4 b o q) ds) dv)
      rw [upd_ne (fun e => nz (.inr e))]
      exact q
  · exact .lst (zo.off hD) e (p.2.2.less fun b q => .inl q)
/-- .. that may draw -/
theorem lc_datP {J : It} {n : Nat} {G : Hp → Prop} {Y : Nat → Hp → V → Hp → Prop} (w : Walk J n G Y) {g : TG} {te : TE} {vs : List Nat} {σ : L2.St} {H1 : Hp} {D p : Addr} {Qd : Hp → Prop} {Z : Addr → Prop} (F : Nat → PyData → Prop) (x : Px p Z H1) (hD : H1 D = none) (hz : n < sizeLine) (hG : ∀ H, Kp p H1 H → Pot H p → G H)
    (turn : ∀ i v H H' (κ : VK), i < n → Kp p H1 H → Px p (Zd Z D) H → Y i H v H' → (∀ v d H4, F i d → Dat (Zd Z D) H4 v d → Kp p H H4 → Pot H4 p → κ v H4) → g v (wipe σ vs) H' fun σ2 H2 => wipe σ2 vs = wipe σ vs ∧ te σ2 H2 κ)
    (done : ∀ H us ds, Kp p H1 H → Pot H p → ds.length = n → (∀ i d, ds[i]? = some d → F i d) → ¬ Z D → H D = some (.lst us) → Dats (Zd Z D) H us ds → Qd H) : LcAsks J g te vs σ H1 D Qd := by
  have nDp : D ≠ p := x.ne hD
  refine lc_run w (fun i acc H => Kp p H1 H ∧ Px p (Zd Z D) H ∧ ∃ ds, Dats (Zd Z D) H acc ds ∧ ds.length = i ∧ ∀ i d, ds[i]? = some d → F i d) ⟨Kp.new hD, ⟨x.pot.same (Same.new hD), .inl x.zp, x.zo.zd hD⟩, [], .nil, rfl, fun _ _ q => by simp at q⟩ hz
    (fun i acc H ⟨_, _, ds, h1, h2, _⟩ => by rw [h1.length, h2]) (fun i acc H _ _ p => hG H p.1 p.2.1.pot) ?_ fun acc H e ⟨k, y, ds, h1, h2, h3⟩ => done H acc ds k y.pot h2 h3 (x.zo.off hD) e h1
  · rintro i acc v H H' κ hi e ⟨k1, x1, ds, h1, h2, h3⟩ y k
    refine turn i v H H' κ hi k1 x1 y fun v d H4 fd dv k4 pot4 => k v H4 (k4 _ _ e nDp) ⟨fun b o q nb => ?_, ⟨pot4.keep fun o q => ?_, x1.zp, fun b zb => ?_⟩, ds ++ [d], ?_, ?_, fun j d' hj => ?_⟩
    · rw [upd_ne (ne_of_none q hD)]
      exact k4 b o (k1 b o q nb) nb
    · rw [upd_ne (Ne.symm nDp)]
      exact q
    · by_cases eb : b = D
      · rw [eb, upd_same]; exact fun z => nomatch z
      · rw [upd_ne eb]
        exact (x1.kp k4 pot4).zo b zb
    · refine Dats.mono (fun _ q => .inl q) (fun b o q nz => ?_) (Dats.snoc (h1.kp x1.zp k4) dv)
      rw [upd_ne (fun e => nz (.inr e))]
      exact q
    · rw [List.length_append, h2]; rfl
    · by_cases hji : j < ds.length
      · rw [List.getElem?_append_left hji] at hj
        exact h3 j d' hj
      · have : j = ds.length := by
          have := (List.getElem?_eq_some_iff.mp hj).1
          simp at this
          omega
        subst this
        simp at hj
        subst hj
        rw [h2]
        exact fd
/-- what is shown to hold behind a statement is told once -/
theorem with_rest {t rest : TS} {D : Ends} {σ : L2.St} {H : Hp} (Pj : L2.St → Hp → Prop) (k : ∀ σ' H', Pj σ' H' → rest D σ' H') (h : (∀ σ' H', Pj σ' H' → rest D σ' H') → tSeq t rest D σ H) : tSeq t rest D σ H := h k
end Hv

namespace Hv
open PySem PySem.Spec PyProof.Rows L2
abbrev s_Script___init__ : Stmt := inClass (topS 16) 0
abbrev N_Script___init__ : List Str := ["self", "rows", "position", "row"]
theorem sc_Script___init__ : FnScope N_Script___init__ ["self", "rows"] (defScope s_Script___init__) := ⟨rfl, rfl, rfl, by decide +kernel, rfl, by decide +kernel, by decide +kernel⟩
abbrev s_Script_cost : Stmt := inClass (topS 16) 1
abbrev N_Script_cost : List Str := ["self", "row"]
theorem sc_Script_cost : FnScope N_Script_cost ["self"] (defScope s_Script_cost) := ⟨rfl, rfl, rfl, by decide +kernel, rfl, by decide +kernel, by decide +kernel⟩
abbrev s_Script_rows : Stmt := inClass (topS 16) 2
abbrev N_Script_rows : List Str := ["self", "row"]
theorem sc_Script_rows : FnScope N_Script_rows ["self"] (defScope s_Script_rows) := ⟨rfl, rfl, rfl, by decide +kernel, rfl, by decide +kernel, by decide +kernel⟩
abbrev s_Script___len__ : Stmt := inClass (topS 16) 3
abbrev N_Script___len__ : List Str := ["self"]
theorem sc_Script___len__ : FnScope N_Script___len__ ["self"] (defScope s_Script___len__) := ⟨rfl, rfl, rfl, by decide +kernel, rfl, by decide +kernel, by decide +kernel⟩
/-- a row, as a list -/
def rowL : PyData → PyData
  | .tuple ds => .list ds
  | d => d
def rowN : PyData → Nat
  | .tuple ds => ds.length
  | .list ds => ds.length
  | _ => 0
/-- an own error class under ValueError -/
abbrev ErrVE (P : Program) (K : PySem.W.Frag) (mg : Str → Option Value) (x : Str) (C : Addr) (fs : List Str) : Prop := ErrC P K mg x C "ValueError" "ValueError.__new__" "ValueError.__init__" [Value.type "ValueError", Value.type "Exception", Value.type "BaseException", Value.type "object"] fs
/-- the class Script, as the top leaves it -/
structure ScC (K : PySem.W.Frag) (mg : Str → Option Value) (C fi fr fl pc fc : Addr) (di dr dl dc : FuncData) : Prop where
  g : mg "Script" = some (.ref C)
  c : Cls K C
  mak : Mk K C fi
  na : NoAttr K C "own_rows"
  init : Fun K "__init__" "Script.__init__" s_Script___init__ fi di
  rows : Meth K C "rows" fr
  rowsF : Fun K "rows" "Script.rows" s_Script_rows fr dr
  len : PySem.W.findIn K (.ref C) "__len__" = some (some (.ref fl))
  lenT : PySem.W.typeIn K (.ref fl) = some (.type "function")
  lenF : Fun K "__len__" "Script.__len__" s_Script___len__ fl dl
  cost : PropOf K C "cost" pc fc
  costF : Fun K "cost" "Script.cost" s_Script_cost fc dc
theorem row_len {Z : Addr → Prop} {H : Hp} {r : V} {d : PyData} (dv : Dat Z H r d) (h : rowN d ≤ 1000) : ∀ a xs, [r] = [.ref a] → (H a = some (.lst xs) ∨ H a = some (.tup xs)) → xs.length < sizeLine := by
  intro a xs e hh
  have big : 1000 < sizeLine := by rw [sizeLine_eq]; decide
  cases e
  cases dv with
  | lst _ ha hs =>
    rcases hh with z | z <;> rw [ha] at z <;> cases z
    rw [hs.length]; exact Nat.lt_of_le_of_lt h big
  | tup _ ha hs =>
    rcases hh with z | z <;> rw [ha] at z <;> cases z
    rw [hs.length]; exact Nat.lt_of_le_of_lt h big
  | dct _ ha hs => rcases hh with z | z <;> rw [ha] at z <;> cases z
/-- of the rows: made, or refused with the first that is none -/
def spInit (C CI : Addr) : Sp := fun vs H Q E => ∃ (a dx t : Addr) (xs : List V) (ds : List PyData), vs = [.ref a, .ref t] ∧ H a = some (.ins C dx []) ∧ H dx = some (.own a) ∧ H t = some (.tup xs) ∧ Dats (fun b => b = a) H xs ds ∧ (∀ d ∈ ds, okD d = true ∧ rowN d ≤ 1000) ∧ ds.length ≤ 1000 ∧
  (ds.all isRow = true → ∀ (l : Addr) (H' : Hp), Kp a H H' → H' a = some (.ins C dx [("own_rows", .ref l)]) → Dat (fun b => b = a) H' (.ref l) (.list (ds.map rowL)) → Q .non H') ∧
  (∀ (i : Nat) (d : PyData), ds[i]? = some d → isRow d = false → (∀ j e, j < i → ds[j]? = some e → isRow e = true) → ∀ (dd : Addr) (H' : Hp), Kp a H H' → H' dd = some (.xd [("position", .int i)]) → E (.ref CI) (some dd) H')
section
variable {P : Program} {w : World} {K : PySem.W.Frag} {mg : Str → Option Value} {base : Heap}
theorem ok_init {C fi fr fl pc fc CI : Addr} {di dr dl dc : FuncData} (S : ScC K mg C fi fr fl pc fc di dr dl dc) (T : Nm mg) (EC_InvalidScript : ErrVE P K mg "InvalidScript" CI ["position"])
    (cis_row : Dn P w K mg base 3 "is_row" ["value"] (fun vs H Q E => spB isRow vs H Q E ∧ ∀ a xs, vs = [.ref a] → (H a = some (.lst xs) ∨ H a = some (.tup xs)) → xs.length < sizeLine)) :
    FnR P w K mg base (L2.CX P w) 4 fi (fun vs H Q E => ∃ ws rest, vs = ws ++ rest ∧ ws.length = 1 ∧ rest.length ≤ sizeLine ∧ ∀ p, H p = Option.none → spInit C CI (ws ++ [V.ref p]) (upd H p (.tup rest)) Q E) := by
  obtain ⟨oc, od, kV, doc, pm, an, cdv, ct, osl, e, lk, hcd⟩ := S.init.ex
  subst e
  refine StX.fn_star (ps := ["self"]) (pv := "rows") lk hcd sc_Script___init__ StX.cxUp (fun us rest hl => match us, hl, rest with | [u], _, [] => rfl | [u], _, [_] => rfl | [u], _, _ :: _ :: _ => rfl) (fun A outer s H vs Q E hr h => ?_)
  obtain ⟨a, dx, t, xs, ds, rfl, ha, hdx, ht, dxs, ok, hlen, kq, ke⟩ := h
  have tk : Takes (cxOf (L2.CX P w) P w K mg base N_Script___init__ "Script.__init__" (defScope s_Script___init__) fi cdv A outer s H E) (fun cls d _ H => E cls d H) := takes_of rfl rfl rfl rfl
  refine ⟨_, ((pss_cons (ps_for (passes_of rfl) rfl (pi_enumT (by rfl) T.n_enumerate (pa_cons (pv 1) pa_nil)) (pg_tup (by rfl) (pgs_cons (pg_name (i := 2) sc_Script___init__.nd rfl (Or.inl rfl)) (pgs_cons (pg_name (i := 3) sc_Script___init__.nd rfl (Or.inl rfl)) pgs_nil)))
 (pss_one (ps_if (pt_not (pt_val (pe_d cis_row hr (by decide) (by rfl) (pa_cons (pv 3) pa_nil))))
 (pss_one (ps_raiseErr (by rfl) EC_InvalidScript F.excBase_ValueError PySem.W.kxs_ValueError F.store_ValueError hr (by decide) tk (pa_cons (pv 2) pa_nil)))
 pss_nil)))
 (pss_one (ps_fld (pv 0) (pe_lc (own := [("row", 3)]) (g := gName 3) rfl sc_Script___init__.nd (pi_tup (pv 1)) (blkOk_by (own := [("row", 3)]) (N := N_Script___init__) (sc := defScope s_Script___init__) (by decide +kernel)) (fun _ _ _ _ _ => (pg_name (i := 3) sc_Script___init__.nd rfl (Or.inl rfl))) (fun _ _ _ _ _ => pts_nil) (fun _ _ _ _ _ => (pe_callTy (T := "list") (r := rLst K) call_list_of (by rfl) T.n_list (by decide +kernel) (pa_cons (pv 3) pa_nil)))) rfl)))), ?_⟩
  have za : Zo (fun b => b = a) H := fun b e => by subst e; rw [ha]; exact fun z => nomatch z
  refine ⟨_, rfl, t, xs, rfl, SqT.of ht, ?_⟩
  refine for_it (walk_enumT (K := K) (a := t) (xs := xs)) (fun i σ' H' => Same H H' ∧ σ'.length = 4 ∧ σ'[0]? = some (some (.ref a)) ∧ σ'[1]? = some (some (.ref t)) ∧ ∀ j e, j < i → ds[j]? = some e → isRow e = true) ⟨Same.refl, rfl, rfl, rfl, fun j e h => absurd h (Nat.not_lt_zero _)⟩ (fun i σ' H' _ h => SqT.of (h.1 _ _ ht)) ?_ ?_
  · rintro i v σ' H1 H' hi ⟨s1, l1, g0, g1, rw_⟩ ⟨T1, x1, r, rfl, hT, rfl, ex1, er⟩
    cases ex1
    have s2 : Same H (upd H1 T1 (.tup [.int (i : Nat), r])) := Same.trans' s1 (Same.new hT)
    obtain ⟨d, hd, dr⟩ := dxs.get er
    have dr2 := dr.same s2
    obtain ⟨od, rn⟩ := ok d (List.mem_of_getElem? hd)
    refine ⟨T1, _, rfl, SqT.of upd_same, rfl, _, _, rfl, _, _, rfl, rfl, ?_⟩
    refine ⟨r, by rw [List.getElem?_set_self]; simp [l1], ⟨_, r, d, rfl, dr2, od, fun H2 s3 => ⟨_, rfl, ?_⟩⟩, row_len dr2 rn⟩
    cases hrow : isRow d with
    | true =>
      refine iteF ⟨Same.trans' s2 s3, by simp [l1], by simp [g0], by simp [g1], fun j e hj he => ?_⟩
      by_cases hji : j < i
      · exact rw_ j e hji he
      · have : j = i := by omega
        subst this
        rw [hd] at he
        cases he
        exact hrow
    | false =>
      refine iteT ⟨.int (i : Nat), by rw [List.getElem?_set_ne (by decide), List.getElem?_set_self]; simp [l1], rfl, fun dd hdd => ?_⟩
      exact ke i d hd hrow rw_ dd _ (Same.kp (Same.trans' (Same.trans' s2 s3) (Same.new hdd)) a) upd_same
  · rintro σ' H1 ⟨s1, l1, g0, g1, rw_⟩
    have hall : ds.all isRow = true := List.all_eq_true.mpr fun d hd => by
      obtain ⟨i, hi⟩ := List.getElem?_of_mem hd
      exact rw_ i d (by have := (List.getElem?_eq_some_iff.mp hi).1; have := dxs.length; omega) hi
    refine ⟨_, g1, t, rfl, ⟨xs, SqT.of (s1 _ _ ht)⟩, fun D hD => ?_⟩
    refine lc_datS (walk_tup (K := K) (a := t) (xs := xs)) (Z := fun b => b = a) (fun i => rowL (ds.getD i .none)) (za.same s1) hD (by have := dxs.length; rw [sizeLine_eq]; omega) (fun H2 s2 => SqT.of (s2 _ _ (s1 _ _ ht))) ?_ ?_
    · rintro i v H2 H' κ hi s2 z2 ⟨rfl, ev⟩ kk
      obtain ⟨d, hd, dr⟩ := dxs.get ev
      have eg : ds.getD i .none = d := by rw [List.getD_eq_getElem?_getD, hd]; rfl
      rw [eg] at kk
      have hrow := List.all_eq_true.mp hall d (List.mem_of_getElem? hd)
      have dr2 : Dat (Zd (fun b => b = a) D) H' v d := Dat.mono (fun _ q => .inl q) (fun b o q _ => s2 b o q) ((dr.same s1).zd hD)
      refine ⟨by simp [wipe], v, by simp [wipe, l1], ?_⟩
      cases dr2 with
      | @lst b ys es nz hb hes => exact ⟨b, ys, rfl, .inl (SqL.of hb), fun l hl => kk _ _ (Same.new hl) (.lst (z2.off hl) upd_same (hes.same (Same.new hl)))⟩
      | @tup b ys es nz hb hes => exact ⟨b, ys, rfl, .inr (SqT.of hb), fun l hl => kk _ _ (Same.new hl) (.lst (z2.off hl) upd_same (hes.same (Same.new hl)))⟩
      | _ => cases hrow
    · intro H2 s2 dl
      have s3 := Same.trans' s1 s2
      refine ⟨_, g0, a, C, dx, [], rfl, s3 _ _ ha, S.c, S.na, by decide, kq hall D _ ((Same.kp s3 a).trans Kp.put) upd_same ?_⟩
      have e : (List.range xs.length).map (fun i => rowL (ds.getD i .none)) = ds.map rowL := by rw [show xs.length = ds.length from dxs.length]; exact range_getD rowL .none ds
      rw [e] at dl
      exact dl.kp rfl Kp.put
end
end Hv

namespace Hv
open PySem PySem.Spec PyProof.Rows L2
/-- len(e) -/
def rLen (K : PySem.W.Frag) : List V → Hp → VK → Prop := fun xs H Q => ∃ x n, xs = [x] ∧ LenV K x H n ∧ Q (.int n) H
/-- a script with these rows -/
def IsScr (C : Addr) (Z : Addr → Prop) (H : Hp) (a : Addr) (ds : List PyData) : Prop := ∃ dx l, H a = some (.ins C dx [("own_rows", .ref l)]) ∧ Dat Z H (.ref l) (.list ds) ∧ Zo Z H ∧ ds.length ≤ 1000 ∧ ∀ d ∈ ds, ∃ es, d = .list es ∧ es.length ≤ 1000
def spRows (C : Addr) : Sp := fun vs H Q _ => ∃ (Z : Addr → Prop) (a : Addr) (ds : List PyData), vs = [.ref a] ∧ IsScr C Z H a ds ∧ ∀ v H', Same H H' → Dat Z H' v (.list ds) → Q v H'
def spCost (C : Addr) : Sp := fun vs H Q _ => ∃ (Z : Addr → Prop) (a : Addr) (ds : List PyData), vs = [.ref a] ∧ IsScr C Z H a ds ∧ ∀ H', Same H H' → Q (.int ((ds.map rowN).sum : Nat)) H'
def spLen (C : Addr) : Sp := fun vs H Q _ => ∃ (Z : Addr → Prop) (a : Addr) (ds : List PyData), vs = [.ref a] ∧ IsScr C Z H a ds ∧ ∀ H', Same H H' → Q (.int (ds.length : Nat)) H'
section
variable {P : Program} {w : World} {K : PySem.W.Frag} {mg : Str → Option Value} {base : Heap} {C fi fr fl pc fc CI : Addr} {di dr dl dc : FuncData}
theorem ok_rows (S : ScC K mg C fi fr fl pc fc di dr dl dc) (T : Nm mg) : FnOk P w K mg base CX0 1 fr dr ["self"] (spRows C) := by
  refine S.rowsF.ok sc_Script_rows (fun vs H Q E h => by obtain ⟨_, _, _, rfl, _⟩ := h; rfl) (fun cdv A outer s H vs Q E hr h => ?_)
  obtain ⟨Z, a, ds, rfl, ⟨dx, l, ha, dl, zo, hl, hr2⟩, k⟩ := h
  refine ⟨_, ((pss_one (ps_ret (pe_lc (own := [("row", 1)]) (g := gName 1) rfl sc_Script_rows.nd (pi_list (pe_fld (pv 0) rfl)) (blkOk_by (own := [("row", 1)]) (N := N_Script_rows) (sc := defScope s_Script_rows) (by decide +kernel)) (fun _ _ _ _ _ => (pg_name (i := 1) sc_Script_rows.nd rfl (Or.inl rfl))) (fun _ _ _ _ _ => pts_nil) (fun _ _ _ _ _ => (pe_callTy (T := "list") (r := rLst K) call_list_of (by rfl) T.n_list (by decide +kernel) (pa_cons (pv 1) pa_nil))))))), ?_⟩
  obtain ⟨l', xs, e, nz, hx, dx2⟩ := dat_lst dl
  cases e
  refine ⟨_, rfl, a, C, dx, _, _, rfl, ha, S.c, S.na, rfl, l, rfl, ⟨xs, SqL.of hx⟩, fun D hD => ?_⟩
  refine lc_datS (walk_list (K := K) (a := l) (xs := xs)) (Z := Z) (fun i => ds.getD i .none) zo hD (by have := dx2.length; rw [sizeLine_eq]; omega) (fun H2 s2 => SqL.of (s2 _ _ hx)) ?_ ?_
  · rintro i v H2 H' κ hi s2 z2 ⟨rfl, ev⟩ kk
    obtain ⟨d, hd, dd⟩ := dx2.get ev
    have eg : ds.getD i .none = d := by rw [List.getD_eq_getElem?_getD, hd]; rfl
    rw [eg] at kk
    obtain ⟨es, rfl, _⟩ := hr2 d (List.mem_of_getElem? hd)
    have dr2 : Dat (Zd Z D) H' v (.list es) := Dat.mono (fun _ q => .inl q) (fun b o q _ => s2 b o q) (dd.zd hD)
    obtain ⟨b, ys, rfl, nb, hb, hes⟩ := dat_lst dr2
    exact ⟨by simp [wipe], _, rfl, b, ys, rfl, .inl (SqL.of hb), fun q hq => kk _ _ (Same.new hq) (.lst (z2.off hq) upd_same (hes.same (Same.new hq)))⟩
  · intro H2 s2 d2
    have e : (List.range xs.length).map (fun i => ds.getD i .none) = ds := by rw [show xs.length = ds.length from dx2.length]; simpa using range_getD id PyData.none ds
    rw [e] at d2
    exact k _ H2 s2 d2
theorem ok_cost (S : ScC K mg C fi fr fl pc fc di dr dl dc) (T : Nm mg) : FnOk P w K mg base CX0 1 fc dc ["self"] (spCost C) := by
  refine S.costF.ok sc_Script_cost (fun vs H Q E h => by obtain ⟨_, _, _, rfl, _⟩ := h; rfl) (fun cdv A outer s H vs Q E hr h => ?_)
  obtain ⟨Z, a, ds, rfl, ⟨dx, l, ha, dl, zo, hl, hr2⟩, k⟩ := h
  refine ⟨_, ((pss_one (ps_ret (pe_callB (cr_sum rfl) (by rfl) T.n_sum (by decide +kernel) (pa_cons (pe_lc (own := [("row", 1)]) (g := gName 1) rfl sc_Script_cost.nd (pi_list (pe_fld (pv 0) rfl)) (blkOk_by (own := [("row", 1)]) (N := N_Script_cost) (sc := defScope s_Script_cost) (by decide +kernel)) (fun _ _ _ _ _ => (pg_name (i := 1) sc_Script_cost.nd rfl (Or.inl rfl))) (fun _ _ _ _ _ => pts_nil) (fun _ _ _ _ _ => (pe_callB (r := rLen K) call_len (by rfl) T.n_len (by decide +kernel) (pa_cons (pv 1) pa_nil)))) pa_nil))))), ?_⟩
  obtain ⟨l', xs, e, nz, hx, dx2⟩ := dat_lst dl
  cases e
  refine ⟨_, rfl, a, C, dx, _, _, rfl, ha, S.c, S.na, rfl, l, rfl, ⟨xs, SqL.of hx⟩, fun D hD => ?_⟩
  refine lc_pure (walk_list (K := K) (a := l) (xs := xs)) (fun i => .int (rowN (ds.getD i .none) : Nat)) hD (by have := dx2.length; rw [sizeLine_eq]; omega) (fun H2 s2 => SqL.of (s2 _ _ hx)) ?_ ?_
  · rintro i v H2 H' κ hi s2 ⟨rfl, ev⟩ kk
    obtain ⟨d, hd, dd⟩ := dx2.get ev
    have eg : ds.getD i .none = d := by rw [List.getD_eq_getElem?_getD, hd]; rfl
    rw [eg] at kk
    obtain ⟨es, rfl, _⟩ := hr2 d (List.mem_of_getElem? hd)
    obtain ⟨b, ys, rfl, nb, hb, hes⟩ := dat_lst (dd.same s2)
    refine ⟨by simp [wipe], _, rfl, _, _, rfl, .inl ⟨ys, SqL.of hb, rfl⟩, ?_⟩
    have := hes.length
    rw [this]
    exact kk _ Same.refl
  · intro H2 s2 hl2
    refine ⟨D, (List.range xs.length).map fun i => ((rowN (ds.getD i .none) : Nat) : Int), rfl, SqL.of (by rw [hl2, List.map_map]; rfl), ?_⟩
    have e : ((List.range xs.length).map fun i => ((rowN (ds.getD i .none) : Nat) : Int)).sum = (((ds.map rowN).sum : Nat) : Int) := by
      rw [show xs.length = ds.length from dx2.length, range_getD (fun d => ((rowN d : Nat) : Int)) PyData.none ds]
      clear k dl dx2 hl hr2 hl2
      induction ds with
      | nil => rfl
      | cons d ds ih =>
        rw [List.map_cons, List.sum_cons, ih, List.map_cons, List.sum_cons]
        omega
    rw [e]
    exact k H2 s2
theorem ok_len (S : ScC K mg C fi fr fl pc fc di dr dl dc) (T : Nm mg) : FnOk P w K mg base CX0 1 fl dl ["self"] (spLen C) := by
  refine S.lenF.ok sc_Script___len__ (fun vs H Q E h => by obtain ⟨_, _, _, rfl, _⟩ := h; rfl) (fun cdv A outer s H vs Q E hr h => ?_)
  obtain ⟨Z, a, ds, rfl, ⟨dx, l, ha, dl, zo, hl, hr2⟩, k⟩ := h
  refine ⟨_, ((pss_one (ps_ret (pe_callB call_len (by rfl) T.n_len (by decide +kernel) (pa_cons (pe_fld (pv 0) rfl) pa_nil))))), ?_⟩
  obtain ⟨l', xs, e, nz, hx, dx2⟩ := dat_lst dl
  cases e
  refine ⟨_, rfl, a, C, dx, _, _, rfl, ha, S.c, S.na, rfl, _, _, rfl, .inl ⟨xs, SqL.of hx, rfl⟩, ?_⟩
  rw [dx2.length]
  exact k H Same.refl
end
end Hv

namespace Hv
open PySem PySem.Spec PyProof.Rows L2
abbrev s__law_told : Stmt := topS 28
abbrev N__law_told : List Str := ["_law_one", "_law_two", "_law_three", "e", "_law_found", "_law_refused"]
theorem sc__law_told : FnScope N__law_told ["_law_one", "_law_two", "_law_three"] (defScope s__law_told) := ⟨rfl, rfl, rfl, by decide +kernel, rfl, by decide +kernel, by decide +kernel⟩
/-- the answer to three rows -/
def toldD (ds : List PyData) : PyData := if ds.all isRow = true then .list [.str "made", .str (PyData.list (ds.map rowL)).shown, .int (ds.length : Nat), .int ((ds.map rowN).sum : Nat)] else .list [.str "refused", .int (ds.findIdx (fun d => !isRow d) : Nat)]
def spTold : Sp := fun vs H Q _ => ∃ (Z : Addr → Prop) (v1 v2 v3 : V) (d1 d2 d3 : PyData), vs = [v1, v2, v3] ∧ Dat Z H v1 d1 ∧ Dat Z H v2 d2 ∧ Dat Z H v3 d3 ∧ (∀ d ∈ [d1, d2, d3], Sm 10 1000000 d ∧ rowN d ≤ 1000) ∧ Zo Z H ∧ ∀ v H', Same H H' → Dat Z H' v (toldD [d1, d2, d3]) → Q v H'
/-- the errors that told asks for -/
structure ErS (P : Program) (K : PySem.W.Frag) (mg : Str → Option Value) (CI CH CS : Addr) : Prop where
  ec : ErrVE P K mg "InvalidScript" CI ["position"]
  xf : XfC K CI
  np : PySem.W.findIn K (.ref CI) "position" = some none
  ei : ExcC K CI
  gi : mg "InvalidScript" = some (.ref CI)
  gh : Gk mg "HookError" (.ref CH)
  gs : Gk mg "StateError" (.ref CS)
  kh : PySem.W.kitOne K (.ref CI) (.ref CH) = some true
  ks : PySem.W.kitOne K (.ref CI) (.ref CS) = some false
  ex : PySem.W.exmOne K (.ref CI) (.ref CI) = some true
section
variable {P : Program} {w : World} {K : PySem.W.Frag} {mg : Str → Option Value} {base : Heap} {C fi fr fl pc fc CI CH CS : Addr} {di dr dl dc : FuncData}
theorem ok_told (D : DefAt K mg "_law_told" s__law_told) (T : Nm mg) (SC_Script : ScC K mg C fi fr fl pc fc di dr dl dc) (ES : ErS P K mg CI CH CS)
    (ci_Script : FnR P w K mg base (L2.CX P w) 4 fi (fun vs H Q E => ∃ ws rest, vs = ws ++ rest ∧ ws.length = 1 ∧ rest.length ≤ sizeLine ∧ ∀ p, H p = Option.none → spInit C CI (ws ++ [V.ref p]) (upd H p (.tup rest)) Q E)) :
    Dg P w K mg base 6 "_law_told" ["_law_one", "_law_two", "_law_three"] spTold := by
  refine dg_mk D sc__law_told (fun _ _ _ _ _ _ us hl => match us, hl with | [_, _, _], _ => rfl) (fun vs H Q E h => by obtain ⟨_, _, _, _, _, _, _, rfl, _⟩ := h; rfl) (fun f cdv B fr0 z H vs Q E gd0 hr h => ?_)
  obtain ⟨Z, v1, v2, v3, d1, d2, d3, rfl, dv1, dv2, dv3, sm, zo, k⟩ := h
  have gd : (B.deeper (envOfC "_law_told" (defScope s__law_told) z.heap.objs.size f cdv)).guards = some [] := gd0
  have XF := ES.xf
  have NP := ES.np
  have EI := ES.ei
  have GH := ES.gh
  have GS := ES.gs
  have cr := ok_rows (P := P) (w := w) (base := base) SC_Script T
  have cc := ok_cost (P := P) (w := w) (base := base) SC_Script T
  have cl := ok_len (P := P) (w := w) (base := base) SC_Script T
  have br : Binds K dr ["self"] [] := SC_Script.rowsF.binds (fun _ _ _ _ _ _ us hl => match us, hl with | [_], _ => rfl)
  have bc : Binds K dc ["self"] [] := SC_Script.costF.binds (fun _ _ _ _ _ _ us hl => match us, hl with | [_], _ => rfl)
  have bl : Binds K dl ["self"] [] := SC_Script.lenF.binds (fun _ _ _ _ _ _ us hl => match us, hl with | [_], _ => rfl)
  have NM_InvalidScript : Names ((cxOf CX0 P w K mg base N__law_told "_law_told" (defScope s__law_told) f cdv B fr0 z H E).nox) "InvalidScript" (.ref CI) := ⟨rfl, by decide, .inl ES.gi⟩
  refine ⟨_, ((pss_cons (ps_asg (pe_tup (pa_cons pe_non (pa_cons pe_non pa_nil))) (pg_tup (by rfl) (pgs_cons (pg_name (i := 4) sc__law_told.nd rfl (Or.inl rfl)) (pgs_cons (pg_name (i := 5) sc__law_told.nd rfl (Or.inl rfl)) pgs_nil))))
 (pss_cons (ps_try_as (i := 3) rfl rfl sc__law_told.nd rfl rfl NM_InvalidScript takes0 (fun W pn xe tk pa => (pss_one (ps_set (i := 4) sc__law_told.nd rfl (Or.inl rfl) (pe_makeS SC_Script.mak ci_Script hr (by decide) (by rfl) SC_Script.g (fun σ => passAt tk σ) (pa_cons (pv 0) (pa_cons (pv 1) (pa_cons (pv 2) pa_nil)))))))
 (fun a oe cls d pn hz hf => (pss_one (ps_set (i := 5) sc__law_told.nd rfl (Or.inl rfl) (pe_ifExp (PW.pt (pw_and (pt_val (pe_callB (call_isX EI hz hf) (by rfl) T.n_isinstance (by decide +kernel) (pa_cons (pv 3) (pa_cons (pe_gk (by rfl) GH) pa_nil)))) (pw_and1 (pt_not (pt_val (pe_callB (call_isX EI hz hf) (by rfl) T.n_isinstance (by decide +kernel) (pa_cons (pv 3) (pa_cons (pe_gk (by rfl) GS) pa_nil)))))))) (pe_lst (pa_cons pe_str (pa_cons (pe_xf XF NP hz hf (pv 3)) pa_nil))) (pe_lst pa_nil))))))
 (pss_cons (ps_if (pt_cmpR op_isN (pv 4) pe_non (nomark _))
 (pss_one (ps_ret (pv 5)))
 pss_nil)
 (pss_one (ps_ret (pe_lst (pa_cons pe_str (pa_cons (pe_callB (call_reprD gd hr) (by rfl) T.n_repr (by decide +kernel) (pa_cons (pe_meth0 (pv 4) SC_Script.c SC_Script.rows cr (hr.mono (by decide)) br .nil pass0) pa_nil)) (pa_cons (pe_callB (call_lenOwn SC_Script.c SC_Script.len SC_Script.lenT cl bl (hr.mono (by decide))) (by rfl) T.n_len (by decide +kernel) (pa_cons (pv 4) pa_nil)) (pa_cons (pe_prop (pv 4) SC_Script.c SC_Script.cost cc (hr.mono (by decide)) bc .nil pass0 rfl) pa_nil))))))))))), ?_⟩
  refine ⟨by show 2 ≤ sizeLine; decide, fun q0 g0 => ⟨q0, _, rfl, SqT.of upd_same, rfl, _, _, rfl, _, _, rfl, rfl, ?_⟩⟩
  have s0 : Same H (upd H q0 (.tup [.non, .non])) := Same.new g0
  refine ⟨_, rfl, _, rfl, _, rfl, fun x dx hx hdx ne => ⟨[.ref x], [v1, v2, v3], rfl, rfl, by show 3 ≤ sizeLine; decide, fun t ht => ?_⟩⟩
  have s1 : Same (upd H q0 (.tup [.non, .non])) (upd (upd H q0 (.tup [.non, .non])) dx (.own x)) := Same.new hdx
  have hx1 : upd (upd H q0 (.tup [.non, .non])) dx (.own x) x = none := by rw [upd_ne (Ne.symm ne)]; exact hx
  have s2 : Same (upd (upd H q0 (.tup [.non, .non])) dx (.own x)) (upd (upd (upd H q0 (.tup [.non, .non])) dx (.own x)) x (.ins C dx [])) := Same.new hx1
  have s3 : Same (upd (upd (upd H q0 (.tup [.non, .non])) dx (.own x)) x (.ins C dx [])) (upd (upd (upd (upd H q0 (.tup [.non, .non])) dx (.own x)) x (.ins C dx [])) t (.tup [v1, v2, v3])) := Same.new ht
  have s03 := Same.trans' (Same.trans' (Same.trans' s0 s1) s2) s3
  have hHx : H x = none := s0.free hx
  have up : ∀ {v : V} {d : PyData}, Dat Z H v d → Dat (fun b => b = x) (upd (upd (upd (upd H q0 (.tup [.non, .non])) dx (.own x)) x (.ins C dx [])) t (.tup [v1, v2, v3])) v d := fun dv => Dat.mono (fun _ q => .inl q) (fun b o q _ => s03 b o q) ((dv.zd hHx).less fun b q => .inr q)
  have keep : ∀ {H' : Hp}, Kp x (upd (upd (upd (upd H q0 (.tup [.non, .non])) dx (.own x)) x (.ins C dx [])) t (.tup [v1, v2, v3])) H' → Same H H' := fun kp b o e => kp b o (s03 b o e) (ne_of_none e hHx)
  refine ⟨x, dx, t, _, [d1, d2, d3], rfl, s3 _ _ upd_same, s3 _ _ (s2 _ _ upd_same), upd_same, .cons (up dv1) (.cons (up dv2) (.cons (up dv3) .nil)), fun d hd => ⟨(sm d hd).1.ok, (sm d hd).2⟩, by show 3 ≤ 1000; decide, fun hall l H' kp ha dl => ⟨rfl, ?_⟩, fun i d hd hbad hprev dd H' kp hdd => ?_⟩
  · have sH := keep kp
    refine ⟨_, rfl, rfl, _, rfl, ite_d (fun c => nomatch c) (fun _ => ?_)⟩
    have rowsL : ∀ d ∈ [d1, d2, d3].map rowL, (∃ es, d = .list es ∧ es.length ≤ 1000) ∧ Sm 10 1000000 d := by
      intro d hd
      obtain ⟨d0, h0, rfl⟩ := List.mem_map.mp hd
      have hrow := List.all_eq_true.mp hall d0 h0
      obtain ⟨s1, n1⟩ := sm d0 h0
      cases d0 with
      | list es => exact ⟨⟨es, rfl, n1⟩, s1⟩
      | tuple es => exact ⟨⟨es, rfl, n1⟩, ⟨s1.ok, s1.bg, s1.dp⟩⟩
      | _ => cases hrow
    have scr : IsScr C (fun b => b = x) H' x ([d1, d2, d3].map rowL) := ⟨dx, l, ha, dl, fun b e => by subst e; rw [ha]; exact (fun z => nomatch z), by show 3 ≤ 1000; decide, fun d hd => (rowsL d hd).1⟩
    have scrS : ∀ {H2 : Hp}, Same H' H2 → IsScr C (fun b => b = x) H2 x ([d1, d2, d3].map rowL) := fun s => ⟨dx, l, s _ _ ha, dl.same s, fun b e => by subst e; rw [s _ _ ha]; exact (fun z => nomatch z), by show 3 ≤ 1000; decide, fun d hd => (rowsL d hd).1⟩
    refine ⟨_, rfl, x, dx, _, rfl, ha, rfl, _, x, _, rfl, scr, fun v H3 s3 dr => ?_⟩
    obtain ⟨r1, r2, r3⟩ := (Sm.lst (n := 10) (b := 1000000) (m := 3) (c := 10000000) (fun d hd => (rowsL d hd).2) (by show 3 ≤ 3; decide) (by decide)).shown (by decide) (by decide)
    refine ⟨_, v, _, rfl, dr, r1, r2, r3, ?_⟩
    refine ⟨_, rfl, x, dx, _, rfl, s3 _ _ ha, _, x, _, rfl, scrS s3, fun H4 s4 => ⟨_, rfl, by show 3 ≤ sizeLine; decide, ?_⟩⟩
    have s34 := Same.trans' s3 s4
    refine ⟨_, rfl, x, dx, _, rfl, s34 _ _ ha, _, x, _, rfl, scrS s34, fun H5 s5 => ⟨by show 4 ≤ sizeLine; decide, fun q hq => ?_⟩⟩
    have sF := Same.trans' (Same.trans' sH s34) s5
    refine k _ _ (Same.trans' sF (Same.new hq)) ?_
    have et : toldD [d1, d2, d3] = .list [.str "made", .str (PyData.list ([d1, d2, d3].map rowL)).shown, .int (([d1, d2, d3].map rowL).length : Nat), .int (((([d1, d2, d3].map rowL).map rowN).sum : Nat) : Int)] := by
      unfold toldD
      rw [if_pos hall]
      have : ([d1, d2, d3].map rowL).map rowN = [d1, d2, d3].map rowN := by
        rw [List.map_map]
        refine List.map_congr_left fun d _ => ?_
        cases d <;> rfl
      rw [this, List.length_map]
    rw [et]
    exact .lst ((zo.same sF).off hq) upd_same (.cons (.str _) (.cons (.str _) (.cons (.int _) (.cons (.int _) .nil))))
  · have sH := keep kp
    refine ⟨true, ES.ex, fun _ ea hea => ?_, fun z => nomatch z⟩
    refine ⟨_, rfl, rfl, dd, _, _, .ref CH, true, rfl, hdd, rfl, (fun u r => r), ES.kh, _, rfl, iteT ?_⟩
    refine ⟨_, rfl, rfl, dd, _, _, .ref CS, false, rfl, hdd, rfl, (fun u r => r), ES.ks, _, rfl, iteT ?_⟩
    refine ⟨_, rfl, rfl, rfl, dd, _, _, rfl, hdd, rfl, by show 2 ≤ sizeLine; decide, fun q hq => ?_⟩
    refine ⟨_, rfl, rfl, _, rfl, ite_d (fun _ => ?_) (fun c => absurd rfl c)⟩
    refine ⟨_, rfl, k _ _ (Same.trans' sH (Same.new hq)) ?_⟩
    have nall : ¬ ([d1, d2, d3].all isRow = true) := fun z => by
      have := List.all_eq_true.mp z d (List.mem_of_getElem? hd)
      rw [hbad] at this
      cases this
    have ei : [d1, d2, d3].findIdx (fun d => !isRow d) = i := by
      obtain ⟨hi, ed⟩ := List.getElem?_eq_some_iff.mp hd
      rw [List.findIdx_eq hi]
      refine ⟨by rw [ed, hbad]; rfl, fun j hj => ?_⟩
      have := hprev j _ hj (List.getElem?_eq_getElem (by omega))
      rw [this]; rfl
    unfold toldD
    rw [if_neg nall, ei]
    exact .lst ((zo.same sH).off hq) upd_same (.cons (.str _) (.cons (.int _) .nil))
end
end Hv

namespace Hv
open PySem PySem.Spec PyProof.Rows L2
abbrev s__law_rows_right : Stmt := topS 29
abbrev N__law_rows_right : List Str := ["_law_pot_here", "_law_some", "_law_turns", "_law_at", "_law_spot", "_law_shown", "_law_due", "_law_odd", "_law_near", "_law_row", "_law_turn"]
theorem sc__law_rows_right : FnScope N__law_rows_right ["_law_pot_here", "_law_some"] (defScope s__law_rows_right) := ⟨rfl, rfl, rfl, by decide +kernel, rfl, by decide +kernel, by decide +kernel⟩
def lcScope : Expr → Scope
  | .ListComp _ _ s _ => s
  | _ => defScope (.Pass ⟨0, 0, 0, 0⟩)
def asgVal : Stmt → Expr
  | .Assign _ v _ => v
  | _ => .Constant .none 0 ⟨0, 0, 0, 0⟩
theorem Dats.set {Z : Addr → Prop} {H : Hp} : ∀ {vs : List V} {ds : List PyData} {v : V} {d : PyData} (k : Nat), Dats Z H vs ds → Dat Z H v d → Dats Z H (vs.set k v) (ds.set k d)
  | _, _, _, _, _, .nil, _ => .nil
  | _, _, _, _, 0, .cons _ t, h => .cons h t
  | _, _, _, _, k + 1, .cons g t, h => .cons g (Dats.set k t h)
theorem three {l : List α} (h : l.length = 3) : ∃ a b c, l = [a, b, c] := by
  match l, h with
  | [a, b, c], _ => exact ⟨a, b, c, rfl⟩
theorem mem3 {α : Type} {P : α → Prop} {a b c : α} (ha : P a) (hb : P b) (hc : P c) : ∀ r ∈ [a, b, c], P r := by
  intro r hr
  simp only [List.mem_cons, List.not_mem_nil, or_false] at hr
  rcases hr with z | z | z <;> subst z <;> assumption
/-- a row with one thing put in -/
theorem all_put {c1 c2 r : List PyData} {d : PyData} (h1 : ∀ a ∈ c1, a ∈ r) (h2 : ∀ a ∈ c2, a ∈ r) (hr : ∀ a ∈ r, isAct a = true) : (c1 ++ [d] ++ c2).all isAct = isAct d := by
  rw [List.all_append, List.all_append]
  have e1 : c1.all isAct = true := List.all_eq_true.mpr fun a ha => hr a (h1 a ha)
  have e2 : c2.all isAct = true := List.all_eq_true.mpr fun a ha => hr a (h2 a ha)
  rw [e1, e2]
  simp
theorem told_due {r0 r1 r2 : List PyData} {d : PyData} {k : Nat} {shown : Str} (hk : k < 3) (b0 : r0.all isAct = (if k = 0 then isAct d else true)) (b1 : r1.all isAct = (if k = 1 then isAct d else true)) (b2 : r2.all isAct = (if k = 2 then isAct d else true)) (hsh : (PyData.list [.list r0, .list r1, .list r2]).shown = shown) :
    toldD [.list r0, .tuple r1, .list r2] = .list (if isAct d = true then [.str "made", .str shown, .int 3, .int (r0.length + r1.length + r2.length)] else [.str "refused", .int (k : Nat)]) := by
  have e0 : isRow (.list r0) = r0.all isAct := rfl
  have e1 : isRow (.tuple r1) = r1.all isAct := rfl
  have e2 : isRow (.list r2) = r2.all isAct := rfl
  unfold toldD
  cases ha : isAct d with
  | true =>
    have h : [PyData.list r0, .tuple r1, .list r2].all isRow = true := by
      rw [List.all_cons, List.all_cons, List.all_cons, e0, e1, e2, b0, b1, b2, ha]
      simp
    rw [if_pos h, if_pos rfl]
    have e3 : [PyData.list r0, .tuple r1, .list r2].map rowL = [.list r0, .list r1, .list r2] := rfl
    have e4 : ([PyData.list r0, .tuple r1, .list r2].map rowN).sum = r0.length + r1.length + r2.length := by
      show r0.length + (r1.length + (r2.length + 0)) = _
      omega
    rw [e3, hsh, e4]
    have e5 : (((r0.length + r1.length + r2.length : Nat)) : Int) = (r0.length : Int) + r1.length + r2.length := by omega
    rw [e5]
    rfl
  | false =>
    have h : [PyData.list r0, .tuple r1, .list r2].findIdx (fun d => !isRow d) = k := by
      rw [List.findIdx_cons, List.findIdx_cons, List.findIdx_cons, List.findIdx_nil, e0, e1, e2, b0, b1, b2, ha]
      match k, hk with
      | 0, _ => rfl
      | 1, _ => rfl
      | 2, _ => rfl
    have h' : ¬ ([PyData.list r0, .tuple r1, .list r2].all isRow = true) := by
      rw [List.all_cons, List.all_cons, List.all_cons, e0, e1, e2, b0, b1, b2, ha]
      match k, hk with
      | 0, _ => exact Bool.false_ne_true
      | 1, _ => exact Bool.false_ne_true
      | 2, _ => exact Bool.false_ne_true
    rw [if_neg h', if_neg Bool.false_ne_true, h]
theorem told_first {o a b : PyData} (h : isRow o = false) : toldD [o, a, b] = .list [.str "refused", .int 0] := by
  unfold toldD
  rw [if_neg (by rw [List.all_cons, h]; exact Bool.false_ne_true), List.findIdx_cons, h]
  rfl
theorem told_second {o a b : PyData} (h : isRow o = false) : toldD [a, o, b] = .list [.str "refused", .int (if isRow a = true then 1 else 0)] := by
  unfold toldD
  rw [if_neg (by rw [List.all_cons, List.all_cons, h]; simp), List.findIdx_cons, List.findIdx_cons, h]
  cases isRow a <;> rfl
theorem dt_tup1E {p : Addr} {Z : Addr → Prop} {σ : L2.St} {H : Hp} {te : TE} {e : PyData} (x : Px p Z H) (h : Dt p Z σ H te (fun d => d = e)) : Dt p Z σ H (tTup (tCons te tNil)) (fun d => d = .tuple [e]) :=
  (dt_tupS x (dts_cons x.zp h dts_nil) (Nat.le_trans (by decide) sizeBig)).mono fun d ⟨ds, e1, l, f⟩ => by
    obtain ⟨e0, rfl⟩ := List.length_eq_one_iff.mp l
    have : e0 = e := f e0 List.mem_cons_self
    rw [e1, this]
theorem dt_lst1E {p : Addr} {Z : Addr → Prop} {σ : L2.St} {H : Hp} {te : TE} {e : PyData} (x : Px p Z H) (h : Dt p Z σ H te (fun d => d = e)) : Dt p Z σ H (tLst (tCons te tNil)) (fun d => d = .list [e]) :=
  (dt_lstS x (dts_cons x.zp h dts_nil) (Nat.le_trans (by decide) sizeBig)).mono fun d ⟨ds, e1, l, f⟩ => by
    obtain ⟨e0, rfl⟩ := List.length_eq_one_iff.mp l
    have : e0 = e := f e0 List.mem_cons_self
    rw [e1, this]
def spRR : Sp := fun vs H Q _ => ∃ (p : Addr) (Z : Addr → Prop) (v : V) (d : PyData), vs = [.ref p, v] ∧ Px p Z H ∧ Dat Z H v d ∧ Sm 2 30000 d ∧ ∀ H', Kp p H H' → Pot H' p → Q (.bl true) H'
section
variable {P : Program} {w : World} {K : PySem.W.Frag} {mg : Str → Option Value} {base : Heap}
theorem ok_rows_right (D : DefAt K mg "_law_rows_right" s__law_rows_right) (T : Nm mg) (c_law_draw : Dn P w K mg base 1 "_law_draw" ["_law_pot_here", "_law_sides"] spDraw) (c_law_pick : Dn P w K mg base 2 "_law_pick" ["_law_pot_here", "_law_some"] spPick)
    (c_law_act : Dn P w K mg base 4 "_law_act" ["_law_pot_here"] (spThing 1 3000 fun d => isAct d = true)) (c_law_is_act : Dn P w K mg base 2 "_law_is_act" ["_law_some"] (spB isAct)) (c_law_told : Dg P w K mg base 6 "_law_told" ["_law_one", "_law_two", "_law_three"] spTold) :
    Dg P w K mg base 7 "_law_rows_right" ["_law_pot_here", "_law_some"] spRR := by
  refine dg_mk D sc__law_rows_right (fun _ _ _ _ _ _ us hl => match us, hl with | [_, _], _ => rfl) (fun vs H Q E h => by obtain ⟨_, _, _, _, rfl, _⟩ := h; rfl) (fun f cdv B fr0 z H vs Q E gd0 hr h => ?_)
  obtain ⟨p, Z, v, d, rfl, x0, dv, sm, kq⟩ := h
  have gd : (B.deeper (envOfC "_law_rows_right" (defScope s__law_rows_right) z.heap.objs.size f cdv)).guards = some [] := gd0
  have hu : (B.deeper (envOfC "_law_rows_right" (defScope s__law_rows_right) z.heap.objs.size f cdv)).units + 64 < cLine := by have := hr.un; omega
  refine ⟨_, ((pss_cons (ps_setLc (i := 2) (own := [("_law_row", 9)]) (g := gName 9) rfl sc__law_rows_right.nd rfl rfl (sw_true rfl rfl rfl (by decide +kernel)) (pi_range1 (by rfl) T.n_range (pa_cons pe_int pa_nil)) (blkOk_by (own := [("_law_row", 9)]) (N := N__law_rows_right) (sc := defScope s__law_rows_right) (by decide +kernel)) (fun _ _ _ _ _ => (pg_name (i := 9) sc__law_rows_right.nd rfl (Or.inl rfl))) (fun _ _ _ _ _ => pts_nil) (fun _ _ _ _ _ => (pe_lc (own := [("_law_turn", 10)]) (g := gName 10) rfl sc__law_rows_right.nd (pi_range1 (by rfl) T.n_range (pa_cons (pe_d c_law_draw hr (by decide) (by rfl) (pa_cons (pv 0) (pa_cons pe_int pa_nil))) pa_nil)) (blkOk_by (by kernel_rfl)) (fun _ _ _ _ _ => (pg_name (i := 10) sc__law_rows_right.nd rfl (Or.inl rfl))) (fun _ _ _ _ _ => pts_nil) (fun _ _ _ _ _ => (pe_d c_law_act hr (by decide) (by rfl) (pa_cons (pv 0) pa_nil))))))
 (pss_cons (ps_set (i := 3) sc__law_rows_right.nd rfl (Or.inl rfl) (pe_d c_law_draw hr (by decide) (by rfl) (pa_cons (pv 0) (pa_cons pe_int pa_nil))))
 (pss_cons (ps_set (i := 4) sc__law_rows_right.nd rfl (Or.inl rfl) (pe_d c_law_draw hr (by decide) (by rfl) (pa_cons (pv 0) (pa_cons (pe_op op_add (pe_callB call_len (by rfl) T.n_len (by decide +kernel) (pa_cons (pe_ix ix_list (pv 2) (pv 3) (fun _ _ => rfl)) pa_nil)) pe_int) pa_nil))))
 (pss_cons (ps_asg (pe_op op_cat (pe_op op_cat (pe_slice sl_list (pe_ix ix_list (pv 2) (pv 3) (fun _ _ => rfl)) po_none (po_some (pv 4))) (pe_lst (pa_cons (pv 1) pa_nil))) (pe_slice sl_list (pe_ix ix_list (pv 2) (pv 3) (fun _ _ => rfl)) (po_some (pv 4)) po_none)) (pg_sub (pv 2) (pv 3) set_list))
 (pss_cons (ps_set (i := 5) sc__law_rows_right.nd rfl (Or.inl rfl) (pe_callB (call_reprD gd hr) (by rfl) T.n_repr (by decide +kernel) (pa_cons (pv 2) pa_nil)))
 (pss_cons (ps_set (i := 6) sc__law_rows_right.nd rfl (Or.inl rfl) (pe_lst (pa_cons pe_str (pa_cons (pv 3) pa_nil))))
 (pss_cons (ps_if (pt_val (pe_d c_law_is_act hr (by decide) (by rfl) (pa_cons (pv 1) pa_nil)))
 (pss_one (ps_set (i := 6) sc__law_rows_right.nd rfl (Or.inl rfl) (pe_lst (pa_cons pe_str (pa_cons (pv 5) (pa_cons pe_int (pa_cons (pe_op op_add (pe_op op_add (pe_callB call_len (by rfl) T.n_len (by decide +kernel) (pa_cons (pe_ix ix_list (pv 2) pe_int (fun _ _ => rfl)) pa_nil)) (pe_callB call_len (by rfl) T.n_len (by decide +kernel) (pa_cons (pe_ix ix_list (pv 2) pe_int (fun _ _ => rfl)) pa_nil))) (pe_callB call_len (by rfl) T.n_len (by decide +kernel) (pa_cons (pe_ix ix_list (pv 2) pe_int (fun _ _ => rfl)) pa_nil))) pa_nil)))))))
 pss_nil)
 (pss_cons (ps_if (PW.pt (pw_or (pt_cmpR (op_neF hu) (pe_dg c_law_told gd hr (by decide) (by rfl) (pa_cons (pe_ix ix_list (pv 2) pe_int (fun _ _ => rfl)) (pa_cons (pe_callTy call_tuple_of (by rfl) T.n_tuple (by decide +kernel) (pa_cons (pe_ix ix_list (pv 2) pe_int (fun _ _ => rfl)) pa_nil)) (pa_cons (pe_ix ix_list (pv 2) pe_int (fun _ _ => rfl)) pa_nil)))) (pv 6) (nomark _)) (pw_or1 (pt_cmpR op_ne (pe_callB (call_reprD gd hr) (by rfl) T.n_repr (by decide +kernel) (pa_cons (pv 2) pa_nil)) (pv 5) (nomark _)))))
 (pss_one (ps_ret pe_bl))
 pss_nil)
 (pss_cons (ps_set (i := 7) sc__law_rows_right.nd rfl (Or.inl rfl) (pe_d c_law_pick hr (by decide) (by rfl) (pa_cons (pv 0) (pa_cons (pe_lst (pa_cons pe_non (pa_cons pe_str (pa_cons (pe_tup (pa_cons pe_str pa_nil)) (pa_cons pe_dnewK (pa_cons pe_int (pa_cons pe_bl (pa_cons (pe_lst (pa_cons (pe_lst (pa_cons pe_str pa_nil)) pa_nil)) (pa_cons (pe_lst (pa_cons (pe_lst (pa_cons (pe_tup (pa_cons pe_str pa_nil)) pa_nil)) pa_nil)) pa_nil))))))))) pa_nil))))
 (pss_cons (ps_if (pt_cmpR op_eq (pv 3) pe_int (nomark _))
 (pss_one (ps_ret (pe_cmpR (op_eqF hu) (pe_dg c_law_told gd hr (by decide) (by rfl) (pa_cons (pe_ix ix_list (pv 2) pe_int (fun _ _ => rfl)) (pa_cons (pv 7) (pa_cons (pe_ix ix_list (pv 2) pe_int (fun _ _ => rfl)) pa_nil)))) (pe_ifExp (pt_val (pe_d c_law_is_act hr (by decide) (by rfl) (pa_cons (pv 1) pa_nil))) (pe_lst (pa_cons pe_str (pa_cons pe_int pa_nil))) (pv 6)) (nomark _))))
 pss_nil)
 (pss_cons (ps_set (i := 8) sc__law_rows_right.nd rfl (Or.inl rfl) (pe_ifExp (pt_cmpR op_eq (pv 3) pe_int (nomark _)) (pe_ix ix_list (pv 2) pe_int (fun _ _ => rfl)) (pe_ix ix_list (pv 2) pe_int (fun _ _ => rfl))))
 (pss_one (ps_ret (pe_cmpR (op_eqF hu) (pe_dg c_law_told gd hr (by decide) (by rfl) (pa_cons (pv 7) (pa_cons (pv 8) (pa_cons (pe_ix ix_list (pv 2) (pv 3) (fun _ _ => rfl)) pa_nil)))) (pe_lst (pa_cons pe_str (pa_cons pe_int pa_nil))) (nomark _)))))))))))))))), ?_⟩
  refine ⟨3, rfl, by decide, by decide, fun D hD => ?_⟩
  refine lc_datP (walk_range (lo := 0) (n := (3 : Int).toNat)) (fun _ d => ∃ as : List PyData, d = .list as ∧ as.length ≤ 2 ∧ ∀ a ∈ as, isAct a = true ∧ Sm 1 3000 a) x0 hD (by rw [sizeLine_eq]; decide) (fun _ _ _ => trivial) ?_ ?_
  · rintro i v1 H1 H1' κ hi kp1 x1 ⟨rfl, rfl⟩ kk
    refine ⟨rfl, _, rfl, p, 3, rfl, x1.pot, by decide, by decide, fun n H2 n0 n1 kp2 pot2 => ⟨n, rfl, by omega, by omega, fun D2 hD2 => ?_⟩⟩
    have x2 := x1.kp kp2 pot2
    refine lc_datP (walk_range (lo := 0) (n := n.toNat)) (fun _ d => isAct d = true ∧ Sm 1 3000 d) x2 hD2 (by rw [sizeLine_eq]; omega) (fun _ _ _ => trivial) ?_ ?_
    · rintro i2 v2 H3 H3' κ2 hi2 kp3 x3 ⟨rfl, rfl⟩ kk2
      exact ⟨rfl, _, rfl, p, rfl, x3.pot, fun v d H4 fd sd dd kp4 pot4 => kk2 v d H4 ⟨fd, sd⟩ (dd.less fun b zb => x3.zo b zb) kp4 pot4⟩
    · intro H3 us ds kp3 pot3 hl hF nD e3 dats
      exact kk _ (.list ds) H3 ⟨ds, rfl, by omega, fun a ha => by obtain ⟨j, hj⟩ := List.getElem?_of_mem ha; exact hF j a hj⟩ (.lst nD e3 (dats.less fun b q => .inl q)) (kp2.trans kp3) pot3
  intro H1 us ds kp1 pot1 hl hF nD e1 dats
  have nDp : D ≠ p := x0.ne hD
  have x1 : Px p (Zd Z D) H1 := ⟨pot1, .inl x0.zp, fun b zb => by
    rcases zb with zb | rfl
    · exact (x0.kp kp1 pot1).zo b zb
    · rw [e1]; exact fun z => nomatch z⟩
  have dv1 : Dat (Zd Z D) H1 v d := (dv.zd hD).kp x1.zp kp1
  obtain ⟨e0, e1', e2', rfl⟩ := three hl
  obtain ⟨A0, rfl, l0, h0⟩ := hF 0 _ rfl
  obtain ⟨A1, rfl, l1, h1⟩ := hF 1 _ rfl
  obtain ⟨A2, rfl, l2, h2⟩ := hF 2 _ rfl
  refine (dt_drawC (Z := Zd Z D) (H := H1) (i := 0) (c := 3) rfl).asg pot1 fun v2 d2 H2 ⟨at_, e2, a0, a1⟩ dv2 kp2 pot2 => ?_
  subst e2
  cases dv2
  obtain ⟨k, rfl⟩ : ∃ k : Nat, at_ = k := ⟨at_.toNat, by omega⟩
  have hk : k < 3 := by omega
  have x2 := x1.kp kp2 pot2
  have dats2 := dats.kp x1.zp kp2
  have e2 : H2 D = some (.lst us) := kp2 _ _ e1 nDp
  obtain ⟨r, er, lr, hr_⟩ : ∃ r, [PyData.list A0, .list A1, .list A2][k]? = some (.list r) ∧ r.length ≤ 2 ∧ ∀ a ∈ r, isAct a = true ∧ Sm 1 3000 a := by
    match k, hk with
    | 0, _ => exact ⟨A0, rfl, l0, h0⟩
    | 1, _ => exact ⟨A1, rfl, l1, h1⟩
    | 2, _ => exact ⟨A2, rfl, l2, h2⟩
  have hku : k < us.length := by rw [dats.length]; exact hk
  obtain ⟨dr, edr, dw⟩ := dats2.get (List.getElem?_eq_getElem hku)
  rw [er] at edr
  cases edr
  obtain ⟨y, ys, ew, ny, ey, dys⟩ := dat_lst dw
  have hat : atI us (k : Int) = some us[k] := atI_nat (List.getElem?_eq_getElem hku)
  rw [ew] at hat
  have lys := dys.length
  refine ⟨_, rfl, _, rfl, _, rfl, D, us, _, _, rfl, rfl, SqL.of e2, hat, _, _, rfl, .inl ⟨ys, SqL.of ey, rfl⟩, _, _, rfl, rfl, p, _, rfl, pot2, by omega, by omega, fun spot H3 s0 s1 kp3 pot3 => ?_⟩
  have x3 := x2.kp kp3 pot3
  have nyp : y ≠ p := fun z => ny (z ▸ x1.zp)
  have e3 : H3 D = some (.lst us) := kp3 _ _ e2 nDp
  have ey3 : H3 y = some (.lst ys) := kp3 _ _ ey nyp
  have dys3 := dys.kp x1.zp kp3
  have dats3 := dats2.kp x1.zp kp3
  have dv3 : Dat (Zd Z D) H3 v d := (dv1.kp x1.zp kp2).kp x1.zp kp3
  -- the row with the thing put in
  refine ⟨_, rfl, _, rfl, D, us, _, _, rfl, rfl, SqL.of e3, hat, _, rfl, spot, rfl, y, ys, rfl, SqL.of ey3, fun q1 g1 => ?_⟩
  have t1 : Same H3 (upd H3 q1 (.lst (cutV ys none (some spot)))) := Same.new g1
  refine ⟨_, rfl, by show 1 ≤ sizeLine; decide, fun q2 g2 => ?_⟩
  have t2 : Same (upd H3 q1 (.lst (cutV ys none (some spot)))) (upd (upd H3 q1 (.lst (cutV ys none (some spot)))) q2 (.lst [v])) := Same.new g2
  have c1 := cutV_length ys none (some spot)
  have c2 := cutV_length ys (some spot) none
  have sb := sizeBig
  refine ⟨q1, q2, _, _, rfl, rfl, t2 _ _ upd_same, upd_same, by show (cutV ys none (some spot)).length + 1 ≤ sizeLine; omega, fun q3 g3 => ?_⟩
  generalize hG3 : upd (upd (upd H3 q1 (.lst (cutV ys none (some spot)))) q2 (.lst [v])) q3 (.lst (cutV ys none (some spot) ++ [v])) = G3
  have t3 : Same H3 G3 := by rw [← hG3]; exact Same.trans' (Same.trans' t1 t2) (Same.new g3)
  have e33 : G3 q3 = some (.lst (cutV ys none (some spot) ++ [v])) := by rw [← hG3]; exact upd_same
  refine ⟨_, rfl, _, rfl, D, us, _, _, rfl, rfl, SqL.of (t3 _ _ e3), hat, _, rfl, spot, rfl, y, ys, rfl, SqL.of (t3 _ _ ey3), fun q4 g4 => ?_⟩
  have t4 : Same G3 (upd G3 q4 (.lst (cutV ys (some spot) none))) := Same.new g4
  refine ⟨q3, q4, _, _, rfl, rfl, t4 _ _ e33, upd_same, by show (cutV ys none (some spot) ++ [v]).length + (cutV ys (some spot) none).length ≤ sizeLine; rw [List.length_append, List.length_singleton]; omega, fun q5 g5 => ?_⟩
  generalize hG5 : upd (upd G3 q4 (.lst (cutV ys (some spot) none))) q5 (.lst (cutV ys none (some spot) ++ [v] ++ cutV ys (some spot) none)) = G5
  have t5 : Same H3 G5 := by rw [← hG5]; exact Same.trans' (Same.trans' t3 t4) (Same.new g5)
  have e55 : G5 q5 = some (.lst (cutV ys none (some spot) ++ [v] ++ cutV ys (some spot) none)) := by rw [← hG5]; exact upd_same
  have hq5 : H3 q5 = none := t3.free (t4.free g5)
  have ix : ixN us.length (k : Int) = some k := by
    unfold ixN
    rw [if_pos (by omega), if_pos (by omega)]
    simp
  refine ⟨_, rfl, _, rfl, D, us, _, k, rfl, rfl, t5 _ _ e3, ix, ?_⟩
  obtain ⟨nr, dnr, an, ln, sn⟩ : ∃ nr, Dats (Zd Z D) G5 (cutV ys none (some spot) ++ [v] ++ cutV ys (some spot) none) nr ∧ nr.all isAct = isAct d ∧ nr.length ≤ 5 ∧ ∀ a ∈ nr, Sm 2 30000 a := by
    have d5 := dys3.same t5
    refine ⟨_, ((((d5.drop (HT.sIx ys.length 0 none)).take (HT.sIx ys.length ys.length (some spot) - HT.sIx ys.length 0 none)).append (.cons (dv3.same t5) .nil)).append ((d5.drop (HT.sIx ys.length 0 (some spot))).take (HT.sIx ys.length ys.length none - HT.sIx ys.length 0 (some spot)))), all_put (r := r) (fun a ha => List.mem_of_mem_drop (List.mem_of_mem_take ha)) (fun a ha => List.mem_of_mem_drop (List.mem_of_mem_take ha)) (fun a ha => (hr_ a ha).1), ?_, fun a ha => ?_⟩
    · rw [List.length_append, List.length_append, List.length_singleton, List.length_take, List.length_take, List.length_drop, List.length_drop]
      omega
    · rcases List.mem_append.mp ha with ha | ha
      · rcases List.mem_append.mp ha with ha | ha
        · exact (hr_ a (List.mem_of_mem_drop (List.mem_of_mem_take ha))).2.mono (by decide) (by decide)
        · rw [List.mem_singleton.mp ha]; exact sm
      · exact (hr_ a (List.mem_of_mem_drop (List.mem_of_mem_take ha))).2.mono (by decide) (by decide)
  generalize hG6 : upd G5 D (.lst (us.set k (.ref q5))) = G6
  have kD : ∀ b o, G5 b = some o → ¬ Zd Z D b → G6 b = some o := fun b o q nz => by rw [← hG6, upd_ne (fun e => nz (.inr e))]; exact q
  have zq5 : ¬ Zd Z D q5 := x3.zo.off hq5
  have dats6 : Dats (Zd Z D) G6 (us.set k (.ref q5)) ([PyData.list A0, .list A1, .list A2].set k (.list nr)) :=
    Dats.mono (fun _ q => .inl q) kD (Dats.set k (dats3.same t5) (.lst zq5 e55 dnr))
  have dv6 : Dat (Zd Z D) G6 v d := Dat.mono (fun _ q => .inl q) kD (dv3.same t5)
  have e6 : G6 D = some (.lst (us.set k (.ref q5))) := by rw [← hG6]; exact upd_same
  have kp6 : Kp p H G6 := fun b o q nb => by
    rw [← hG6, upd_ne (ne_of_none q hD)]
    exact t5 b o (((kp1.trans kp2).trans kp3) b o q nb)
  have pot6 : Pot G6 p := pot3.keep fun o q => by rw [← hG6, upd_ne (Ne.symm nDp)]; exact t5 _ _ q
  have x6 : Px p (Zd Z D) G6 := ⟨pot6, x1.zp, fun b zb => by
    by_cases eb : b = D
    · rw [eb, e6]; exact fun z => nomatch z
    · rw [← hG6, upd_ne eb]; exact fun n => x3.zo b zb (t5.free n)⟩
  obtain ⟨r0, r1, r2, ers, b0, b1, b2, sz⟩ : ∃ r0 r1 r2, [PyData.list A0, .list A1, .list A2].set k (.list nr) = [.list r0, .list r1, .list r2] ∧ r0.all isAct = (if k = 0 then isAct d else true) ∧ r1.all isAct = (if k = 1 then isAct d else true) ∧ r2.all isAct = (if k = 2 then isAct d else true) ∧ ∀ r ∈ [r0, r1, r2], Sm 3 160000 (.list r) ∧ r.length ≤ 5 := by
    have ga : ∀ {A : List PyData}, (∀ a ∈ A, isAct a = true ∧ Sm 1 3000 a) → A.all isAct = true := fun h => List.all_eq_true.mpr fun a ha => (h a ha).1
    have gs : ∀ {A : List PyData}, A.length ≤ 2 → (∀ a ∈ A, isAct a = true ∧ Sm 1 3000 a) → Sm 3 160000 (.list A) ∧ A.length ≤ 5 := fun l h => ⟨Sm.lst (n := 2) (b := 30000) (m := 5) (fun a ha => (h a ha).2.mono (by decide) (by decide)) (by omega) (by decide), by omega⟩
    have gn : Sm 3 160000 (.list nr) ∧ nr.length ≤ 5 := ⟨Sm.lst (n := 2) (b := 30000) (m := 5) sn ln (by decide), ln⟩
    have g0 := gs l0 h0
    have g1 := gs l1 h1
    have g2 := gs l2 h2
    match k, hk with
    | 0, _ => exact ⟨nr, A1, A2, rfl, an, ga h1, ga h2, mem3 gn g1 g2⟩
    | 1, _ => exact ⟨A0, nr, A2, rfl, ga h0, an, ga h2, mem3 g0 gn g2⟩
    | 2, _ => exact ⟨A0, A1, nr, rfl, ga h0, ga h1, an, mem3 g0 g1 gn⟩
  rw [ers] at dats6
  obtain ⟨u0, u1, u2, eus⟩ := three (l := us.set k (.ref q5)) (by rw [dats6.length]; rfl)
  rw [eus] at dats6 e6
  obtain ⟨⟨s_0, n_0⟩, ⟨s_1, n_1⟩, s_2, n_2⟩ : (Sm 3 160000 (.list r0) ∧ r0.length ≤ 5) ∧ (Sm 3 160000 (.list r1) ∧ r1.length ≤ 5) ∧ (Sm 3 160000 (.list r2) ∧ r2.length ≤ 5) := ⟨sz r0 (by simp), sz r1 (by simp), sz r2 (by simp)⟩
  have smT : Sm 4 500000 (.list [.list r0, .list r1, .list r2]) := Sm.lst (n := 3) (b := 160000) (m := 3) (mem3 s_0 s_1 s_2) (by show 3 ≤ 3; decide) (by decide)
  obtain ⟨h_1, h_2, h_3⟩ := smT.shown (by decide) (by decide)
  have datT : ∀ {H' : Hp}, Same G6 H' → Dat Z H' (.ref D) (.list [.list r0, .list r1, .list r2]) := fun s => .lst nD (s _ _ e6) ((dats6.same s).less fun b q => .inl q)
  refine ⟨_, rfl, Z, .ref D, _, rfl, datT Same.refl, h_1, h_2, h_3, ?_⟩
  generalize hsh : (PyData.list [.list r0, .list r1, .list r2]).shown = shown
  refine ⟨_, rfl, by show 2 ≤ sizeLine; decide, fun q6 g6 => ?_⟩
  have s7 : Same G6 (upd G6 q6 (.lst [.str "refused", .int (k : Nat)])) := Same.new g6
  generalize hG7 : upd G6 q6 (.lst [.str "refused", .int (k : Nat)]) = G7 at s7
  have e7 : G7 q6 = some (.lst [.str "refused", .int (k : Nat)]) := by rw [← hG7]; exact upd_same
  have z6 : ¬ Zd Z D q6 := x6.zo.off g6
  let dueL : List PyData := if isAct d = true then [.str "made", .str shown, .int 3, .int (r0.length + r1.length + r2.length)] else [.str "refused", .int (k : Nat)]
  have scal : dueL.all scalD = true := by
    show (if isAct d = true then _ else _ : List PyData).all scalD = true
    split <;> rfl
  dsimp only [gName]
  refine with_rest (fun σ' H' => ∃ qd : Addr, σ' = [some (.ref p), some v, some (.ref D), some (.int k), some (.int spot), some (.str shown), some (.ref qd), none, none, none, none] ∧ Same G6 H' ∧ Dat (Zd Z D) H' (.ref qd) (.list dueL)) ?_ (fun fin => ?_)
  · rintro σ' H' ⟨qd, rfl, s8, dd8⟩
    have x8 : Px p (Zd Z D) H' := x6.kp (Same.kp s8 p) (pot6.same s8)
    have at_ : ∀ {i : Nat} {u : V}, [u0, u1, u2][i]? = some u → atI [u0, u1, u2] (i : Int) = some u := fun h => atI_nat h
    have eD : H' D = some (.lst [u0, u1, u2]) := s8 _ _ e6
    obtain ⟨D0, D1, D2⟩ : Dat (Zd Z D) H' u0 (.list r0) ∧ Dat (Zd Z D) H' u1 (.list r1) ∧ Dat (Zd Z D) H' u2 (.list r2) := by
      have dats8 := dats6.same s8
      cases dats8 with
      | cons D0 t =>
        cases t with
        | cons D1 t =>
          cases t with
          | cons D2 t => exact ⟨D0, D1, D2⟩
    obtain ⟨y1, ys1, rfl, ny1, ey1, dy1⟩ := dat_lst D1
    have w0 : Sm 10 1000000 (.list r0) ∧ rowN (.list r0) ≤ 1000 := ⟨s_0.mono (by decide) (by decide), by show r0.length ≤ 1000; omega⟩
    have w1 : Sm 10 1000000 (.tuple r1) ∧ rowN (.tuple r1) ≤ 1000 := ⟨⟨(s_1.mono (n' := 10) (b' := 1000000) (by decide) (by decide)).ok, (s_1.mono (n' := 10) (b' := 1000000) (by decide) (by decide)).bg, (s_1.mono (n' := 10) (b' := 1000000) (by decide) (by decide)).dp⟩, by show r1.length ≤ 1000; omega⟩
    have w1' : Sm 10 1000000 (.list r1) ∧ rowN (.list r1) ≤ 1000 := ⟨s_1.mono (by decide) (by decide), by show r1.length ≤ 1000; omega⟩
    have w2 : Sm 10 1000000 (.list r2) ∧ rowN (.list r2) ≤ 1000 := ⟨s_2.mono (by decide) (by decide), by show r2.length ≤ 1000; omega⟩
    have told1 : toldD [.list r0, .tuple r1, .list r2] = .list dueL := told_due hk b0 b1 b2 hsh
    refine ⟨_, rfl, D, _, _, _, rfl, rfl, SqL.of eD, at_ (i := 0) rfl, ?_⟩
    refine ⟨_, rfl, D, _, _, _, rfl, rfl, SqL.of eD, at_ (i := 1) rfl, y1, ys1, rfl, .inl ⟨SqL.of ey1, fun q9 g9 => ?_⟩⟩
    have s9 : Same H' (upd H' q9 (.tup ys1)) := Same.new g9
    refine ⟨_, rfl, D, _, _, _, rfl, rfl, SqL.of (s9 _ _ eD), at_ (i := 2) rfl, ?_⟩
    refine ⟨Zd Z D, _, _, _, .list r0, .tuple r1, .list r2, rfl, D0.same s9, .tup (x8.zo.off g9) upd_same (dy1.same s9), D2.same s9, mem3 w0 w1 w2, x8.zo.same s9, fun vt H10 s10 dt => ?_⟩
    rw [told1] at dt
    have s810 := Same.trans' s9 s10
    obtain ⟨a, b, xs, m1, m2, m3, m4, m5⟩ := same_lists (K := K) dt (dd8.same s810) scal
    refine ⟨_, rfl, a, b, xs, m1, m2, m3, m4, m5, _, rfl, iteF ?_⟩
    refine ⟨_, rfl, Z, .ref D, _, rfl, datT (Same.trans' s8 s810), h_1, h_2, h_3, _, rfl, rfl, _, rfl, ite_nd (fun c => absurd (by rw [hsh]) c) (fun _ => ?_)⟩
    have x10 := x8.kp (Same.kp s810 p) (x8.pot.same s810)
    have zp := x10.zp
    have lk : Dt p (Zd Z D) [some (.ref p), some v, some (.ref D), some (.int k), some (.int spot), some (.str shown), some (.ref qd), none, none, none, none] H10 (tC (.str "look")) (fun d => d = .str "look") := dt_str rfl
    have Pk := dt_pick (F := fun d => isRow d = false ∧ Sm 10 1000000 d ∧ rowN d ≤ 1000) (i := 0) x10 rfl
      (dts_cons zp (dt_non ⟨rfl, Sm.n (by decide) 10, by decide⟩) (dts_cons zp (dt_str (x := "look") ⟨rfl, ⟨by decide +kernel, by decide +kernel, by decide +kernel⟩, by decide⟩)
      (dts_cons zp ((dt_tup1E x10 lk).mono fun d e => e ▸ ⟨by decide +kernel, ⟨by decide +kernel, by decide +kernel, by decide +kernel⟩, by decide⟩)
      (dts_cons zp (dt_dict0 x10 ⟨rfl, ⟨by decide +kernel, by decide +kernel, by decide +kernel⟩, by decide⟩)
      (dts_cons zp (dt_int (i := 0) ⟨rfl, Sm.i (by decide) 0 (by decide) 10, by decide⟩) (dts_cons zp (dt_bl (b := true) ⟨rfl, Sm.b (by decide) true 10, by decide⟩)
      (dts_cons zp ((dt_lst1E x10 (dt_lst1E x10 lk)).mono fun d e => e ▸ ⟨by decide +kernel, ⟨by decide +kernel, by decide +kernel, by decide +kernel⟩, by decide⟩)
      (dts_cons zp ((dt_lst1E x10 (dt_lst1E x10 (dt_tup1E x10 lk))).mono fun d e => e ▸ ⟨by decide +kernel, ⟨by decide +kernel, by decide +kernel, by decide +kernel⟩, by decide⟩) dts_nil))))))))
    refine Pk.asg x10.pot fun vo od H11 ⟨ho, so, no⟩ dvo kp11 pot11 => ?_
    have x11 := x10.kp kp11 pot11
    have eD11 : H11 D = some (.lst [u0, .ref y1, u2]) := kp11 _ _ (s810 _ _ eD) nDp
    have D0' := (D0.same s810).kp zp kp11
    have D1' := (D1.same s810).kp zp kp11
    have D2' := (D2.same s810).kp zp kp11
    have dv11 := ((dv6.same s8).same s810).kp zp kp11
    have due11 := (dd8.same s810).kp zp kp11
    have kpF : ∀ {H2 : Hp}, Same H11 H2 → Kp p H H2 ∧ Pot H2 p := fun s => ⟨((kp6.trans (Same.kp (Same.trans' s8 s810) p)).trans kp11).trans (Same.kp s p), pot11.same s⟩
    refine ⟨_, rfl, rfl, _, rfl, ite_d (fun c => ?_) (fun c => ?_)⟩
    · have ek : k = 0 := by
        injection c with c'
        omega
      subst ek
      refine ⟨_, rfl, D, _, _, _, rfl, rfl, SqL.of eD11, at_ (i := 0) rfl, _, rfl, _, rfl, D, _, _, _, rfl, rfl, SqL.of eD11, at_ (i := 2) rfl, ?_⟩
      refine ⟨Zd Z D, _, _, _, .list r0, od, .list r2, rfl, D0', dvo, D2', mem3 w0 ⟨so, no⟩ w2, x11.zo, fun vt H12 s12 dt => ?_⟩
      rw [told_second ho] at dt
      refine ⟨_, rfl, _, v, d, rfl, dv11.same s12, sm.ok, fun H13 s13 => ⟨_, rfl, ?_⟩⟩
      have s123 := Same.trans' s12 s13
      have eb : isRow (.list r0) = isAct d := b0
      cases ha : isAct d with
      | true =>
        rw [eb, ha, if_pos rfl] at dt
        refine iteT ⟨by show 2 ≤ sizeLine; decide, fun q14 g14 => ?_⟩
        obtain ⟨a, b, xs, m1, m2, m3, m4, m5⟩ := same_lists (K := K) ((dt.same s13).same (Same.new (o := .lst [.str "refused", .int 1]) g14)) (.lst (Z := Zd Z D) ((x11.zo.same s123).off g14) upd_same (.cons (.str "refused") (.cons (.int 1) .nil))) rfl
        exact ⟨a, b, xs, m1, m2, m3, m4, m5, kq _ (kpF (Same.trans' s123 (Same.new g14))).1 (kpF (Same.trans' s123 (Same.new g14))).2⟩
      | false =>
        rw [eb, ha, if_neg Bool.false_ne_true] at dt
        have ed : dueL = [.str "refused", .int 0] := by
          show (if isAct d = true then _ else _) = _
          rw [ha, if_neg Bool.false_ne_true]
          rfl
        have du := due11.same s123
        rw [ed] at du
        refine iteF ⟨_, rfl, ?_⟩
        obtain ⟨a, b, xs, m1, m2, m3, m4, m5⟩ := same_lists (K := K) (dt.same s13) du rfl
        exact ⟨a, b, xs, m1, m2, m3, m4, m5, kq _ (kpF s123).1 (kpF s123).2⟩
    · dsimp only [tNext]
      refine with_rest (fun σ' H2 => H2 = H11 ∧ ∃ un dn, σ' = [some (.ref p), some v, some (.ref D), some (.int k), some (.int spot), some (.str shown), some (.ref qd), some vo, some un, none, none] ∧ Dat (Zd Z D) H11 un dn ∧ Sm 10 1000000 dn ∧ rowN dn ≤ 1000) ?_ (fun fin => ?_)
      · rintro σ' H2 ⟨rfl, un, dn, rfl, dun, sdn, ndn⟩
        obtain ⟨uk, rk, hatk, dk, wk⟩ : ∃ uk rk, atI [u0, .ref y1, u2] (k : Int) = some uk ∧ Dat (Zd Z D) H2 uk (.list rk) ∧ Sm 10 1000000 (.list rk) ∧ rowN (.list rk) ≤ 1000 := by
          match k, hk with
          | 0, _ => exact ⟨u0, r0, at_ (i := 0) rfl, D0', w0⟩
          | 1, _ => exact ⟨_, r1, at_ (i := 1) rfl, D1', w1'⟩
          | 2, _ => exact ⟨u2, r2, at_ (i := 2) rfl, D2', w2⟩
        refine ⟨_, rfl, _, rfl, _, rfl, _, rfl, D, _, _, _, rfl, rfl, SqL.of eD11, hatk, ?_⟩
        refine ⟨Zd Z D, _, _, _, od, dn, .list rk, rfl, dvo, dun, dk, mem3 ⟨so, no⟩ ⟨sdn, ndn⟩ wk, x11.zo, fun vt H12 s12 dt => ?_⟩
        rw [told_first ho] at dt
        refine ⟨by show 2 ≤ sizeLine; decide, fun q14 g14 => ?_⟩
        obtain ⟨a, b, xs, m1, m2, m3, m4, m5⟩ := same_lists (K := K) (dt.same (Same.new (o := .lst [.str "refused", .int 0]) g14)) (.lst (Z := Zd Z D) ((x11.zo.same s12).off g14) upd_same (.cons (.str "refused") (.cons (.int 0) .nil))) rfl
        exact ⟨a, b, xs, m1, m2, m3, m4, m5, kq _ (kpF (Same.trans' s12 (Same.new g14))).1 (kpF (Same.trans' s12 (Same.new g14))).2⟩
      · refine ⟨_, rfl, rfl, _, rfl, ite_d (fun c2 => ?_) (fun c2 => ?_)⟩
        · exact ⟨_, rfl, D, _, _, _, rfl, rfl, SqL.of eD11, at_ (i := 0) rfl, fin _ _ ⟨rfl, u0, .list r0, rfl, D0', w0⟩⟩
        · exact ⟨_, rfl, D, _, _, _, rfl, rfl, SqL.of eD11, at_ (i := 2) rfl, fin _ _ ⟨rfl, u2, .list r2, rfl, D2', w2⟩⟩
  · refine ⟨_, rfl, _, v, d, rfl, dv6.same s7, sm.ok, fun H8 s8 => ⟨_, rfl, ?_⟩⟩
    have s68 := Same.trans' s7 s8
    have at_ : ∀ {i : Nat} {u : V}, [u0, u1, u2][i]? = some u → atI [u0, u1, u2] (i : Int) = some u := fun h => atI_nat h
    have dats8 := dats6.same s68
    cases dats8 with
    | cons D0 t =>
      cases t with
      | cons D1 t =>
        cases t with
        | cons D2 t =>
          obtain ⟨y0, ys0, rfl, _, ey0, dy0⟩ := dat_lst D0
          obtain ⟨y1, ys1, rfl, _, ey1, dy1⟩ := dat_lst D1
          obtain ⟨y2, ys2, rfl, _, ey2, dy2⟩ := dat_lst D2
          cases ha : isAct d with
          | false =>
            refine iteF (fin _ _ ⟨q6, rfl, s68, ?_⟩)
            show Dat (Zd Z D) H8 (.ref q6) (.list (if isAct d = true then _ else _))
            rw [ha, if_neg (by decide)]
            exact .lst z6 (s8 _ _ e7) (.cons (.str _) (.cons (.int _) .nil))
          | true =>
            refine iteT ?_
            refine ⟨_, rfl, _, rfl, D, _, _, _, rfl, rfl, SqL.of (s68 _ _ e6), at_ (i := 0) rfl, _, _, rfl, .inl ⟨ys0, SqL.of ey0, rfl⟩, ?_⟩
            refine ⟨_, rfl, D, _, _, _, rfl, rfl, SqL.of (s68 _ _ e6), at_ (i := 1) rfl, _, _, rfl, .inl ⟨ys1, SqL.of ey1, rfl⟩, _, _, rfl, rfl, ?_⟩
            refine ⟨_, rfl, D, _, _, _, rfl, rfl, SqL.of (s68 _ _ e6), at_ (i := 2) rfl, _, _, rfl, .inl ⟨ys2, SqL.of ey2, rfl⟩, _, _, rfl, rfl, by show 4 ≤ sizeLine; decide, fun q9 g9 => ?_⟩
            refine fin _ _ ⟨q9, rfl, Same.trans' s68 (Same.new g9), ?_⟩
            show Dat (Zd Z D) _ (.ref q9) (.list (if isAct d = true then _ else _))
            rw [ha, if_pos rfl, dy0.length, dy1.length, dy2.length]
            exact .lst ((x6.zo.same s68).off g9) upd_same (.cons (.str _) (.cons (.str _) (.cons (.int _) (.cons (.int _) .nil))))
end
end Hv

namespace Hv
open PySem PySem.Spec PyProof.Rows L2
abbrev s__law_right : Stmt := topS 30
abbrev N__law_right : List Str := ["_law_pot_here", "_law_turn", "_law_some", "_law_shown", "_law_due"]
theorem sc__law_right : FnScope N__law_right ["_law_pot_here"] (defScope s__law_right) := ⟨rfl, rfl, rfl, by decide +kernel, rfl, by decide +kernel, by decide +kernel⟩
abbrev s__law_pot : Stmt := topS 18
abbrev N__law_pot : List Str := ["_law_script", "_law_k", "_law_cell"]
theorem sc__law_pot : FnScope N__law_pot ["_law_script", "_law_k"] (defScope s__law_pot) := ⟨rfl, rfl, rfl, by decide +kernel, rfl, by decide +kernel, by decide +kernel⟩
abbrev s_law : Stmt := topS 31
abbrev N_law : List Str := ["_law_script", "_law_k"]
theorem sc_law : FnScope N_law ["_law_script"] (defScope s_law) := ⟨rfl, rfl, rfl, by decide +kernel, rfl, by decide +kernel, by decide +kernel⟩
theorem SqL.sameH {K : PySem.W.Frag} {H H' : Hp} {a : Addr} {xs : List V} (h : SqL K H a xs) (s : Same H H') : SqL K H' a xs := by
  rcases h with h | h
  · refine .inl ?_
    rcases h with h | ⟨o, h⟩
    · exact .inl (s _ _ h)
    · exact .inr ⟨o, s _ _ h⟩
  · exact .inr h
def spRight : Sp := fun vs H Q _ => ∃ p : Addr, vs = [.ref p] ∧ Pot H p ∧ ∀ H', Kp p H H' → Pot H' p → Q (.bl true) H'
def spPot (K : PySem.W.Frag) : Sp := fun vs H Q _ => ∃ (a : Addr) (ns : List Int) (k : Nat), vs = [.ref a, .int k] ∧ SqL K H a (ns.map V.int) ∧ k ≤ 100 ∧ ∀ (q : Addr) (H' : Hp), H q = none → Same H H' → Pot H' q → Q (.ref q) H'
def spLaw (K : PySem.W.Frag) : Sp := fun vs H Q _ => ∃ (a : Addr) (ns : List Int), vs = [.ref a] ∧ SqL K H a (ns.map V.int) ∧ ∀ H', Q (.bl true) H'
section
variable {P : Program} {w : World} {K : PySem.W.Frag} {mg : Str → Option Value} {base : Heap}
theorem ok_right (D : DefAt K mg "_law_right" s__law_right) (D_is_act : DefAt K mg "is_act" s_is_act) (T : Nm mg) (c_law_draw : Dn P w K mg base 1 "_law_draw" ["_law_pot_here", "_law_sides"] spDraw)
    (c_law_act : Dn P w K mg base 4 "_law_act" ["_law_pot_here"] (spThing 1 3000 fun d => isAct d = true)) (c_law_spoilt : Dn P w K mg base 5 "_law_spoilt" ["_law_pot_here", "_law_act_here"] spSpoilt) (c_law_is_act : Dn P w K mg base 2 "_law_is_act" ["_law_some"] (spB isAct)) (cis_act : Dn P w K mg base 2 "is_act" ["value"] (spB isAct))
    (c_law_rows_right : Dg P w K mg base 7 "_law_rows_right" ["_law_pot_here", "_law_some"] spRR) : Dg P w K mg base 8 "_law_right" ["_law_pot_here"] spRight := by
  refine dg_mk D sc__law_right (fun _ _ _ _ _ _ us hl => match us, hl with | [_], _ => rfl) (fun vs H Q E h => by obtain ⟨_, rfl, _⟩ := h; rfl) (fun f cdv B fr0 z H vs Q E gd0 hr h => ?_)
  obtain ⟨p, rfl, pot, kq⟩ := h
  have gd : (B.deeper (envOfC "_law_right" (defScope s__law_right) z.heap.objs.size f cdv)).guards = some [] := gd0
  have Dis_act := D_is_act
  refine ⟨_, ((pss_cons (ps_for PassesOwn.never rfl (pi_range1 (by rfl) T.n_range (pa_cons pe_int pa_nil)) (pg_name (i := 1) sc__law_right.nd rfl (Or.inl rfl))
 (pss_cons (ps_set (i := 2) sc__law_right.nd rfl (Or.inl rfl) (pe_d c_law_act hr (by decide) (by rfl) (pa_cons (pv 0) pa_nil)))
 (pss_cons (ps_if (pt_cmpR op_gt (pe_d c_law_draw hr (by decide) (by rfl) (pa_cons (pv 0) (pa_cons pe_int pa_nil))) pe_int (nomark _))
 (pss_one (ps_set (i := 2) sc__law_right.nd rfl (Or.inl rfl) (pe_d c_law_spoilt hr (by decide) (by rfl) (pa_cons (pv 0) (pa_cons (pv 2) pa_nil)))))
 pss_nil)
 (pss_cons (ps_par (i := 3) (j := 4) (by rfl) sc__law_right.nd rfl rfl (by decide) rfl rfl (pa_cons (pe_callB (call_reprD gd hr) (by rfl) T.n_repr (by decide +kernel) (pa_cons (pv 2) pa_nil)) (pa_cons (pe_d c_law_is_act hr (by decide) (by rfl) (pa_cons (pv 2) pa_nil)) pa_nil)) (by rfl))
 (pss_cons (ps_if (PW.pt (pw_or (pt_cmpR op_ne (pe_callTy call_bool1 (by rfl) T.n_bool (by decide +kernel) (pa_cons (pe_d cis_act hr (by decide) (by rfl) (pa_cons (pv 2) pa_nil)) pa_nil)) (pv 4) (nomark _)) (pw_or (pt_cmpR op_ne (pe_callTy call_bool1 (by rfl) T.n_bool (by decide +kernel) (pa_cons (pe_dk cis_act D_is_act (fun _ _ _ _ _ _ ws hl => match ws, hl with | [_], _ => rfl) hr (by decide) (by rfl) (pk_cons (pv 2) pk_nil)) pa_nil)) (pv 4) (nomark _)) (pw_or1 (pt_cmpR op_ne (pe_callB (call_reprD gd hr) (by rfl) T.n_repr (by decide +kernel) (pa_cons (pv 2) pa_nil)) (pv 3) (nomark _))))))
 (pss_one (ps_ret pe_bl))
 pss_nil)
 (pss_one (ps_if (pt_not (pt_val (pe_dg c_law_rows_right gd hr (by decide) (by rfl) (pa_cons (pv 0) (pa_cons (pv 2) pa_nil)))))
 (pss_one (ps_ret pe_bl))
 pss_nil)))))))
 (pss_one (ps_ret pe_bl)))), ?_⟩
  refine ⟨8, rfl, by decide, by decide, ?_⟩
  refine for_it (walk_range (lo := 0) (n := (8 : Int).toNat)) (fun i σ' H' => Kp p H H' ∧ Pot H' p ∧ ∃ a b c d, σ' = [some (.ref p), a, b, c, d]) ⟨Kp.refl, pot, _, _, _, _, rfl⟩ (fun _ _ _ _ _ => trivial) ?_ ?_
  · rintro i v0 σ' H1 H1' hi ⟨kp1, pot1, s1, s2, s3, s4, rfl⟩ ⟨rfl, rfl⟩
    have x1 : Px p (OldZ H1') H1' := ⟨pot1, pot1.some, Zo.old H1'⟩
    have zp := x1.zp
    dsimp only [gName]
    refine (dt_thing (f := fun d => isAct d = true) (n := 1) (b := 3000) (i := 0) x1 rfl).asg pot1 fun v d H2 ⟨ha, sd⟩ dv kp2 pot2 => ?_
    refine with_rest (fun σ' H' => ∃ v d a, σ' = [some (.ref p), a, some v, s3, s4] ∧ Sm 2 30000 d ∧ Dat (OldZ H1') H' v d ∧ Kp p H1' H' ∧ Pot H' p) ?_ (fun fin => ?_)
    · rintro σ' H5 ⟨v, d, a, rfl, sm, dv, kp5, pot5⟩
      obtain ⟨h_1, h_2, h_3⟩ := sm.shown (by decide) (by decide)
      refine ⟨_, rfl, _, v, d, rfl, dv, h_1, h_2, h_3, _, rfl, _, v, d, rfl, dv, sm.ok, fun H6 s6 => ⟨_, _, rfl, ?_⟩⟩
      refine ⟨_, rfl, _, v, d, rfl, dv.same s6, sm.ok, fun H7 s7 => .inr ⟨_, rfl, _, rfl, rfl, _, rfl, ite_nd (fun c => absurd rfl c) (fun _ => ?_)⟩⟩
      have s67 := Same.trans' s6 s7
      refine ⟨_, rfl, _, v, d, rfl, dv.same s67, sm.ok, fun H8 s8 => .inr ⟨_, rfl, _, rfl, rfl, _, rfl, ite_nd (fun c => absurd rfl c) (fun _ => ?_)⟩⟩
      have s68 := Same.trans' s67 s8
      refine ⟨_, rfl, _, v, d, rfl, dv.same s68, h_1, h_2, h_3, _, rfl, rfl, _, rfl, ite_nd (fun c => absurd rfl c) (fun _ => ?_)⟩
      have x8 : Px p (OldZ H1') H8 := x1.kp (kp5.trans (Same.kp s68 p)) (pot5.same s68)
      refine ⟨_, rfl, _, rfl, p, _, v, d, rfl, x8, dv.same s68, sm, fun H9 kp9 pot9 => ⟨_, rfl, iteF ⟨((kp1.trans kp5).trans (Same.kp s68 p)).trans kp9, pot9, _, _, _, _, rfl⟩⟩⟩
    · refine ⟨_, rfl, p, 4, rfl, pot2, by decide, by decide, fun n H3 n0 n1 kp3 pot3 => ⟨_, _, rfl, rfl, _, rfl, ite_d (fun c => ?_) (fun c => ?_)⟩⟩
      · obtain ⟨ds, rfl, al⟩ := actLike ha sd
        have x3 := (x1.kp kp2 pot2).kp kp3 pot3
        exact ⟨_, rfl, _, rfl, p, _, v, ds, rfl, x3, dv.kp zp kp3, al, fun u d H4 sm dd kp4 pot4 => fin _ _ ⟨u, d, _, rfl, sm, dd, (kp2.trans kp3).trans kp4, pot4⟩⟩
      · exact fin _ _ ⟨v, d, _, rfl, sd.mono (by decide) (by decide), dv.kp zp kp3, kp2.trans kp3, pot3⟩
  · rintro σ' H1 ⟨kp1, pot1, _⟩
    exact kq H1 kp1 pot1
theorem ok_pot (D : DefAt K mg "_law_pot" s__law_pot) (T : Nm mg) : Dn P w K mg base 1 "_law_pot" ["_law_script", "_law_k"] (spPot K) := by
  refine dn_mk D sc__law_pot (fun _ _ _ _ _ _ us hl => match us, hl with | [_, _], _ => rfl) (fun vs H Q E h => by obtain ⟨_, _, _, rfl, _⟩ := h; rfl) (fun f cdv A outer s H vs Q E hr h => ?_)
  obtain ⟨a, ns, k, rfl, hs, hk, kq⟩ := h
  refine ⟨_, ((pss_cons (ps_set (i := 2) sc__law_pot.nd rfl (Or.inl rfl) (pe_op op_add (pe_op op_mul pe_int (pv 1)) pe_int))
 (pss_cons (ps_if (pt_cmpR op_lt (pv 1) (pe_callB call_len (by rfl) T.n_len (by decide +kernel) (pa_cons (pv 0) pa_nil)) (nomark _))
 (pss_one (ps_set (i := 2) sc__law_pot.nd rfl (Or.inl rfl) (pe_callB call_abs (by rfl) T.n_abs (by decide +kernel) (pa_cons (pe_ix ix_list (pv 0) (pv 1) (fun _ _ => rfl)) pa_nil))))
 pss_nil)
 (pss_one (ps_ret (pe_lst (pa_cons (pe_callB (call_max2 rfl) (by rfl) T.n_max (by decide +kernel) (pa_cons pe_int (pa_cons (pe_op op_sub (pv 2) (pe_op op_pow pe_int pe_int)) pa_nil))) (pa_cons (pe_op op_add (pe_op op_mod (pe_op op_mul (pe_callTy call_int1 (by rfl) T.n_int (by decide +kernel) (pa_cons (pe_op op_add (pe_op op_mod (pe_callTy call_int1 (by rfl) T.n_int (by decide +kernel) (pa_cons (pv 2) pa_nil)) pe_int) pe_int) pa_nil)) (pe_op op_pow (pe_op op_add (pe_op op_mul pe_int (pv 1)) pe_int) pe_int)) pe_int) pe_int) pa_nil)))))))), ?_⟩
  refine ⟨_, rfl, _, _, rfl, rfl, .inl ⟨by decide, by decide⟩, _, _, rfl, rfl, ?_⟩
  dsimp only [gName]
  refine with_rest (fun σ' H' => H' = H ∧ ∃ c : Int, 0 ≤ c ∧ σ' = [some (.ref a), some (.int (k : Nat)), some (.int c)]) ?_ (fun fin => ?_)
  · rintro σ' H' ⟨rfl, c, hc, rfl⟩
    have m0 := Int.emod_nonneg c (show (2147483549 : Int) ≠ 0 by decide)
    have m1 := Int.emod_lt_of_pos c (show (0 : Int) < 2147483549 by decide)
    refine ⟨_, rfl, _, _, rfl, rfl, ⟨by decide, by decide, by decide⟩, _, _, rfl, rfl, _, _, rfl, ?_⟩
    refine ⟨_, rfl, .inl ⟨_, rfl, _, _, rfl, rfl, (by show (0 : Int) < 2147483549; decide), _, _, rfl, rfl, .inl ⟨_, rfl, ?_⟩⟩⟩
    refine ⟨_, rfl, _, _, rfl, rfl, .inl ⟨by decide, by decide⟩, _, _, rfl, rfl, _, _, rfl, rfl, ⟨?_, ?_, ?_⟩, _, _, rfl, rfl, .inl ⟨?_, ?_⟩, _, _, rfl, rfl, (by show (0 : Int) < 2147483477; decide), _, _, rfl, rfl, by show 2 ≤ sizeLine; decide, fun q hq => ?_⟩
    · decide
    · decide
    · omega
    · omega
    · omega
    · have n0 := Int.emod_nonneg ((c % 2147483549 + 3) * (2 * (k : Int) + 5) ^ Int.toNat 3) (show (2147483477 : Int) ≠ 0 by decide)
      have n1 := Int.emod_lt_of_pos ((c % 2147483549 + 3) * (2 * (k : Int) + 5) ^ Int.toNat 3) (show (0 : Int) < 2147483477 by decide)
      refine kq q _ hq (Same.new hq) ⟨_, _, upd_same, ?_, by omega, by omega⟩
      split
      · omega
      · exact Int.le_refl _
  · refine ⟨_, rfl, _, rfl, _, _, rfl, .inl ⟨_, hs, rfl⟩, _, _, rfl, rfl, _, rfl, ite_d (fun c => ?_) (fun c => ?_)⟩
    · have hk2 : k < ns.length := by
        rw [List.length_map] at c
        omega
      have hat : atI (ns.map V.int) (k : Int) = some (.int ns[k]) := atI_nat (by simp [hk2])
      refine ⟨_, rfl, _, rfl, a, _, _, _, rfl, rfl, hs, hat, _, rfl, fin _ _ ⟨rfl, _, ?_, rfl⟩⟩
      split <;> omega
    · exact fin _ _ ⟨rfl, _, by omega, rfl⟩
theorem dg_fn {x : Str} {st : Stmt} {N ps : List Str} {k : Nat} {sp : Sp} {f : Addr} {fd : FuncData} (F : Fun K x x st f fd) (S : FnScope N ps (defScope st)) (len : ∀ vs H Q E, sp vs H Q E → vs.length = ps.length)
    (hbody : ∀ (cdv : Value) (B : Around) (fr : List Env) (z : Shared) (H : Hp) (vs : List V) (Q : VK) (E : XK), B.guards = some [] → Room k (B.deeper (envOfC x (defScope st) z.heap.objs.size f cdv)) → sp vs H Q E →
      ∃ t, PSs (cxOf CX0 P w K mg base N x (defScope st) f cdv B fr z H E).nox (defBody st) t ∧ t { nx := fun _ H' => Q .non H', rt := Q } (start N vs) H) : FnG P w K mg base (k + 1) f fd ps sp := by
  obtain ⟨oc, od, kV, doc, pm, an, cdv, ct, osl, e, lk, hcd⟩ := F.ex
  subst e
  refine fnG_of lk hcd S len (fun B fr z G vs Q E g hr h => ?_)
  obtain ⟨t, ht, q⟩ := hbody cdv B fr z G vs Q E g hr h
  exact ⟨t, ht.nox, q⟩
theorem ok_law {f : Addr} {fd : FuncData} (D : Fun K "law" "law" s_law f fd) (T : Nm mg) (c_law_pot : Dn P w K mg base 1 "_law_pot" ["_law_script", "_law_k"] (spPot K)) (c_law_right : Dg P w K mg base 8 "_law_right" ["_law_pot_here"] spRight) : FnG P w K mg base 9 f fd ["_law_script"] (spLaw K) := by
  refine dg_fn D sc_law (fun vs H Q E h => by obtain ⟨_, _, rfl, _⟩ := h; rfl) (fun cdv B fr0 z H vs Q E gd0 hr h => ?_)
  obtain ⟨a, ns, rfl, hs, kq⟩ := h
  have gd : (B.deeper (envOfC "law" (defScope s_law) z.heap.objs.size f cdv)).guards = some [] := gd0
  refine ⟨_, ((pss_one (ps_ret (pe_callB (cr_all rfl) (by rfl) T.n_all (by decide +kernel) (pa_cons (pe_lc (own := [("_law_k", 1)]) (g := gName 1) rfl sc_law.nd (pi_range1 (by rfl) T.n_range (pa_cons (pe_callB (call_max2 rfl) (by rfl) T.n_max (by decide +kernel) (pa_cons pe_int (pa_cons (pe_callB (call_min2 rfl) (by rfl) T.n_min (by decide +kernel) (pa_cons pe_int (pa_cons (pe_callB call_len (by rfl) T.n_len (by decide +kernel) (pa_cons (pv 0) pa_nil)) pa_nil))) pa_nil))) pa_nil)) (blkOk_by (own := [("_law_k", 1)]) (N := N_law) (sc := defScope s_law) (by decide +kernel)) (fun _ _ _ _ _ => (pg_name (i := 1) sc_law.nd rfl (Or.inl rfl))) (fun _ _ _ _ _ => pts_nil) (fun _ _ _ _ _ => (pe_dg c_law_right gd hr (by decide) (by rfl) (pa_cons (pe_d c_law_pot hr (by decide) (by rfl) (pa_cons (pv 0) (pa_cons (pv 1) pa_nil))) pa_nil)))) pa_nil))))), ?_⟩
  refine ⟨_, rfl, _, _, rfl, .inl ⟨_, hs, rfl⟩, _, _, rfl, _, _, rfl, ?_⟩
  have jj : ∀ m : Nat, 1 ≤ (if (if (m : Int) < 3 then (m : Int) else 3) > 1 then (if (m : Int) < 3 then (m : Int) else 3) else 1) ∧ (if (if (m : Int) < 3 then (m : Int) else 3) > 1 then (if (m : Int) < 3 then (m : Int) else 3) else 1) ≤ 3 := by
    intro m
    split <;> split <;> omega
  obtain ⟨j1, j3⟩ := jj (ns.map V.int).length
  generalize (if (if ((ns.map V.int).length : Int) < 3 then ((ns.map V.int).length : Int) else 3) > 1 then (if ((ns.map V.int).length : Int) < 3 then ((ns.map V.int).length : Int) else 3) else 1) = j at j1 j3
  refine ⟨j, rfl, by omega, by omega, fun Dl hD => ?_⟩
  refine lc_pure (walk_range (lo := 0) (n := j.toNat)) (fun _ => .bl true) hD (by rw [sizeLine_eq]; omega) (fun _ _ => trivial) ?_ ?_
  · rintro i v H2 H' κ hi s2 ⟨rfl, rfl⟩ kk
    exact ⟨rfl, _, rfl, _, rfl, a, ns, i, by simp, SqL.sameH hs s2, by omega, fun q H3 hq s3 pot3 => ⟨q, rfl, pot3, fun H4 kp4 pot4 => kk H4 fun b o e => kp4 b o (s3 b o e) (ne_of_none e hq)⟩⟩
  · intro H2 s2 hl
    refine ⟨Dl, (List.range j.toNat).map fun _ => true, rfl, SqL.of (by rw [hl, List.map_map]; rfl), ?_⟩
    have e : ((List.range j.toNat).map fun _ => true).all id = true := by simp
    rw [e]
    exact kq H2
end
end Hv

namespace Hv
open PySem PySem.Spec PyProof.Rows L2
section
variable {K : PySem.W.Frag} {h : Heap} {mg : Str → Option Value}
theorem def_mk {x : Str} {st : Stmt} {f : Addr} {oc kV doc pm cdv ct : Value} {od an : Option Addr} {osl : Array (Option Value)} (X : K.In h) (G : h.Ns mainGlobals mg) (a : PySem.W.nsIn K mainGlobals x = some (some (.ref f)))
    (l : K.lookup f = some ⟨oc, od, .func (PySem.W.fnOf x x (defArgs st) (defBody st) (defScope st) .none kV doc pm an cdv ct), osl⟩) (c : PySem.W.codeIn K cdv x = true) (k : PySem.W.keepIn K (.ref f) = true) : DefAt K mg x st :=
  ⟨f, _, fun_mk l c k, PySem.W.mg_of X G a⟩
theorem def_k {goal : Prop} {x : Str} {st : Stmt} {f : Addr} {oc kV doc pm cdv ct : Value} {od an : Option Addr} {osl : Array (Option Value)} (X : K.In h) (G : h.Ns mainGlobals mg) (a : PySem.W.nsIn K mainGlobals x = some (some (.ref f)))
    (l : K.lookup f = some ⟨oc, od, .func (PySem.W.fnOf x x (defArgs st) (defBody st) (defScope st) .none kV doc pm an cdv ct), osl⟩) (c : PySem.W.codeIn K cdv x = true) (k : PySem.W.keepIn K (.ref f) = true) (g : DefAt K mg x st → goal) : goal := g (def_mk X G a l c k)
theorem law_k {goal : Prop} {x : Str} {st : Stmt} {f : Addr} {oc kV doc pm cdv ct : Value} {od an : Option Addr} {osl : Array (Option Value)} (X : K.In h) (G : h.Ns mainGlobals mg) (a : PySem.W.nsIn K mainGlobals x = some (some (.ref f)))
    (l : K.lookup f = some ⟨oc, od, .func (PySem.W.fnOf x x (defArgs st) (defBody st) (defScope st) .none kV doc pm an cdv ct), osl⟩) (c : PySem.W.codeIn K cdv x = true) (k : PySem.W.keepIn K (.ref f) = true)
    (g : ∀ fd, fd = PySem.W.fnOf x x (defArgs st) (defBody st) (defScope st) .none kV doc pm an cdv ct → Fun K x x st f fd → mg x = some (.ref f) → goal) : goal := g _ rfl (fun_mk l c k) (PySem.W.mg_of X G a)
theorem gk_str {x y : Str} {t : Tok} (X : K.In h) (G : h.Ns mainGlobals mg) (a : PySem.W.nsIn K mainGlobals x = some (some (.str y t))) : Gk mg x (.str y) := ⟨_, PySem.W.mg_of X G a, ⟨t, rfl⟩⟩
theorem gk_int {x : Str} {i : Int} {t : Tok} (X : K.In h) (G : h.Ns mainGlobals mg) (a : PySem.W.nsIn K mainGlobals x = some (some (.int i t))) : Gk mg x (.int i) := ⟨_, PySem.W.mg_of X G a, ⟨t, rfl⟩⟩
theorem gk_ref {x : Str} {b : Addr} (X : K.In h) (G : h.Ns mainGlobals mg) (a : PySem.W.nsIn K mainGlobals x = some (some (.ref b))) : Gk mg x (.ref b) := ⟨_, PySem.W.mg_of X G a, rfl⟩
theorem plain_rel {t1 t2 t3 t4 t5 t6 : Tok} : Vals (plainActs.map V.str) [.str "look" t1, .str "inner" t2, .str "swallow" t3, .str "answer" t4, .str "skip" t5, .str "fail" t6] :=
  .cons ⟨_, rfl⟩ (.cons ⟨_, rfl⟩ (.cons ⟨_, rfl⟩ (.cons ⟨_, rfl⟩ (.cons ⟨_, rfl⟩ (.cons ⟨_, rfl⟩ .nil)))))
theorem gp_k {goal : Prop} {pa : Addr} {od : Option Addr} {its : Array Value} {n : Nat} {osl : Array (Option Value)} (X : K.In h) (G : h.Ns mainGlobals mg) (a : PySem.W.nsIn K mainGlobals "PLAIN_ACTS" = some (some (.ref pa))) (l : K.lookup pa = some ⟨.type "tuple", od, .seq its n, osl⟩) (r : Vals (plainActs.map V.str) its.toList)
    (g : ∀ pa, Gp K mg pa → goal) : goal := by
  have e : its.size = 6 := by rw [← Array.length_toList]; exact r.length.symm
  exact g pa ⟨gk_ref X G a, fun H => .inr ⟨_, its, n, l, rfl, rfl, by rw [e]; decide, r⟩⟩
/-- the class's facts -/
theorem sc_mk {C fi fr fl pc fc : Addr} {oc1 kV1 dc1 pm1 cd1 ct1 oc2 kV2 dc2 pm2 cd2 ct2 oc3 kV3 dc3 pm3 cd3 ct3 oc4 kV4 dc4 pm4 cd4 ct4 : Value} {od1 an1 od2 an2 od3 an3 od4 an4 : Option Addr} {sl1 sl2 sl3 sl4 : Array (Option Value)} {rest : List Value}
    (X : K.In h) (G : h.Ns mainGlobals mg) (aC : PySem.W.nsIn K mainGlobals "Script" = some (some (.ref C)))
    (pg : PySem.W.plainGet K C Str.empty = true) (hd : PySem.W.hasDictIn K C = true) (po : PySem.W.plainOver K C = true) (sa : PySem.W.findIn K (.ref C) "__setattr__" = some (some (.builtin "object.__setattr__"))) (mk : PySem.W.makesIn K C = true) (kc : PySem.W.keepIn K (.ref C) = true)
    (na : PySem.W.findIn K (.ref C) "own_rows" = some none)
    (a1 : PySem.W.findIn K (.ref C) "__init__" = some (some (.ref fi))) (i1 : PySem.W.isFn K (.ref fi) = true) (l1 : K.lookup fi = some ⟨oc1, od1, .func (PySem.W.fnOf "__init__" "Script.__init__" (defArgs s_Script___init__) (defBody s_Script___init__) (defScope s_Script___init__) .none kV1 dc1 pm1 an1 cd1 ct1), sl1⟩) (c1 : PySem.W.codeIn K cd1 "Script.__init__" = true) (k1 : PySem.W.keepIn K (.ref fi) = true)
    (a2 : PySem.W.findIn K (.ref C) "rows" = some (some (.ref fr))) (i2 : PySem.W.isFn K (.ref fr) = true) (l2 : K.lookup fr = some ⟨oc2, od2, .func (PySem.W.fnOf "rows" "Script.rows" (defArgs s_Script_rows) (defBody s_Script_rows) (defScope s_Script_rows) .none kV2 dc2 pm2 an2 cd2 ct2), sl2⟩) (c2 : PySem.W.codeIn K cd2 "Script.rows" = true) (k2 : PySem.W.keepIn K (.ref fr) = true)
    (a3 : PySem.W.findIn K (.ref C) "__len__" = some (some (.ref fl))) (i3 : PySem.W.typeIn K (.ref fl) = some (.type "function")) (l3 : K.lookup fl = some ⟨oc3, od3, .func (PySem.W.fnOf "__len__" "Script.__len__" (defArgs s_Script___len__) (defBody s_Script___len__) (defScope s_Script___len__) .none kV3 dc3 pm3 an3 cd3 ct3), sl3⟩) (c3 : PySem.W.codeIn K cd3 "Script.__len__" = true) (k3 : PySem.W.keepIn K (.ref fl) = true)
    (a4 : PySem.W.findIn K (.ref C) "cost" = some (some (.ref pc))) (g4 : PySem.W.specialIn K (.ref pc) "__get__" = some (some (.builtin "property.__get__"))) (t4 : PySem.W.takesIn K (.ref pc) = some true) (r4 : PySem.W.recIn K pc "property" = some (.ref fc :: rest))
    (l4 : K.lookup fc = some ⟨oc4, od4, .func (PySem.W.fnOf "cost" "Script.cost" (defArgs s_Script_cost) (defBody s_Script_cost) (defScope s_Script_cost) .none kV4 dc4 pm4 an4 cd4 ct4), sl4⟩) (c4 : PySem.W.codeIn K cd4 "Script.cost" = true) (k4 : PySem.W.keepIn K (.ref fc) = true) :
    ∃ di dr dl dc, ScC K mg C fi fr fl pc fc di dr dl dc :=
  ⟨_, _, _, _, { g := PySem.W.mg_of X G aC, c := ⟨pg, hd, po, sa⟩, mak := ⟨mk, a1, i1, kc⟩, na := na, init := fun_mk l1 c1 k1, rows := ⟨a2, i2, k2⟩, rowsF := fun_mk l2 c2 k2, len := a3, lenT := i3, lenF := fun_mk l3 c3 k3, cost := ⟨a4, g4, t4, _, r4⟩, costF := fun_mk l4 c4 k4 }⟩
/-- an error class's facts -/
theorem er_mk {P : Program} {x ql file txt : Str} {fs : List Str} {C fI cda cc : Addr} {pr : Arguments} {bd rest : List Stmt} {nms : List (Str × NameKind)} {oc kV doc pm ct ccl cl : Value} {od an cdd cld : Option Addr} {osl ccs csl : Array (Option Value)} {vs : Array Value} {tf : Tok} {ar : Arg} {j : Nat} {p0 p1 p2 p3 p4 p5 : Pos}
    (X : K.In h) (G : h.Ns mainGlobals mg) (aC : PySem.W.nsIn K mainGlobals x = some (some (.ref C))) (kC : PySem.W.keepIn K (.ref C) = true)
    (iq : PySem.W.excInitIn K C [Value.type "ValueError", Value.type "Exception", Value.type "BaseException", Value.type "object"] "ValueError.__new__" = true) (ov : PySem.W.excOver K C [Value.type "ValueError", Value.type "Exception", Value.type "BaseException", Value.type "object"] = true)
    (hd : PySem.W.hasDictIn K C = true) (sa : PySem.W.findIn K (.ref C) "__setattr__" = some (some (.builtin "object.__setattr__"))) (ga : PySem.W.findIn K (.ref C) "__getattribute__" = some (some (.builtin "BaseException.__getattribute__"))) (gg : PySem.W.findIn K (.ref C) "__getattr__" = some none)
    (exC : PySem.W.subIn K (.ref C) (.type "BaseException") = some true) (tyC : PySem.W.typeIn K (.ref C) = some (.type "type")) (nf : ∀ f ∈ fs, PySem.W.findIn K (.ref C) f = some none) (subB : PySem.W.subIn K (.ref C) (.type "ValueError") = some true)
    (sup : PySem.W.ks_superIn K C C "__init__" = some (some (.builtin "ValueError.__init__"))) (mroC : PySem.W.mroIn K C (.ref C) = some true) (opq : PySem.W.nsIn K cStatics "thirdparty.any" = some none) (sup0 : PySem.W.nsIn K mainGlobals "super" = some none) (top : (P.main.scope.names.lookup ("super" : Str)).isSome = false)
    (aI : PySem.W.findIn K (.ref C) "__init__" = some (some (.ref fI))) (tI : PySem.W.typeIn K (.ref fI) = some (.type "function"))
    (lI : K.lookup fI = some ⟨oc, od, .func (PySem.W.ksFn "__init__" ql pr bd (scI nms) .none kV doc pm an (.ref cda) ct cc), osl⟩) (cI : PySem.W.codeIn K (.ref cda) ql = true) (lc : K.lookup cda = some ⟨ccl, cdd, .fields vs, ccs⟩) (v2 : vs[2]? = some (.str file tf)) (fe : ((P.main.file : Str) == file) = true)
    (lcc : K.lookup cc = some ⟨cl, cld, .cell (some (.ref C)), csl⟩)
    (bi : ∀ (y : Value) (us : List Value), us.length = fs.length → bindArgs (PySem.W.ksFn "__init__" ql pr bd (scI nms) .none kV doc pm an (.ref cda) ct cc) ⟨y :: us, []⟩ = pure ((("self" : Str), y) :: fs.zip us))
    (hh : (pr.posonlyargs ++ pr.args).head? = some ar) (as : ar.arg = "self") (eb : bd = .Expr (.Call (.Attribute (.Call (.Name "super" p0) [] [] p1) "__init__" p2) [.Constant (.str txt) j p3] [] p4) p5 :: rest) (asg : Asgs fs rest)
    (n1 : nms.lookup ("super" : Str) = some .globalImplicit) (n2 : nms.lookup ("__class__" : Str) = some .free) (n3 : nms.lookup ("self" : Str) = some .local)
    (n4 : ∀ f ∈ fs, nms.lookup f = some .local ∧ (f == ("__debug__" : Str)) = false ∧ f ≠ "self") (n5 : ∀ y ∈ nms, y.2 ≠ .cell) (n6 : fs.Nodup) (n7 : fs.length ≤ 100) (n8 : (p2.endLine == p4.line) = true) : ErrVE P K mg x C fs :=
  { gC := PySem.W.mg_of X G aC, kC := kC, iq := iq, ov := ov, hd := hd, sa := sa, ga := ga, gg := gg, exC := exC, tyC := tyC, nf := nf, subB := subB, sup := sup, mroC := mroC, opq := opq, sup0 := PySem.W.mg_none_of X G sup0, top := top
    init := ⟨fI, ql, pr, bd, rest, nms, oc, kV, doc, pm, ct, od, an, cdd, cld, osl, ccs, csl, cda, cc, ccl, cl, vs, file, txt, tf, ar, j, p0, p1, p2, p3, p4, p5, aI, tI, lI, cI, lc, v2, fe, lcc, bi, hh, as, eb, asg, n1, n2, n3, n4, n5, n6, n7, n8⟩ }
theorem ers_mk {P : Program} {ql file txt : Str} {C CH CS fI cda cc : Addr} {pr : Arguments} {bd rest : List Stmt} {nms : List (Str × NameKind)} {oc kV doc pm ct ccl cl : Value} {od an cdd cld : Option Addr} {osl ccs csl : Array (Option Value)} {vs : Array Value} {tf : Tok} {ar : Arg} {j : Nat} {p0 p1 p2 p3 p4 p5 : Pos}
    (X : K.In h) (G : h.Ns mainGlobals mg) (aC : PySem.W.nsIn K mainGlobals "InvalidScript" = some (some (.ref C))) (kC : PySem.W.keepIn K (.ref C) = true)
    (iq : PySem.W.excInitIn K C [Value.type "ValueError", Value.type "Exception", Value.type "BaseException", Value.type "object"] "ValueError.__new__" = true) (ov : PySem.W.excOver K C [Value.type "ValueError", Value.type "Exception", Value.type "BaseException", Value.type "object"] = true)
    (hd : PySem.W.hasDictIn K C = true) (sa : PySem.W.findIn K (.ref C) "__setattr__" = some (some (.builtin "object.__setattr__"))) (ga : PySem.W.findIn K (.ref C) "__getattribute__" = some (some (.builtin "BaseException.__getattribute__"))) (gg : PySem.W.findIn K (.ref C) "__getattr__" = some none)
    (exC : PySem.W.subIn K (.ref C) (.type "BaseException") = some true) (tyC : PySem.W.typeIn K (.ref C) = some (.type "type")) (nf : PySem.W.findIn K (.ref C) "position" = some none) (subB : PySem.W.subIn K (.ref C) (.type "ValueError") = some true)
    (sup : PySem.W.ks_superIn K C C "__init__" = some (some (.builtin "ValueError.__init__"))) (mroC : PySem.W.mroIn K C (.ref C) = some true) (opq : PySem.W.nsIn K cStatics "thirdparty.any" = some none) (sup0 : PySem.W.nsIn K mainGlobals "super" = some none) (top : (P.main.scope.names.lookup ("super" : Str)).isSome = false)
    (aI : PySem.W.findIn K (.ref C) "__init__" = some (some (.ref fI))) (tI : PySem.W.typeIn K (.ref fI) = some (.type "function"))
    (lI : K.lookup fI = some ⟨oc, od, .func (PySem.W.ksFn "__init__" ql pr bd (scI nms) .none kV doc pm an (.ref cda) ct cc), osl⟩) (cI : PySem.W.codeIn K (.ref cda) ql = true) (lc : K.lookup cda = some ⟨ccl, cdd, .fields vs, ccs⟩) (v2 : vs[2]? = some (.str file tf)) (fe : ((P.main.file : Str) == file) = true)
    (lcc : K.lookup cc = some ⟨cl, cld, .cell (some (.ref C)), csl⟩)
    (bi : ∀ (y : Value) (us : List Value), us.length = 1 → bindArgs (PySem.W.ksFn "__init__" ql pr bd (scI nms) .none kV doc pm an (.ref cda) ct cc) ⟨y :: us, []⟩ = pure ((("self" : Str), y) :: [("position" : Str)].zip us))
    (hh : (pr.posonlyargs ++ pr.args).head? = some ar) (as : ar.arg = "self") (eb : bd = .Expr (.Call (.Attribute (.Call (.Name "super" p0) [] [] p1) "__init__" p2) [.Constant (.str txt) j p3] [] p4) p5 :: rest) (asg : Asgs ["position"] rest)
    (n1 : nms.lookup ("super" : Str) = some .globalImplicit) (n2 : nms.lookup ("__class__" : Str) = some .free) (n3 : nms.lookup ("self" : Str) = some .local)
    (n4 : nms.lookup ("position" : Str) = some .local) (n5 : ∀ y ∈ nms, y.2 ≠ .cell) (n8 : (p2.endLine == p4.line) = true)
    (ha : PySem.W.findIn K (.ref C) "__class__" = some (some (.builtin "object.__class__"))) (hn : PySem.W.specialIn K (.builtin "object.__class__") "__get__" = some (some (.builtin "getset_descriptor.__get__"))) (htk : PySem.W.takesIn K (.builtin "object.__class__") = some true) (hm : PySem.W.mroIn K C (.type "object") = some true)
    (aH : PySem.W.nsIn K mainGlobals "HookError" = some (some (.ref CH))) (aS : PySem.W.nsIn K mainGlobals "StateError" = some (some (.ref CS))) (kh : PySem.W.kitOne K (.ref C) (.ref CH) = some true) (ks : PySem.W.kitOne K (.ref C) (.ref CS) = some false) (ex : PySem.W.exmOne K (.ref C) (.ref C) = some true) : ∃ CI CH CS, ErS P K mg CI CH CS :=
  ⟨C, CH, CS, { ec := er_mk X G aC kC iq ov hd sa ga gg exC tyC (fun f hf => by rw [List.mem_singleton.mp hf]; exact nf) subB sup mroC opq sup0 top aI tI lI cI lc v2 fe lcc bi hh as eb asg n1 n2 n3 (fun f hf => by rw [List.mem_singleton.mp hf]; exact ⟨n4, by decide, by decide⟩) n5 (by decide) (by decide) n8
                xf := ⟨ga, gg, exC, hd⟩, np := nf, ei := ⟨ga, gg, exC, hd, ha, hn, htk, hm⟩, gi := PySem.W.mg_of X G aC, gh := gk_ref X G aH, gs := gk_ref X G aS, kh := kh, ks := ks, ex := ex }⟩
end
end Hv

open PySem PySem.W PyProof.Rows
set_option maxRecDepth 100000 in
set_option maxHeartbeats 0 in
theorem PySem.Challenge.cw_hookvows_k30_what_is_an_act_holds : PySem.Challenge.rw_hookvows_k30_what_is_an_act.Holds := by
  w_on; o_law; k_head; (case hw => w_witness2)
  k_fill
  refine Hv.walkG (n := 63) (k := 9) (x := "_law_script") (sp := Hv.spLaw) (l := PySem.Challenge.rw_hookvows_k30_what_is_an_act) rfl (by decide) rfl ⟨rfl, by decide, by decide⟩ (fun w h Y => PySem.W.kIn_of Y) ?F (fun K H a ns hl _ hS => ⟨a, ns, rfl, hS, fun _ => rfl⟩)
  case F =>
    intro w mg fa h KX G hmg
    refine' Hv.def_k (x := "is_integer") (st := Hv.s_is_integer) KX G ?a4 ?l4 ?c4 ?k4 (fun D_is_integer => ?_); (case a4 => k_is); (case l4 => k_is); (case c4 => k_is); (case k4 => k_is)
    refine' Hv.def_k (x := "is_name") (st := Hv.s_is_name) KX G ?a5 ?l5 ?c5 ?k5 (fun D_is_name => ?_); (case a5 => k_is); (case l5 => k_is); (case c5 => k_is); (case k5 => k_is)
    refine' Hv.def_k (x := "is_list") (st := Hv.s_is_list) KX G ?a6 ?l6 ?c6 ?k6 (fun D_is_list => ?_); (case a6 => k_is); (case l6 => k_is); (case c6 => k_is); (case k6 => k_is)
    refine' Hv.def_k (x := "is_act") (st := Hv.s_is_act) KX G ?a14 ?l14 ?c14 ?k14 (fun D_is_act => ?_); (case a14 => k_is); (case l14 => k_is); (case c14 => k_is); (case k14 => k_is)
    refine' Hv.def_k (x := "is_row") (st := Hv.s_is_row) KX G ?a15 ?l15 ?c15 ?k15 (fun D_is_row => ?_); (case a15 => k_is); (case l15 => k_is); (case c15 => k_is); (case k15 => k_is)
    refine' Hv.def_k (x := "_law_pot") (st := Hv.s__law_pot) KX G ?a18 ?l18 ?c18 ?k18 (fun D__law_pot => ?_); (case a18 => k_is); (case l18 => k_is); (case c18 => k_is); (case k18 => k_is)
    refine' Hv.def_k (x := "_law_draw") (st := Hv.s__law_draw) KX G ?a19 ?l19 ?c19 ?k19 (fun D__law_draw => ?_); (case a19 => k_is); (case l19 => k_is); (case c19 => k_is); (case k19 => k_is)
    refine' Hv.def_k (x := "_law_pick") (st := Hv.s__law_pick) KX G ?a20 ?l20 ?c20 ?k20 (fun D__law_pick => ?_); (case a20 => k_is); (case l20 => k_is); (case c20 => k_is); (case k20 => k_is)
    refine' Hv.def_k (x := "_law_label") (st := Hv.s__law_label) KX G ?a21 ?l21 ?c21 ?k21 (fun D__law_label => ?_); (case a21 => k_is); (case l21 => k_is); (case c21 => k_is); (case k21 => k_is)
    refine' Hv.def_k (x := "_law_odd_label") (st := Hv.s__law_odd_label) KX G ?a22 ?l22 ?c22 ?k22 (fun D__law_odd_label => ?_); (case a22 => k_is); (case l22 => k_is); (case c22 => k_is); (case k22 => k_is)
    refine' Hv.def_k (x := "_law_odd_digit") (st := Hv.s__law_odd_digit) KX G ?a23 ?l23 ?c23 ?k23 (fun D__law_odd_digit => ?_); (case a23 => k_is); (case l23 => k_is); (case c23 => k_is); (case k23 => k_is)
    refine' Hv.def_k (x := "_law_act") (st := Hv.s__law_act) KX G ?a24 ?l24 ?c24 ?k24 (fun D__law_act => ?_); (case a24 => k_is); (case l24 => k_is); (case c24 => k_is); (case k24 => k_is)
    refine' Hv.def_k (x := "_law_spoilt") (st := Hv.s__law_spoilt) KX G ?a25 ?l25 ?c25 ?k25 (fun D__law_spoilt => ?_); (case a25 => k_is); (case l25 => k_is); (case c25 => k_is); (case k25 => k_is)
    refine' Hv.def_k (x := "_law_is_label") (st := Hv.s__law_is_label) KX G ?a26 ?l26 ?c26 ?k26 (fun D__law_is_label => ?_); (case a26 => k_is); (case l26 => k_is); (case c26 => k_is); (case k26 => k_is)
    refine' Hv.def_k (x := "_law_is_act") (st := Hv.s__law_is_act) KX G ?a27 ?l27 ?c27 ?k27 (fun D__law_is_act => ?_); (case a27 => k_is); (case l27 => k_is); (case c27 => k_is); (case k27 => k_is)
    refine' Hv.def_k (x := "_law_told") (st := Hv.s__law_told) KX G ?a28 ?l28 ?c28 ?k28 (fun D__law_told => ?_); (case a28 => k_is); (case l28 => k_is); (case c28 => k_is); (case k28 => k_is)
    refine' Hv.def_k (x := "_law_rows_right") (st := Hv.s__law_rows_right) KX G ?a29 ?l29 ?c29 ?k29 (fun D__law_rows_right => ?_); (case a29 => k_is); (case l29 => k_is); (case c29 => k_is); (case k29 => k_is)
    refine' Hv.def_k (x := "_law_right") (st := Hv.s__law_right) KX G ?a30 ?l30 ?c30 ?k30 (fun D__law_right => ?_); (case a30 => k_is); (case l30 => k_is); (case c30 => k_is); (case k30 => k_is)
    refine' Hv.law_k (x := "law") (st := Hv.s_law) KX G ?a0 ?l0 ?c0 ?k0 (fun fdl efd D_law mlaw => ?_); (case a0 => k_is); (case l0 => k_is); (case c0 => k_is); (case k0 => k_is)
    have T : Hv.Nm mg := by
      refine' ⟨PySem.W.mg_none_of KX G ?z0, PySem.W.mg_none_of KX G ?z1, PySem.W.mg_none_of KX G ?z2, PySem.W.mg_none_of KX G ?z3, PySem.W.mg_none_of KX G ?z4, PySem.W.mg_none_of KX G ?z5, PySem.W.mg_none_of KX G ?z6, PySem.W.mg_none_of KX G ?z7, PySem.W.mg_none_of KX G ?z8, PySem.W.mg_none_of KX G ?z9, PySem.W.mg_none_of KX G ?z10, PySem.W.mg_none_of KX G ?z11, PySem.W.mg_none_of KX G ?z12, PySem.W.mg_none_of KX G ?z13, PySem.W.mg_none_of KX G ?z14, PySem.W.mg_none_of KX G ?z15, PySem.W.mg_none_of KX G ?z16⟩
      (case z0 => k_is)
      (case z1 => k_is)
      (case z2 => k_is)
      (case z3 => k_is)
      (case z4 => k_is)
      (case z5 => k_is)
      (case z6 => k_is)
      (case z7 => k_is)
      (case z8 => k_is)
      (case z9 => k_is)
      (case z10 => k_is)
      (case z11 => k_is)
      (case z12 => k_is)
      (case z13 => k_is)
      (case z14 => k_is)
      (case z15 => k_is)
      (case z16 => k_is)
    have Gc : Hv.Gc mg := by
      refine' ⟨Hv.gk_str KX G ?a, Hv.gk_str KX G ?b, Hv.gk_int KX G ?c, Hv.gk_int KX G ?d⟩
      (case a => k_is); (case b => k_is); (case c => k_is); (case d => k_is)
    refine' Hv.gp_k KX G ?pa ?pl ?po (fun pa GP => ?_); (case pa => k_is); (case pl => k_is); (case po => exact Hv.plain_rel)
    obtain ⟨di, dr, dl, dc, SC⟩ : ∃ di dr dl dc, Hv.ScC _ mg _ _ _ _ _ _ di dr dl dc := by
      refine' Hv.sc_mk KX G ?saC ?spg ?shd ?spo ?ssa ?smk ?skc ?sna ?sa1 ?si1 ?sl1 ?sc1 ?sk1 ?sa2 ?si2 ?sl2 ?sc2 ?sk2 ?sa3 ?si3 ?sl3 ?sc3 ?sk3 ?sa4 ?sg4 ?st4 ?sr4 ?sl4 ?sc4 ?sk4
      (case saC => k_is)
      (case spg => k_is)
      (case shd => k_is)
      (case spo => k_is)
      (case ssa => k_is)
      (case smk => k_is)
      (case skc => k_is)
      (case sna => k_is)
      (case sa1 => k_is)
      (case si1 => k_is)
      (case sl1 => k_is)
      (case sc1 => k_is)
      (case sk1 => k_is)
      (case sa2 => k_is)
      (case si2 => k_is)
      (case sl2 => k_is)
      (case sc2 => k_is)
      (case sk2 => k_is)
      (case sa3 => k_is)
      (case si3 => k_is)
      (case sl3 => k_is)
      (case sc3 => k_is)
      (case sk3 => k_is)
      (case sa4 => k_is)
      (case sg4 => k_is)
      (case st4 => k_is)
      (case sr4 => k_is)
      (case sl4 => k_is)
      (case sc4 => k_is)
      (case sk4 => k_is)
    obtain ⟨CI, CH, CS, ES⟩ : ∃ CI CH CS, Hv.ErS PySem.Challenge.rw_hookvows_k30_what_is_an_act.prog _ mg CI CH CS := by
      refine' Hv.ers_mk KX G ?eaC ?ekC ?eiq ?eov ?ehd ?esa ?ega ?egg ?eexC ?etyC ?enf ?esubB ?esup ?emroC ?eopq ?esup0 ?etop ?eaI ?etI ?elI ?ecI ?elc ?ev2 ?efe ?elcc ?ebi ?ehh ?eas ?eeb ?easg ?en1 ?en2 ?en3 ?en4 ?en5 ?en8 ?eha ?ehn ?ehtk ?ehm ?eaH ?eaS ?ekh ?eks ?eex
      (case eaC => k_is)
      (case ekC => k_is)
      (case eiq => kernel_rfl)
      (case eov => kernel_rfl)
      (case ehd => k_is)
      (case esa => k_is)
      (case ega => k_is)
      (case egg => k_is)
      (case eexC => k_is)
      (case etyC => k_is)
      (case enf => k_is)
      (case esubB => k_is)
      (case esup => kernel_rfl)
      (case emroC => k_is)
      (case eopq => k_is)
      (case esup0 => k_is)
      (case etop => exact rfl)
      (case eaI => k_is)
      (case etI => k_is)
      (case elI => k_is)
      (case ecI => k_is)
      (case elc => k_is)
      (case ev2 => exact rfl)
      (case efe => first | exact rfl | decide +kernel)
      (case elcc => k_is)
      (case ebi => exact fun y us hl => match us, hl with | [_], _ => rfl)
      (case ehh => exact rfl)
      (case eas => exact rfl)
      (case eeb => exact rfl)
      (case easg => exact ⟨_, _, _, _, _, rfl, rfl⟩)
      (case en1 => exact rfl)
      (case en2 => exact rfl)
      (case en3 => exact rfl)
      (case en4 => exact rfl)
      (case en5 => decide +kernel)
      (case en8 => exact rfl)
      (case eha => k_is)
      (case ehn => k_is)
      (case ehtk => k_is)
      (case ehm => k_is)
      (case eaH => k_is)
      (case eaS => k_is)
      (case ekh => kernel_rfl)
      (case eks => kernel_rfl)
      (case eex => kernel_rfl)
    have e2 := hmg.symm.trans mlaw
    injection e2 with e3
    injection e3 with e4
    subst e4
    refine ⟨fdl, fun y u => by subst efd; exact .of_eq rfl, fun base _ _ => ?_⟩
    have c1 := Hv.ok_is_integer (P := PySem.Challenge.rw_hookvows_k30_what_is_an_act.prog) (w := w) (base := base) D_is_integer T
    have c2 := Hv.ok_is_name (P := PySem.Challenge.rw_hookvows_k30_what_is_an_act.prog) (w := w) (base := base) D_is_name T Gc
    have c3 := Hv.ok_is_list (P := PySem.Challenge.rw_hookvows_k30_what_is_an_act.prog) (w := w) (base := base) D_is_list T
    have c4 := Hv.ok_is_act D_is_act T Gc GP c2 c1
    have c5 := Hv.ok_is_row D_is_row T c3 c4
    have c6 := Hv.ok_draw (P := PySem.Challenge.rw_hookvows_k30_what_is_an_act.prog) (w := w) (base := base) D__law_draw T
    have c7 := Hv.ok_pick D__law_pick T c6
    have c8 := Hv.ok_label D__law_label T c6 c7
    have c9 := Hv.ok_odd_digit D__law_odd_digit T c7
    have c10 := Hv.ok_odd_label D__law_odd_label T c6 c7 c8
    have c11 := Hv.ok_act D__law_act T c6 c8
    have c12 := Hv.ok_spoilt D__law_spoilt T c6 c7 c10 c9
    have c13 := Hv.ok_is_label (P := PySem.Challenge.rw_hookvows_k30_what_is_an_act.prog) (w := w) (base := base) D__law_is_label T
    have c14 := Hv.ok_law_is_act D__law_is_act T c13
    have c15 := Hv.ok_init SC T ES.ec c5
    have c16 := Hv.ok_told D__law_told T SC ES c15
    have c17 := Hv.ok_rows_right D__law_rows_right T c6 c7 c11 c14 c16
    have c18 := Hv.ok_right D__law_right D_is_act T c6 c11 c12 c14 c4 c17
    have c19 := Hv.ok_pot (P := PySem.Challenge.rw_hookvows_k30_what_is_an_act.prog) (w := w) (base := base) D__law_pot T
    exact Hv.ok_law D_law T c19 c18

