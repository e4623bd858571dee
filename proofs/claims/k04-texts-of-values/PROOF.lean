import PyProof.Rows.All
import Wide.All
import OpenK.AllK
import Wide.FinOn
import HandS.ForMost
import HandS.ForExc
import PySem.PyData
import KE.DataEq
import KE.LtData
import KE.DataAny
import KE.DataMinKey
import PyProof.ReprRoads
import HandS.List
import HandS.Wide
import HandS.Text
import HandS.StrMore
import HandS.Evl
import HandS.Style
import HandS.More
import HandS.TupAny
import KE.DataCmp
import KE.DataIsa
import KE.SortData
import KE.KRevSl
import HandS.SetFor
import HandS.Strs
import HandS.SortInts
import PyProof.Rows.SortWalk
import PyProof.StrBlock2
import HandS.Iter
import HandS.ExcInit
import HandS.ExcSuper
import HandS.ExcOwn
import HandS.ExcField
import KE.KExcSuper
import KE.KSuper
import KE.KExcIs
import HandS.IsInst
import HandS.Dict
import HandS.Small
import HandS.HotCalls
import HandS.ExcInitHot
import HandS.ExcCtx
import HandS.RaiseMore
import HandS.FStr
import HandS.Codes
import KE.IntTextLaws
import KE.OsScanText
import PyProof.StrLawsAffix
import PyProof.FitsInt
import PySem.Challenge.RW_ringclause_k04_texts_of_values
import PyProof.Rows.StrJoinRep
section
set_option Elab.async false
set_option linter.all false
set_option maxRecDepth 100000
set_option maxHeartbeats 1000000
/-! DG: promises of defs that are called where no repr is under way (so repr of containers may be told), their calls, the end of a law. -/
namespace DG
open PySem PySem.Spec PyProof.Rows L2

abbrev St := L2.St
/-- no repr is under way -/
def Clr (A : Around) : Prop := A.guards = some []
/-- the def at f keeps the promise sp where no repr is under way -/
structure FnG (P : Program) (w : World) (K : PySem.W.Frag) (mg : Str → Option Value) (base : Heap) (CX : CXT) (k : Nat) (f : Addr) (fd : FuncData) (ps : List Str) (sp : Sp) : Prop where
  arity : ∀ vs H Q E, sp vs H Q E → vs.length = ps.length
  goes : ∀ (A : Around) (o : List Env) (s : Shared) (H : Hp) (as : Args) (us : List Value) (vs : List V) (Q : VK) (E : XK),
    Clr A → Room k A → Env0 P w K mg base A o s H → BindsTo s fd as (ps.zip us) → Vals vs us → sp vs H Q E → codeAny (model P w) A (.call (.ref f) as) (CR CX o P w H s Q E) s
theorem FnG.mono {P : Program} {w : World} {K : PySem.W.Frag} {mg : Str → Option Value} {base : Heap} {CX : CXT} {j k : Nat} {f : Addr} {fd : FuncData} {ps : List Str} {sp : Sp} (F : FnG P w K mg base CX j f fd ps sp) (h : j ≤ k) :
    FnG P w K mg base CX k f fd ps sp := ⟨F.arity, fun A o s H as us vs Q E c r => F.goes A o s H as us vs Q E c (r.mono h)⟩
theorem FnG.of {P : Program} {w : World} {K : PySem.W.Frag} {mg : Str → Option Value} {base : Heap} {CX : CXT} {k : Nat} {f : Addr} {fd : FuncData} {ps : List Str} {sp : Sp} (F : FnOk P w K mg base CX k f fd ps sp) : FnG P w K mg base CX k f fd ps sp :=
  ⟨F.len, fun A o s H as us vs Q E _ => F.run A o s H as us vs Q E⟩

section
variable {X : Cx} {CX : CXT} {k : Nat} {f : Addr} {fd : FuncData} {ps : List Str} {sp : Sp} {dvs : List V} {ds : List Value} {E : XK} {ES : St → XK} {x : Str} {p pos : Pos} {e : Expr} {es : List Expr} {t : TA}
theorem fnG_runs {pins : List (Addr × Obj)} {σ : St} {H : Hp} {s : Shared} {Q : VK} {us : List Value} {vs : List V} (F : FnG X.prog X.w X.K X.mg X.base CX k f fd ps sp) (c : Clr X.A) (hr : Room k X.A) (hb : Binds X.K fd ps ds)
    (hd : Vals dvs ds) (E : XK) (hx : PassesAt CX X σ E) (I : Inv X pins σ H s) (r : Vals vs us) (h : sp (vs ++ dvs) H Q E) : wpAny (model X.prog X.w) X.A (call (.ref f) us) (EP X pins σ Q) X.xe s := by
  have both := r.append hd
  have len : (us ++ ds).length = ps.length := (both.length.symm).trans (F.arity _ _ _ _ h)
  have go := F.goes X.A X.stack s H ⟨us, []⟩ (us ++ ds) (vs ++ dvs) Q E c hr I.env0 (hb s us I.kIn len) both h
  refine wpAny_call (codeAny_mono go fun r s' q => ?_)
  rcases r with e | fl
  · exact hx pins H s e s' I q
  · cases fl <;> first | exact I.after q | exact False.elim q
/-- f(e, ..), the reading that of pe_callS -/
theorem pe_callG (F : FnG X.prog X.w X.K X.mg X.base CX k f fd ps sp) (c : Clr X.A) (hr : Room k X.A) (hg : Gl X x) (hm : X.mg x = some (.ref f)) (hk : PySem.W.keepIn X.K (.ref f) = true) (hb : Binds X.K fd ps [])
    (hx : ∀ σ, PassesAt CX X σ (ES σ)) (ha : PA X (e :: es) t) (hdb : (x == ("__debug__" : Str)) = false := by decide)
    (he : starEach (e :: es) X.env = (false, eval e X.env) :: starEach es X.env := by rfl) (hpl : (backTo pos (starEach es X.env)).any (·.1) = false := by rfl) : PE X (.Call (.Name x p) (e :: es) [] pos) (tCallS sp ES t) :=
  ⟨fun pins s σ H Q I h => wpAny_Call_Name_kw (ld_glob I hg hm (PySem.W.callWith_K (h₀ := X.base) I.ok.mod.kin hk
    (thn (ha.run pos pins s σ H _ I h) fun us s1 ⟨vs, H1, I1, r, q⟩ => ⟨I1.kIn, fnG_runs F c hr hb .nil (ES σ) (hx σ) I1 r (by rw [List.append_nil]; exact q)⟩) he hpl) hdb)⟩
/-- f() -/
theorem pe_callG0 (F : FnG X.prog X.w X.K X.mg X.base CX k f fd ps sp) (c : Clr X.A) (hr : Room k X.A) (hg : Gl X x) (hm : X.mg x = some (.ref f)) (hk : PySem.W.keepIn X.K (.ref f) = true) (hb : Binds X.K fd ps [])
    (hx : ∀ σ, PassesAt CX X σ (ES σ)) (hdb : (x == ("__debug__" : Str)) = false := by decide) : PE X (.Call (.Name x p) [] [] pos) (tCallS sp ES tNil) :=
  ⟨fun pins s σ H Q I h => wpAny_Call_Name_kw (ld_glob I hg hm (PySem.W.callWith_K0 I.kIn hk (fnG_runs (us := []) F c hr hb .nil (ES σ) (hx σ) I .nil (by rw [List.append_nil]; exact h))) hdb)⟩
end
/-- nothing is let out -/
theorem passN {X : Cx} (σ : St) : PassesAt CX0 X σ E0 := fun _ _ _ _ _ _ h => h.elim

section
variable {P : Program} {w : World} {K : PySem.W.Frag} {mg : Str → Option Value} {base : Heap} {CX : CXT} {k : Nat} {f : Addr} {fd : FuncData} {N ps : List Str} {sp : Sp}
/-- a def's promise from the walk of its body -/
theorem fnG_mk {x qual : Str} {st : Stmt} (F : Fun K x qual st f fd) (S : FnScope N ps (defScope st)) (len : ∀ vs H Q E, sp vs H Q E → vs.length = ps.length)
    (body : ∀ (cdv : Value) (A : Around) (o : List Env) (s : Shared) (H : Hp) (vs : List V) (Q : VK) (E : XK), Clr (A.deeper (envOfC qual (defScope st) s.heap.objs.size f cdv)) → Room k (A.deeper (envOfC qual (defScope st) s.heap.objs.size f cdv)) → sp vs H Q E →
      ∃ t, PSs (cxOf CX P w K mg base N qual (defScope st) f cdv A o s H E) (defBody st) t ∧ t { nx := fun _ H' => Q .non H', rt := Q } (L2.start N vs) H) : FnG P w K mg base CX (k + 1) f fd ps sp := by
  obtain ⟨oc, od, kV, doc, pm, an, cdv, ct, osl, rfl, lk, hcd⟩ := F.ex
  refine ⟨len, fun A o s H as us vs Q E c hr e0 hb r hsp => ?_⟩
  have inK : K.In s.heap := e0.mod.kin.keeps fun b q e => (e0.bs b q e).1
  have places : ∀ y ∈ ps.zip us, (defScope st).names.lookup y.1 = some .local ∨ ((defScope st).names.lookup y.1 = some .cell ∧ ((cellsFrom (s.heap.objs.size + 1) (defScope st).names []).lookup y.1).isSome = true) := by
    rintro ⟨n, v⟩ hy
    have z := S.par n (List.of_mem_zip hy).1
    exact z.imp id fun q => ⟨q, PySem.W.cellsFrom_some _ _ _ (.inl q)⟩
  refine codeAny_call_function hr.depth (inK _ _ lk) rfl S.co S.gen rfl (PySem.W.codeRec_of inK hcd) (hb _ _ _ _ ?_)
  refine wpAny_newFunctionEnv_cells S.kind places fun env he s1 x => ?_
  subst he
  refine ⟨(e0.mod.nolimit.keeps fun b q e => (e0.bs b q e).1).keeps x.toInCall.keep, codeAny_func ?_⟩
  obtain ⟨t, walk, reads⟩ := body cdv A o s H vs Q E c (hr.deeper _) hsp
  have I := inv_start (CX := CX) (P := P) (E := E) S hr.hd e0 (len _ _ _ _ hsp) r x
  refine wpAny_mono (walk.run [] s1 (L2.start N vs) H _ I reads) (fun fl s' hs => ?_) fun e s' hs => hs
  match fl, hs with
  | .ret u, ⟨v, σ', H', J, rv, q⟩ => exact ⟨v, H', J.os, J.bare, J.base, J.hok, rv, q⟩
  | .next, ⟨σ', H', J, q⟩ => exact ⟨V.non, H', J.os, J.bare, J.base, J.hok, rfl, q⟩
  | .brk, ⟨_, _, _, q⟩ => exact q.elim
  | .cont, ⟨_, _, _, q⟩ => exact q.elim
theorem fnG_mk0 {x qual : Str} {st : Stmt} (F : Fun K x qual st f fd) (S : FnScope N ps (defScope st)) (len : ∀ vs H Q E, sp vs H Q E → vs.length = ps.length)
    (body : ∀ (cdv : Value) (A : Around) (o : List Env) (s : Shared) (H : Hp) (vs : List V) (Q : VK) (E : XK), Clr (A.deeper (envOfC qual (defScope st) s.heap.objs.size f cdv)) → Room k (A.deeper (envOfC qual (defScope st) s.heap.objs.size f cdv)) → sp vs H Q E →
      ∃ t, PSs (cxOf CX0 P w K mg base N qual (defScope st) f cdv A o s H E).nox (defBody st) t ∧ t { nx := fun _ H' => Q .non H', rt := Q } (L2.start N vs) H) : FnG P w K mg base CX0 (k + 1) f fd ps sp :=
  fnG_mk F S len fun cdv A o s H vs Q E c r h => by
    obtain ⟨t, a, b⟩ := body cdv A o s H vs Q E c r h
    exact ⟨t, a.nox, b⟩
end

/-- the law's def is called with the script -/
theorem law_ends {P : Program} {w : World} {K : PySem.W.Frag} {mg mb : Str → Option Value} {CX : CXT} {k : Nat} {fa a : Addr} {fd : FuncData} {x : Str} {sp : Sp} {s₁ : Shared} {vs : List Value} {ns : List Int}
    (inK : K.In s₁.heap) (hns : s₁.heap.Ns mainGlobals mg) (hb : s₁.heap.Ns builtinsNs mb) (hbb : ∀ x : Str, x ≠ "__name__" → mb x = bootBuiltins x) (lim : s₁.heap.NoLimit) (hg : s₁.gens = #[])
    (ha : s₁.heap.get? a = some { cls := .type "list", data := .seq vs.toArray }) (hi : IntsAre vs ns) (hl : ns.length ≤ sizeLine) (hr : Room k callerA)
    (F : ∀ base : Heap, K.In base → base.Ns mainGlobals mg → FnG P w K mg base CX k fa fd [x] sp) (binds : ∀ (s : Shared) (u : Value), BindsTo s fd ⟨[u], []⟩ [(x, u)])
    (hsp : ∀ H : Hp, Only H → SqL K H a (ns.map V.int) → sp [.ref a] H (fun v _ => v = .bl true) fun _ _ _ => False)
    (hCX : ∀ H e s', CX [] H s₁ (fun _ _ _ => False) e s' → False) :
    codeAny (model P w) callerA (.call (.ref fa) ⟨[.ref a], []⟩) (fun r s' => r = .ok (.ret (.bool true)) ∧ OldK s₁.heap s'.heap ∧ s'.os = s₁.os ∧ AllBare s'.gens) s₁ := by
  have rv := vals_ints hi
  have lenV := hi.length
  -- H tracks the script or nothing
  have from_ : ∀ H : Hp, Only H → SqL K H a (ns.map V.int) → HOk P w H s₁.heap → (∀ b, H b ≠ none → b = a ∧ K.lookup a = none) →
      codeAny (model P w) callerA (.call (.ref fa) ⟨[.ref a], []⟩) (fun r s' => r = .ok (.ret (.bool true)) ∧ OldK s₁.heap s'.heap ∧ s'.os = s₁.os ∧ AllBare s'.gens) s₁ := by
    intro H only seq hok one
    have untracked : ∀ {b : Addr}, b ≠ a → H b = none := fun {b} ne => Classical.byContradiction fun z => ne (one b z).1
    have ns_ : ∀ {b : Addr} {m : Str → Option Value}, s₁.heap.Ns b m → (hidT s₁.heap H).Ns b m := by
      rintro b m ⟨o, es, ep, e, d, r⟩
      refine ⟨o, es, ep, hidT_get e (untracked fun z => ?_), d, r⟩
      subst z
      rw [ha] at e
      cases e
      cases d
    have k_ : K.In (hidT s₁.heap H) := by
      intro b o e
      refine hidT_get (inK b o e) (Classical.byContradiction fun z => ?_)
      obtain ⟨h1, h2⟩ := one b z
      rw [h1, h2] at e
      cases e
    obtain ⟨mc, c1, c2⟩ := lim
    have mod_ : Mod K mg (hidT s₁.heap H) := ⟨k_, ns_ hns, ⟨mb, ns_ hb, hbb⟩, ⟨mc, ns_ c1, c2⟩⟩
    have env_ : Env0 P w K mg (hidT s₁.heap H) callerA [] s₁ H :=
      { frames := rfl, mod := mod_, bs := fun b o e => of_hidT e, bsz := Nat.le_of_eq (hidT_size _ _), funs := trivial, frf := fun b hb => (by cases hb), hok := hok, bare := .of_eq hg }
    have go := (F _ k_ (ns_ hns)).goes callerA [] s₁ H ⟨[.ref a], []⟩ [.ref a] [.ref a] _ _ rfl hr env_ (binds s₁ (.ref a)) (.cons rfl .nil) (hsp H only seq)
    refine codeAny_mono go fun r s' h => ?_
    match r, h with
    | .error e, h => exact (hCX H e s' h).elim
    | .ok .next, h => exact False.elim h
    | .ok .brk, h => exact False.elim h
    | .ok .cont, h => exact False.elim h
    | .ok (.ret u), ⟨v, H', os, bare, un, hok', rv', q⟩ =>
      have q' : v = .bl true := q
      subst q'
      cases rv'
      refine ⟨rfl, OldK.of_keep fun b o e => ?_, os, bare⟩
      rcases only b with z | ⟨ob, xs, z⟩
      · exact un.keep b o e z (fun h => by cases h) (fun h => by cases h)
      · have old := (hok b _ z).1
        have new := (hok' b _ (un.frzs b ob _ z)).1
        exact new.trans (old.symm.trans e)
  cases hk : K.lookup a with
  | some o =>
    have e := inK a o hk
    rw [ha] at e
    cases e
    refine from_ (fun _ => none) (fun _ => .inl rfl) (.inr ⟨_, vs.toArray, _, hk, rfl, rfl, rfl, by rw [List.size_toArray, lenV]; exact hl, by simpa using rv⟩) (fun b u z => ?_) fun b z => absurd rfl z
    cases (show (none : Option HO) = some u from z)
  | none =>
    have at_ : (fun b => if b = a then some (HO.frz { cls := .type "list", data := .seq vs.toArray } (.lst (ns.map V.int))) else none : Hp) a = some (.frz { cls := .type "list", data := .seq vs.toArray } (.lst (ns.map V.int))) := if_pos rfl
    refine from_ (fun b => if b = a then some (HO.frz { cls := .type "list", data := .seq vs.toArray } (.lst (ns.map V.int))) else none) (fun b => ?_) (.inl (.inr ⟨_, at_⟩)) (fun b u z => ?_) (fun b z => ⟨Classical.byContradiction fun ne => z (if_neg ne), hk⟩)
    · rcases Nat.decEq b a with h | h
      · exact .inl (if_neg h)
      · exact .inr ⟨_, _, if_pos h⟩
    · rcases Nat.decEq b a with h | h
      · cases (if_neg h).symm.trans z
      · cases (if_pos h).symm.trans z
        subst h
        exact ⟨ha, by rw [List.length_map]; exact hl, vs, _, rv, ha⟩
/-- the goal that k_head leaves -/
theorem walkG_of {l : PySem.W.OpenLaw} {n k : Nat} {q : Program} {loose : List Str} {XP : (Str → Option Value) → Heap → Prop} {YP : World → Heap → Prop} {d : DefRec} {K : Params → PySem.W.Frag} {CX : World → CXT} {sp : World → Sp} {x : Str}
    (hn : l.most = some n) (hn2 : n ≤ sizeLine) (hdf : d.params.defaults = []) (hr : Room k callerA) (hY : ∀ (w : World) (h : Heap), YP w h → (K w.params).In h)
    (F : ∀ (w : World) (mg : Str → Option Value) (fa : Addr) (h : Heap), (K w.params).In h → h.Ns mainGlobals mg → mg d.name = some (.ref fa) →
      ∃ fd : FuncData, (∀ (s : Shared) (u : Value), BindsTo s fd ⟨[u], []⟩ [(x, u)]) ∧ ∀ base : Heap, (K w.params).In base → base.Ns mainGlobals mg → FnG l.prog w (K w.params) mg base (CX w) k fa fd [x] (sp w))
    (hsp : ∀ (w : World) (H : Hp) (a : Addr) (ns : List Int), ns.length ≤ n → Only H → SqL (K w.params) H a (ns.map V.int) → sp w [.ref a] H (fun v _ => v = .bl true) fun _ _ _ => False)
    (hCX : ∀ (w : World) (H : Hp) (s : Shared) (e : Value) (s' : Shared), CX w [] H s (fun _ _ _ => False) e s' → False) :
    PySem.W.WalkO q loose XP YP l.row.toRowW d [] (fun f vs => PySem.call f vs) :=
  Att.attach_call hn hdf fun w s₀ s₁ mg mb fa o pm cd doc a vs ns G Y ho hd hcd hmg hobj hints hlen hg => by
    have inK := hY w _ Y
    obtain ⟨fd, hb, hF⟩ := F w mg fa _ inK G.T.g hmg
    exact law_ends inK G.T.g G.T.b G.T.builtins G.T.nolimit hg hobj hints (Nat.le_trans hlen hn2) hr hF hb (fun H hO hS => hsp w H a ns hlen hO hS) fun H e s' => hCX w H s₁ e s'
end DG
end
section
set_option Elab.async false
set_option linter.all false
/-! J0: a small language over plain data, and what it does: the clean semantics that the walk is turned into. -/
namespace IL
open PySem

abbrev D := PyData
/-- what one owns and may change: a list, a dict -/
inductive Ow where
  | lst (ds : List D)
  | dct (kvs : List (L2.Key × D))
/-- a slot: nothing known, data that stays, an owned thing, the exception that a suite holds -/
inductive Slot where
  | un
  | im (d : D)
  | ow (o : Ow)
  | xc (c : Nat) (fs : List (Str × D))
abbrev Env := List Slot
/-- a value: data that stays, the thing that a slot owns, a new thing -/
inductive Val where
  | dat (d : D)
  | own (i : Nat)
  | new (o : Ow)
/-- an answer: a value and the slots behind it; an exception; nothing is claimed -/
inductive R (α : Type) where
  | ok (a : α) (δ : Env)
  | ex (c : Nat) (fs : List (Str × D)) (δ : Env)
  | no
def R.bind {α β : Type} : R α → (α → Env → R β) → R β
  | .ok a δ, k => k a δ
  | .ex c fs δ, _ => .ex c fs δ
  | .no, _ => .no
@[simp] theorem bind_ok {α β : Type} (a : α) (δ : Env) (k : α → Env → R β) : (R.ok a δ).bind k = k a δ := rfl
@[simp] theorem bind_ex {α β : Type} (c : Nat) (fs : List (Str × D)) (δ : Env) (k : α → Env → R β) : (R.ex c fs δ).bind k = .ex c fs δ := rfl
@[simp] theorem bind_no {α β : Type} (k : α → Env → R β) : (R.no : R α).bind k = .no := rfl
/-- a def's answer: what it returns, its parameters' slots behind it -/
inductive RV where
  | dat (d : D)
  | new (o : Ow)
inductive CR where
  | ret (v : RV) (ss : Env)
  | ex (c : Nat) (fs : List (Str × D)) (ss : Env)
  | no
structure Cfg where
  /-- parameters -/
  kp : Nat
  call : Nat → Env → CR
inductive Bop where
  | add | sub | mul | fdiv | mod | pow
  deriving DecidableEq
inductive Cop where
  | eq | ne | lt | le | gt | ge | isin | notin
  deriving DecidableEq
/-- built-in functions -/
inductive Fn where
  | len | str | int | abs | sum | min2 | max2 | any | all | tuple | list | repr | sorted | sortedSet | minLen
  deriving DecidableEq
/-- methods that change what a slot owns -/
inductive Mt where
  | append | pop | insert
  deriving DecidableEq
/-- kinds that isinstance asks for -/
inductive Kd where
  | int | bool | str | list | tuple
  deriving DecidableEq
/-- methods of a text alone, of a text and another value -/
inductive Tm where
  | upper | lower | strip | isdigit | isascii
  deriving DecidableEq
inductive Tm1 where
  | startswith | removeprefix | split | partition | join
  deriving DecidableEq
inductive Tg where
  | name (i : Nat)
  | tup (is : List Nat)
  deriving DecidableEq
mutual
inductive CE where
  | var (i : Nat) | int (i : Int) | str (s : Str) | bool (b : Bool) | none
  | fz (e : CE)
  | bin (o : Bop) (a b : CE) | neg (a : CE)
  | cmp (o : Cop) (a b : CE) | isN (a : CE) | notN (a : CE)
  | not (a : CE) | and (a b : CE) | or (a b : CE)
  | ite (c : CT) (a b : CE)
  | tup (es : CEs) | lst (es : CEs)
  | idx (a b : CE) | sli (a : CE) (lo hi : CO) | rev (a : CE)
  | call (f : Nat) (es : CEs)
  | bi (f : Fn) (es : CEs)
  | mt (m : Mt) (i : Nat) (es : CEs)
  | ext (i : Nat) (e : CE)
  | lc (e : CE) (g : Tg) (it : CI) (vs : List Nat)
  | lcIf (e : CE) (g : Tg) (it : CI) (c : CT) (vs : List Nat)
  | isa (a : CE) (ks : List Kd)
  | xf (i : Nat) (f : Str)
  | xis (i : Nat) (n : Str) (cs ns : List Nat)
  | dnew
  | dget (i : Nat) (k : CE)
  | dhas (i : Nat) (k : CE)
  | tm (m : Tm) (a : CE)
  | tm1 (m : Tm1) (a b : CE)
  | fst (es : CEs)
/-- tests -/
inductive CT where
  | tr (e : CE) | cmp (o : Cop) (a b : CE) | isN (a : CE) | notN (a : CE)
  | not (a : CT) | and (a b : CT) | or (a b : CT)
inductive CEs where
  | nil | cons (e : CE) (es : CEs)
inductive CO where
  | no | yes (e : CE)
inductive CI where
  | of (e : CE) | rng1 (e : CE) | rng2 (a b : CE)
end
mutual
inductive CS where
  | pass
  | set (g : Tg) (e : CE)
  | setI (i : Nat) (e1 e2 : CE)
  | exp (e : CE)
  | ret (e : CE) | retN
  | cond (c : CT) (a b : CB)
  | wh (c : CT) (a : CB)
  | loop (g : Tg) (it : CI) (a : CB)
  | brk | cont
  | dset (i : Nat) (k e : CE)
  | raise (c : Nat) (f : Str) (e : CE)
  | tryx (b : CB) (n : Str) (cs ns : List Nat) (i : Nat) (h : CB)
inductive CB where
  | nil | cons (s : CS) (b : CB)
end
/-! ### reading, changing slots -/
@[simp] def get (δ : Env) (i : Nat) : Slot := δ.getD i .un
/-- the data that a value is now -/
def cur (δ : Env) : Val → Option D
  | .dat d => some d
  | .new (.lst ds) => some (.list ds)
  | .own i => match δ[i]? with
    | some (.im d) => some d
    | some (.ow (.lst ds)) => some (.list ds)
    | _ => none
  | _ => none
/-- data that stays from now on -/
def dem (kp : Nat) : Val → Env → R D
  | .dat d, δ => .ok d δ
  | .new (.lst ds), δ => .ok (.list ds) δ
  | .own i, δ => match δ[i]? with
    | some (.im d) => .ok d δ
    | some (.ow (.lst ds)) => if kp ≤ i then .ok (.list ds) (δ.set i (.im (.list ds))) else .no
    | _ => .no
  | _, _ => .no
/-- a slot that may be stored to -/
def freeB (kp : Nat) (δ : Env) (i : Nat) : Bool := decide (kp ≤ i) || (match δ[i]? with
  | some (.ow _) => false
  | _ => true)
def wipeE (δ : Env) : List Nat → Env
  | [] => δ
  | v :: vs => (wipeE δ vs).set v .un
/-! ### operators -/
def binop : Bop → D → D → Option Val
  | .add, .int i, .int j => some (.dat (.int (i + j)))
  | .add, .str a, .str b => if a.length + b.length ≤ sizeLine then some (.dat (.str (a ++ b))) else none
  | .add, .list a, .list b => if a.length + b.length ≤ sizeLine then some (.new (.lst (a ++ b))) else none
  | .add, .tuple a, .tuple b => if a.length + b.length ≤ sizeLine then some (.dat (.tuple (a ++ b))) else none
  | .sub, .int i, .int j => some (.dat (.int (i - j)))
  | .mul, .str s, .int j => if 0 ≤ j ∧ j ≤ 1000 ∧ s.length ≤ 1000 then some (.dat (.str (Txt.mul s j))) else none
  | .mul, .int i, .int j => if (i.natAbs < 2 ^ 64 ∨ j.natAbs < 2 ^ 64) ∨ i.natAbs.log2 + j.natAbs.log2 < 1000000 then some (.dat (.int (i * j))) else none
  | .fdiv, .int i, .int j => if 0 < j ∧ j.natAbs.log2 < 9000 then some (.dat (.int (i / j))) else none
  | .mod, .int i, .int j => if 0 < j then some (.dat (.int (i % j))) else none
  | .pow, .int i, .int j => if 0 ≤ j ∧ j ≤ 1000000 ∧ i.natAbs < 2 ^ 64 then some (.dat (.int (i ^ j.toNat))) else none
  | _, _, _ => none
def plain2 (d e : D) : Bool := d.plain && e.plain && decide (min d.depth e.depth ≤ 60)
def orderd (d e : D) : Bool := PySem.W.alike d e && (match d with | .none => false | _ => true) && decide (min d.depth e.depth ≤ 60)
def memOk (d : D) (es : List D) : Bool := d.plain && PyData.plainAll es && decide (min (PyData.depthAll es) d.depth ≤ 60)
def mem (d : D) (es : List D) : Bool := es.any fun y => PyData.eqv y d
def isIn : D → D → Option Bool
  | d, .list es => if memOk d es = true then some (mem d es) else none
  | d, .tuple es => if memOk d es = true then some (mem d es) else none
  | .str c, .str z => match c.cps.toList with
    | [n] => some (decide (n ∈ z.cps.toList))
    | _ => none
  | _, _ => none
def cmpop : Cop → D → D → Option Bool
  | .eq, d, e => if plain2 d e = true then some (PyData.eqv d e) else none
  | .ne, d, e => if plain2 d e = true then some (!PyData.eqv d e) else none
  | .lt, d, e => if orderd d e = true then some (PySem.W.dataLt d e) else none
  | .gt, d, e => if orderd d e = true then some (PySem.W.dataLt e d) else none
  | .le, d, e => if orderd d e = true then some (!PySem.W.dataLt e d) else none
  | .ge, d, e => if orderd d e = true then some (!PySem.W.dataLt d e) else none
  | .isin, d, e => isIn d e
  | .notin, d, e => (isIn d e).map (! ·)
def truth : D → Option Bool
  | .none => some false
  | .bool b => some b
  | .int i => some (i != 0)
  | .str s => if s.length ≤ sizeLine then some (s.length != 0) else none
  | .list ds => some (!ds.isEmpty)
  | .tuple ds => some (!ds.isEmpty)
  | _ => none
def asInts : List D → Option (List Int)
  | [] => some []
  | .int i :: ds => (asInts ds).map (i :: ·)
  | _ => none
def asBools : List D → Option (List Bool)
  | [] => some []
  | .bool i :: ds => (asBools ds).map (i :: ·)
  | _ => none
def kitD (d : D) : Kd → Bool
  | .int => match d with
    | .int _ => true
    | .bool _ => true
    | _ => false
  | .bool => match d with
    | .bool _ => true
    | _ => false
  | .str => match d with
    | .str _ => true
    | _ => false
  | .list => match d with
    | .list _ => true
    | _ => false
  | .tuple => match d with
    | .tuple _ => true
    | _ => false
def isaD (ks : List Kd) (d : D) : Bool := ks.any (kitD d)
/-- a dict's keys: texts -/
def keyD : D → Option L2.Key
  | .str s => some (.inr s)
  | _ => none
def atD (kvs : List (L2.Key × D)) (k : L2.Key) : Option D := (kvs.find? fun kv => decide (kv.1 = k)).map (·.2)
def putD (kvs : List (L2.Key × D)) (k : L2.Key) (d : D) : List (L2.Key × D) := if (kvs.any fun kv => decide (kv.1 = k)) = true then kvs.map fun kv => if kv.1 = k then (kv.1, d) else kv else kvs ++ [(k, d)]
def intsD (ns : List Int) : List D := ns.map PyData.int
/-- ints, ascending -/
def sortI (ns : List Int) : List Int := ns.mergeSort fun a b => decide (a ≤ b)
/-- data, ascending -/
def sortD (ds : List D) : List D := ds.mergeSort fun a b => !PySem.W.dataLt b a
def tup1 : D → Bool
  | .tuple (_ :: _) => true
  | _ => false
def notTupN : D → Bool
  | .tuple _ => false
  | .none => false
  | _ => true
/-- may be sorted -/
def sortOk (ds : List D) : Bool := ds.all (fun a => ds.all fun b => PySem.W.alike a b) && ((ds.all tup1 || ds.all notTupN) && (decide (ds.length ≤ sizeLine) && ds.all fun a => decide (a.depth ≤ 50)))
/-- each once -/
def uniqI : List Int → List Int
  | [] => []
  | n :: ns => if n ∈ ns then uniqI ns else n :: uniqI ns
/-- the first of the items whose length is the least -/
def lenD : D → Nat
  | .list es => es.length
  | .tuple es => es.length
  | _ => 0
def rowsD : List D → Bool
  | [] => true
  | .list _ :: ds => rowsD ds
  | .tuple _ :: ds => rowsD ds
  | _ => false
def minLenAt (ds : List D) : Nat := PySem.argBest (fun i j => decide ((lenD (ds.getD i .none) : Int) < (lenD (ds.getD j .none) : Int))) (ds.length - 1)
def fn : Fn → List D → Option Val
  | .len, [.list ds] => some (.dat (.int ds.length))
  | .len, [.tuple ds] => some (.dat (.int ds.length))
  | .len, [.str s] => if s.length ≤ sizeLine then some (.dat (.int s.length)) else none
  | .str, [.int i] => if i.natAbs.log2 < 1920 then some (.dat (.str (PySem.Str.ofString (toString i)))) else none
  | .str, [.str s] => some (.dat (.str s))
  | .int, [.str s] => if s.length ≤ 640 then (intText? s).map fun i => .dat (.int i) else none
  | .int, [.int i] => some (.dat (.int i))
  | .int, [.bool b] => some (.dat (.int (if b = true then 1 else 0)))
  | .abs, [.int i] => some (.dat (.int (if i < 0 then -i else i)))
  | .sum, [.list ds] => (asInts ds).map fun ns => .dat (.int ns.sum)
  | .min2, [.int i, .int j] => some (.dat (.int (if j < i then j else i)))
  | .max2, [.int i, .int j] => some (.dat (.int (if j > i then j else i)))
  | .any, [.list ds] => (asBools ds).map fun bs => .dat (.bool (bs.any id))
  | .all, [.list ds] => (asBools ds).map fun bs => .dat (.bool (bs.all id))
  | .tuple, [.list ds] => some (.dat (.tuple ds))
  | .tuple, [.tuple ds] => some (.dat (.tuple ds))
  | .list, [.list ds] => some (.new (.lst ds))
  | .list, [.tuple ds] => some (.new (.lst ds))
  | .repr, [d] => if d.showable = true ∧ d.depth ≤ 60 ∧ d.shown.length ≤ sizeLine then some (.dat (.str d.shown)) else none
  | .sorted, [.list ds] => match asInts ds with
    | some ns => some (.new (.lst (intsD (sortI ns))))
    | none => if sortOk ds = true then some (.new (.lst (sortD ds))) else none
  | .sorted, [.tuple ds] => (asInts ds).map fun ns => .new (.lst (intsD (sortI ns)))
  | .sortedSet, [.list ds] => (asInts ds).bind fun ns => if ns.length < 60 then some (.new (.lst (intsD (sortI (uniqI ns))))) else none
  | .sortedSet, [.tuple ds] => (asInts ds).bind fun ns => if ns.length < 60 then some (.new (.lst (intsD (sortI (uniqI ns))))) else none
  | .minLen, [.list ds] => if rowsD ds = true then (match ds with | [] => some (.dat .none) | _ => (ds[minLenAt ds]?).map .dat) else none
  | _, _ => none
def idxop : D → D → Option D
  | .list ds, .int i => L2.atI ds i
  | .tuple ds, .int i => L2.atI ds i
  | .str s, .int i => if s.length ≤ sizeLine then (L2.atI s.cps.toList i).map fun c => .str ⟨#[c]⟩ else none
  | _, _ => none
def cutD {α : Type} (xs : List α) (lo hi : Option Int) : List α := (xs.drop (HT.sIx xs.length 0 lo)).take (HT.sIx xs.length xs.length hi - HT.sIx xs.length 0 lo)
def sliop (lo hi : Option Int) : D → Option Val
  | .list ds => some (.new (.lst (cutD ds lo hi)))
  | .tuple ds => some (.dat (.tuple (cutD ds lo hi)))
  | .str s => if s.length ≤ sizeLine then some (.dat (.str (L2.cutS s lo hi))) else none
  | _ => none
def revop : D → Option Val
  | .list ds => some (.new (.lst ds.reverse))
  | _ => none
/-- a method on the list that is owned: what it gives, what the list is behind it -/
def mtop : Mt → List D → List D → Option (D × List D)
  | .append, ds, [d] => if ds.length < sizeLine then some (.none, ds ++ [d]) else none
  | .pop, ds, [] => (ds[ds.length - 1]?).map fun d => (d, ds.dropLast)
  | .insert, ds, [.int i, d] => if 0 ≤ i ∧ i < 2 ^ 63 ∧ ds.length < sizeLine then some (.none, ds.take i.toNat ++ [d] ++ ds.drop i.toNat) else none
  | _, _, _ => none
def asStrs : List D → Option (List Str)
  | [] => some []
  | .str s :: ds => (asStrs ds).map (s :: ·)
  | _ => none
def tmop : Tm → D → Option Val
  | .upper, .str s => if s.length ≤ 5592405 then some (.dat (.str (Txt.upper s))) else none
  | .lower, .str s => if s.length ≤ 5592405 then some (.dat (.str (Txt.lower s))) else none
  | .strip, .str s => if s.length ≤ sizeLine then some (.dat (.str (Txt.strip s))) else none
  | .isdigit, .str s => some (.dat (.bool (Txt.isdigit s)))
  | .isascii, .str s => some (.dat (.bool (Txt.isascii s)))
  | _, _ => none
def joinOk (s : Str) (ys : List Str) : Bool := decide ((ys.map (·.length)).sum + ys.length * s.length ≤ 16777216)
def tm1op (s : Str) : Tm1 → D → Option Val
  | .startswith, .str b => some (.dat (.bool (Txt.startswith s b)))
  | .removeprefix, .str b => if s.length ≤ sizeLine then some (.dat (.str (Txt.removeprefix s b))) else none
  | .split, .str b => if (b.length == 0) = false ∧ s.length + 2 ≤ sizeLine then some (.new (.lst ((Txt.split s b).map PyData.str))) else none
  | .partition, .str b => if (b.length == 0) = false ∧ s.length ≤ sizeLine then some (.dat (.tuple [.str (Txt.partition s b).1, .str (Txt.partition s b).2.1, .str (Txt.partition s b).2.2])) else none
  | .join, .list ds => (asStrs ds).bind fun ys => if joinOk s ys = true then some (.dat (.str (Txt.join s ys))) else none
  | .join, .tuple ds => (asStrs ds).bind fun ys => if joinOk s ys = true then some (.dat (.str (Txt.join s ys))) else none
  | _, _ => none
/-- a part of an f-string -/
def fmtD : D → Option Str
  | .str s => if s.length ≤ sizeLine then some s else none
  | .int i => if i.natAbs.log2 < 1920 then some (PySem.Str.ofString (toString i)) else none
  | _ => none
/-! ### targets -/
def bindAll (kp : Nat) : List Nat → List D → Env → Option Env
  | [], [], δ => some δ
  | i :: is, d :: ds, δ => if freeB kp δ i = true then bindAll kp is ds (δ.set i (.im d)) else none
  | _, _, _ => none
def bindT (kp : Nat) : Tg → D → Env → Option Env
  | .name i, d, δ => if freeB kp δ i = true then some (δ.set i (.im d)) else none
  | .tup is, .tuple ds, δ => bindAll kp is ds δ
  | _, _, _ => none
def optR {α : Type} (δ : Env) : Option α → R α
  | some a => .ok a δ
  | none => .no
/-- operators on what the values are now -/
def op1 {α : Type} (o : D → Option α) (x : Val) (δ : Env) : R α := optR δ ((cur δ x).bind o)
def op2 {α : Type} (o : D → D → Option α) (x y : Val) (δ : Env) : R α := optR δ ((cur δ x).bind fun d => (cur δ y).bind fun e => o d e)
def intD : D → Option Int
  | .int i => some i
  | _ => none
def isNoneD : D → Bool
  | .none => true
  | _ => false
def cmpV (o : Cop) (d e : D) : Option Val := (cmpop o d e).map fun b => .dat (.bool b)
def idxV (d e : D) : Option Val := (idxop d e).map .dat
def negV (d : D) : Option Val := (intD d).map fun i => .dat (.int (-i))
/-! ### expressions -/
/-- no exception leaves -/
def R.calm {α : Type} : R α → R α
  | .ok a δ => .ok a δ
  | _ => .no
/-- a comprehension's turns -/
def lcGo (kp : Nat) (g : Tg) (c : Env → R Bool) (e : Env → R D) (vs : List Nat) : List D → List D → Env → R (List D)
  | [], acc, δ => .ok acc δ
  | d :: ds, acc, δ => match bindT kp g d δ with
    | none => .no
    | some δ1 => (c δ1).calm.bind fun b δ2 => if b = true then (e δ2).calm.bind fun y δ3 => if acc.length < sizeLine then lcGo kp g c e vs ds (acc ++ [y]) (wipeE δ3 vs) else .no
      else lcGo kp g c e vs ds acc (wipeE δ2 vs)
def rngD (lo : Int) (n : Nat) : List D := (List.range n).map fun (i : Nat) => PyData.int (lo + (i : Int))
def rng1D : D → Option (List D)
  | .int j => if -(2 ^ 62) ≤ j ∧ j < 2 ^ 62 then some (rngD 0 j.toNat) else none
  | _ => none
def rng2D : D → D → Option (List D)
  | .int i, .int j => if -(2 ^ 62) ≤ i ∧ i < 2 ^ 62 ∧ -(2 ^ 62) ≤ j ∧ j < 2 ^ 62 then some (rngD i (j - i).toNat) else none
  | _, _ => none
def itemsD : D → Option (List D)
  | .list ds => some ds
  | .tuple ds => some ds
  | .str s => some (s.cps.toList.map fun c => .str ⟨#[c]⟩)
  | _ => none
def noX : Slot → Slot
  | .xc _ _ => .un
  | s => s
/-- the slots of the arguments -/
def argSlot (δ : Env) : Val → Slot
  | .dat d => .im d
  | .own i => get δ i
  | .new o => .ow o
/-- the slots behind a call -/
def putBack (δ : Env) : List Val → Env → Env
  | .own i :: as, s :: ss => putBack (match δ[i]? with
    | some (.ow _) => δ.set i s
    | _ => δ) as ss
  | _ :: as, _ :: ss => putBack δ as ss
  | _, _ => δ
def ownIx : List Val → List Nat
  | [] => []
  | .own i :: as => i :: ownIx as
  | _ :: as => ownIx as
def callR (cr : CR) (as : List Val) (δ : Env) : R Val := match cr with
  | .ret (.dat d) ss => .ok (.dat d) (putBack δ as ss)
  | .ret (.new o) ss => .ok (.new o) (putBack δ as ss)
  | .ex c fs ss => .ex c fs (putBack δ as ss)
  | .no => .no
def mtR (m : Mt) (i : Nat) (ds : List D) (δ : Env) : R Val := match δ[i]? with
  | some (.ow (.lst xs)) => (match mtop m xs ds with
    | some (d, ys) => .ok (.dat d) (δ.set i (.ow (.lst ys)))
    | none => .no)
  | _ => .no
def extR (i : Nat) (v : Val) (δ : Env) : R Val := match δ[i]?, v with
  | some (.ow (.lst xs)), .new (.lst es) => if xs.length + es.length ≤ sizeLine then .ok (.dat .none) (δ.set i (.ow (.lst (xs ++ es)))) else .no
  | _, _ => .no
/-- a dict at slot i -/
def dctAt (δ : Env) (i : Nat) : Option (List (L2.Key × D)) := match δ[i]? with
  | some (.ow (.dct kvs)) => some kvs
  | _ => none
def getDR (i : Nat) (v : Val) (δ : Env) : R Val := op1 (fun d => (dctAt δ i).bind fun kvs => (keyD d).bind fun k => (atD kvs k).map .dat) v δ
def hasDR (i : Nat) (v : Val) (δ : Env) : R Val := op1 (fun d => (dctAt δ i).bind fun kvs => (keyD d).map fun k => .dat (.bool (atD kvs k).isSome)) v δ
section
variable (C : Cfg)
mutual
def ev : CE → Env → R Val
  | .var i => fun δ => match δ[i]? with
    | some (.im d) => .ok (.dat d) δ
    | some (.ow _) => .ok (.own i) δ
    | some (.xc _ _) => .ok (.own i) δ
    | _ => .no
  | .int i => fun δ => .ok (.dat (.int i)) δ
  | .str s => fun δ => .ok (.dat (.str s)) δ
  | .bool b => fun δ => .ok (.dat (.bool b)) δ
  | .none => fun δ => .ok (.dat .none) δ
  | .fz e => fun δ => (ev e δ).bind fun v δ1 => (dem C.kp v δ1).bind fun d δ2 => .ok (.dat d) δ2
  | .bin o a b => fun δ => (ev a δ).bind fun x δ1 => (ev b δ1).bind fun y δ2 => op2 (binop o) x y δ2
  | .neg a => fun δ => (ev a δ).bind fun x δ1 => op1 negV x δ1
  | .cmp o a b => fun δ => (ev a δ).bind fun x δ1 => (ev b δ1).bind fun y δ2 => op2 (cmpV o) x y δ2
  | .isN a => fun δ => (ev a δ).bind fun x δ1 => op1 (fun d => some (.dat (.bool (isNoneD d)))) x δ1
  | .notN a => fun δ => (ev a δ).bind fun x δ1 => op1 (fun d => some (.dat (.bool (!isNoneD d)))) x δ1
  | .not a => fun δ => (ev a δ).bind fun x δ1 => match x with
    | .dat (.bool b) => .ok (.dat (.bool (!b))) δ1
    | _ => .no
  | .and a b => fun δ => (ev a δ).bind fun x δ1 => match x with
    | .dat (.bool true) => ev b δ1
    | .dat (.bool false) => .ok (.dat (.bool false)) δ1
    | _ => .no
  | .or a b => fun δ => (ev a δ).bind fun x δ1 => match x with
    | .dat (.bool false) => ev b δ1
    | .dat (.bool true) => .ok (.dat (.bool true)) δ1
    | _ => .no
  | .ite c a b => fun δ => (evT c δ).bind fun k δ1 => if k = true then ev a δ1 else ev b δ1
  | .tup es => fun δ => (evD es δ).bind fun ds δ1 => if ds.length ≤ sizeLine then .ok (.dat (.tuple ds)) δ1 else .no
  | .lst es => fun δ => (evD es δ).bind fun ds δ1 => if ds.length ≤ sizeLine then .ok (.new (.lst ds)) δ1 else .no
  | .idx a b => fun δ => (ev a δ).bind fun x δ1 => (ev b δ1).bind fun y δ2 => op2 idxV x y δ2
  | .sli a lo hi => fun δ => (ev a δ).bind fun x δ1 => (evO lo δ1).bind fun l δ2 => (evO hi δ2).bind fun h δ3 => op1 (sliop l h) x δ3
  | .rev a => fun δ => (ev a δ).bind fun x δ1 => op1 revop x δ1
  | .call f es => fun δ => (evA es δ).bind fun as δ1 => if (ownIx as).Nodup then callR (C.call f (as.map (argSlot δ1))) as δ1 else .no
  | .bi f es => fun δ => (evA es δ).bind fun as δ1 => optR δ1 ((as.mapM (cur δ1)).bind (fn f))
  | .mt m i es => fun δ => match δ[i]? with
    | some (.ow (.lst _)) => (evD es δ).bind fun ds δ1 => mtR m i ds δ1
    | _ => .no
  | .ext i e => fun δ => match δ[i]? with
    | some (.ow (.lst _)) => (ev e δ).bind fun v δ1 => extR i v δ1
    | _ => .no
  | .lc e g it vs => fun δ => (evI it δ).bind fun ds δ1 => if vs.all (fun v => decide (C.kp ≤ v)) = true then
      (lcGo C.kp g (fun δ => .ok true δ) (fun δ => (ev e δ).bind (dem C.kp)) vs ds [] (wipeE δ1 vs)).bind fun ys δ2 => .ok (.new (.lst ys)) δ2 else .no
  | .lcIf e g it c vs => fun δ => (evI it δ).bind fun ds δ1 => if vs.all (fun v => decide (C.kp ≤ v)) = true then
      (lcGo C.kp g (evT c) (fun δ => (ev e δ).bind (dem C.kp)) vs ds [] (wipeE δ1 vs)).bind fun ys δ2 => .ok (.new (.lst ys)) δ2 else .no
  | .isa a ks => fun δ => (ev a δ).bind fun x δ1 => op1 (fun d => some (.dat (.bool (isaD ks d)))) x δ1
  | .xf i f => fun δ => match δ[i]? with
    | some (.xc _ fs) => optR δ ((fs.lookup f).map .dat)
    | _ => .no
  | .xis i _ cs ns => fun δ => match δ[i]? with
    | some (.xc c _) => if c ∈ cs then .ok (.dat (.bool true)) δ else if c ∈ ns then .ok (.dat (.bool false)) δ else .no
    | _ => .no
  | .dnew => fun δ => .ok (.new (.dct [])) δ
  | .dget i k => fun δ => match δ[i]? with
    | some (.ow (.dct _)) => (ev k δ).bind fun v δ1 => getDR i v δ1
    | _ => .no
  | .dhas i k => fun δ => (ev k δ).bind fun v δ1 => hasDR i v δ1
  | .tm m a => fun δ => (ev a δ).bind fun x δ1 => op1 (tmop m) x δ1
  | .tm1 m a b => fun δ => (ev a δ).bind fun x δ1 => match x with
    | .dat (.str s) => (ev b δ1).bind fun y δ2 => op1 (tm1op s m) y δ2
    | _ => .no
  | .fst es => fun δ => (evF es Str.empty δ).bind fun s δ1 => .ok (.dat (.str s)) δ1
/-- a test -/
def evT : CT → Env → R Bool
  | .tr e => fun δ => (ev e δ).bind fun v δ1 => op1 truth v δ1
  | .cmp o a b => fun δ => (ev a δ).bind fun x δ1 => (ev b δ1).bind fun y δ2 => op2 (cmpop o) x y δ2
  | .isN a => fun δ => (ev a δ).bind fun x δ1 => op1 (fun d => some (isNoneD d)) x δ1
  | .notN a => fun δ => (ev a δ).bind fun x δ1 => op1 (fun d => some (!isNoneD d)) x δ1
  | .not a => fun δ => (evT a δ).bind fun b δ1 => .ok (!b) δ1
  | .and a b => fun δ => (evT a δ).bind fun k δ1 => if k = true then evT b δ1 else .ok false δ1
  | .or a b => fun δ => (evT a δ).bind fun k δ1 => if k = true then .ok true δ1 else evT b δ1
/-- data, one after another -/
def evD : CEs → Env → R (List D)
  | .nil => fun δ => .ok [] δ
  | .cons e es => fun δ => (ev e δ).bind fun v δ1 => (dem C.kp v δ1).bind fun d δ2 => (evD es δ2).bind fun ds δ3 => .ok (d :: ds) δ3
/-- the parts of an f-string -/
def evF : CEs → Str → Env → R Str
  | .nil => fun acc δ => .ok acc δ
  | .cons e es => fun acc δ => (ev e δ).bind fun v δ1 => (dem C.kp v δ1).bind fun d δ2 => match fmtD d with
    | some s => if (acc ++ s).length ≤ sizeLine then evF es (acc ++ s) δ2 else .no
    | none => .no
/-- arguments -/
def evA : CEs → Env → R (List Val)
  | .nil => fun δ => .ok [] δ
  | .cons e es => fun δ => (ev e δ).bind fun v δ1 => (evA es δ1).bind fun vs δ2 => .ok (v :: vs) δ2
/-- a slice's part -/
def evO : CO → Env → R (Option Int)
  | .no => fun δ => .ok none δ
  | .yes e => fun δ => (ev e δ).bind fun v δ1 => op1 (fun d => (intD d).map some) v δ1
/-- what is walked -/
def evI : CI → Env → R (List D)
  | .of e => fun δ => (ev e δ).bind fun v δ1 => (dem C.kp v δ1).bind fun d δ2 => optR δ2 (itemsD d)
  | .rng1 e => fun δ => (ev e δ).bind fun v δ1 => op1 rng1D v δ1
  | .rng2 a b => fun δ => (ev a δ).bind fun v δ1 => (ev b δ1).bind fun u δ2 => op2 rng2D v u δ2
end
end
/-! ### statements -/
inductive Fl where
  | nx | rt (v : RV) | bk | ct
/-- the turns of a for -/
def forGo (kp : Nat) (g : Tg) (b : Env → R Fl) : List D → Env → R Fl
  | [], δ => .ok .nx δ
  | d :: ds, δ => match bindT kp g d δ with
    | none => .no
    | some δ1 => (b δ1).bind fun f δ2 => match f with
      | .nx => forGo kp g b ds δ2
      | .ct => forGo kp g b ds δ2
      | .bk => .ok .nx δ2
      | .rt v => .ok (.rt v) δ2
/-- the turns of a while: n is never reached -/
def whGo (c : Env → R Bool) (b : Env → R Fl) : Nat → Env → R Fl
  | 0, _ => .no
  | n + 1, δ => (c δ).bind fun k δ1 => if k = true then (b δ1).bind fun f δ2 => (match f with
      | .nx => whGo c b n δ2
      | .ct => whGo c b n δ2
      | .bk => .ok .nx δ2
      | .rt v => .ok (.rt v) δ2) else .ok .nx δ1
/-- more turns than any loop here takes -/
@[irreducible] def fuel : Nat := 10 ^ 30
theorem fuel_eq : fuel = 10 ^ 30 := by
  unfold fuel
  rfl
/-- what is returned -/
def retV (kp : Nat) (v : Val) (δ : Env) : R Fl := match v with
  | .dat d => .ok (.rt (.dat d)) δ
  | .new o => .ok (.rt (.new o)) δ
  | .own i => match δ[i]? with
    | some (.im d) => .ok (.rt (.dat d)) δ
    | some (.ow o) => if kp ≤ i then .ok (.rt (.new o)) δ else .no
    | _ => .no
/-- a store to a name -/
def setV (kp i : Nat) (v : Val) (δ1 : Env) : R Fl := match v with
    | .dat d => if freeB kp δ1 i = true then .ok .nx (δ1.set i (.im d)) else .no
    | .new o => if freeB kp δ1 i = true then .ok .nx (δ1.set i (.ow o)) else .no
    | .own j => (dem kp (.own j) δ1).bind fun d δ2 => if freeB kp δ2 i = true then .ok .nx (δ2.set i (.im d)) else .no
/-- a store to an item -/
def setIR (i : Nat) (d : D) (n : Int) (δ4 : Env) : R Fl := match δ4[i]? with
    | some (.ow (.lst ds)) => (match L2.ixN ds.length n with
      | some j => .ok .nx (δ4.set i (.ow (.lst (ds.set j d))))
      | none => .no)
    | _ => .no
/-- d[k] = e -/
def setDR (i : Nat) (d : D) (v : Val) (δ : Env) : R Fl := match δ[i]? with
  | some (.ow (.dct kvs)) => (op1 keyD v δ).bind fun k δ1 => if kvs.length < sizeLine then .ok .nx (δ1.set i (.ow (.dct (putD kvs k d)))) else .no
  | _ => .no
/-- behind an except suite: its name is gone, no exception leaves -/
def gone (i : Nat) : R Fl → R Fl
  | .ok (.rt v) δ => .ok (.rt v) (δ.map noX)
  | .ok f δ => .ok f ((δ.map noX).set i .un)
  | _ => .no
/-- what a try's body has let out -/
def caught (cs ns : List Nat) (i kp : Nat) (h : Env → R Fl) : R Fl → R Fl
  | .ex c fs δ => if c ∈ cs then (if kp ≤ i then gone i (h (δ.set i (.xc c fs))) else .no) else if c ∈ ns then .ex c fs δ else .no
  | r => r
section
variable (C : Cfg)
mutual
def ex : CS → Env → R Fl
  | .pass => fun δ => .ok .nx δ
  | .set (.name i) e => fun δ => (ev C e δ).bind fun v δ1 => setV C.kp i v δ1
  | .set (.tup is) e => fun δ => (ev C e δ).bind fun v δ1 => (dem C.kp v δ1).bind fun d δ2 => (optR δ2 (bindT C.kp (.tup is) d δ2)).bind fun δ3 _ => .ok .nx δ3
  | .setI i e1 e2 => fun δ => (ev C e2 δ).bind fun v δ1 => (dem C.kp v δ1).bind fun d δ2 => match δ2[i]? with
    | some (.ow (.lst _)) => (ev C e1 δ2).bind fun k δ3 => (op1 intD k δ3).bind fun n δ4 => setIR i d n δ4
    | _ => .no
  | .exp e => fun δ => (ev C e δ).bind fun _ δ1 => .ok .nx δ1
  | .ret e => fun δ => (ev C e δ).bind fun v δ1 => retV C.kp v δ1
  | .retN => fun δ => .ok (.rt (.dat .none)) δ
  | .cond c a b => fun δ => (evT C c δ).bind fun k δ1 => if k = true then exs a δ1 else exs b δ1
  | .wh c a => fun δ => whGo (evT C c) (exs a) fuel δ
  | .loop g it a => fun δ => (evI C it δ).bind fun ds δ1 => forGo C.kp g (exs a) ds δ1
  | .brk => fun δ => .ok .bk δ
  | .cont => fun δ => .ok .ct δ
  | .dset i k e => fun δ => (ev C e δ).bind fun v δ1 => (dem C.kp v δ1).bind fun d δ2 => match δ2[i]? with
    | some (.ow (.dct _)) => (ev C k δ2).bind fun u δ3 => setDR i d u δ3
    | _ => .no
  | .raise c f e => fun δ => (ev C e δ).bind fun v δ1 => (dem C.kp v δ1).bind fun d δ2 => .ex c [(f, d)] δ2
  | .tryx b _ cs ns i h => fun δ => caught cs ns i C.kp (exs h) (exs b δ)
def exs : CB → Env → R Fl
  | .nil => fun δ => .ok .nx δ
  | .cons s b => fun δ => (ex s δ).bind fun f δ1 => match f with
    | .nx => exs b δ1
    | f => .ok f δ1
end
end
/-! ### defs -/
structure Def where
  /-- names: the parameters first -/
  kp : Nat
  ns : Nat
  body : CB
/-- of the parameters: what is owned, as it is now; the rest as it came -/
def backE : Env → Env → Env
  | .ow _ :: δ, s :: δ' => s :: backE δ δ'
  | s :: δ, _ :: δ' => s :: backE δ δ'
  | δ, _ => δ
def runDef (call : Nat → Env → CR) (d : Def) (δ : Env) : CR := if δ.length = d.kp then
    (match exs ⟨d.kp, call⟩ d.body (δ ++ List.replicate (d.ns - d.kp) .un) with
    | .ok .nx δ' => .ret (.dat .none) (backE δ δ')
    | .ok (.rt v) δ' => .ret v (backE δ δ')
    | .ok _ _ => .no
    | .ex c fs δ' => .ex c fs (backE δ δ')
    | .no => .no) else .no
/-- the defs, each call one level down -/
def tbl (defs : List Def) : Nat → Nat → Env → CR
  | 0, _, _ => .no
  | n + 1, f, δ => match defs[f]? with
    | some d => runDef (tbl defs n) d δ
    | none => .no
end IL
end
section
set_option Elab.async false
set_option linter.all false
set_option maxRecDepth 100000
set_option maxHeartbeats 1000000
/-! J1: the state of the calculus: data that stays, things that slots own, above the hand layer's heap. -/
namespace J
open PySem L2
abbrev Ex := Evl.Ex
abbrev St := L2.St
end J
namespace L2
open PySem
open J (Ex)
/-! ### data stays -/
section
variable {K : PySem.W.Frag} {H H' : Hp}
mutual
theorem Dp.ex (e : Ex H H') : ∀ (d : PyData) (v : V), Dp K H v d → Dp K H' v d
  | .none, _, h => by cases h; exact .non
  | .bool b, _, h => by cases h; exact .bl b
  | .int i, _, h => by cases h; exact .int i
  | .str x, _, h => by cases h; exact .str x
  | .list ds, _, h => by
    cases h with
    | lst hs ha => exact .lst (Evl.ex_l e hs) (DpAll.ex e ds _ ha)
  | .tuple ds, _, h => by
    cases h with
    | tup hs ha => exact .tup (Evl.ex_t e hs) (DpAll.ex e ds _ ha)
  | .dict _, _, h => by cases h
theorem DpAll.ex (e : Ex H H') : ∀ (ds : List PyData) (vs : List V), DpAll K H vs ds → DpAll K H' vs ds
  | [], _, h => by cases h; exact .nil
  | d :: ds, _, h => by
    cases h with
    | cons h1 h2 => exact .cons (Dp.ex e d _ h1) (DpAll.ex e ds _ h2)
end
theorem DpAll.length : ∀ {vs : List V} {ds : List PyData}, DpAll K H vs ds → vs.length = ds.length
  | _, _, .nil => rfl
  | _, _, .cons _ t => congrArg (· + 1) (DpAll.length t)
theorem DpAll.get : ∀ {vs : List V} {ds : List PyData}, DpAll K H vs ds → ∀ {i : Nat} {d : PyData}, ds[i]? = some d → ∃ v, vs[i]? = some v ∧ Dp K H v d
  | _, _, .nil, i, d, h => by simp at h
  | _, _, .cons h1 t, 0, d, h => by
    simp at h
    subst h
    exact ⟨_, rfl, h1⟩
  | _, _, .cons h1 t, i + 1, d, h => by
    obtain ⟨v, e, hv⟩ := DpAll.get t (i := i) (d := d) (by simpa using h)
    exact ⟨v, by simpa using e, hv⟩
theorem DpAll.getV : ∀ {vs : List V} {ds : List PyData}, DpAll K H vs ds → ∀ {i : Nat} {v : V}, vs[i]? = some v → ∃ d, ds[i]? = some d ∧ Dp K H v d
  | _, _, .nil, i, v, h => by simp at h
  | _, _, .cons h1 t, 0, v, h => by
    simp at h
    subst h
    exact ⟨_, rfl, h1⟩
  | _, _, .cons h1 t, i + 1, v, h => by
    obtain ⟨d, e, hv⟩ := DpAll.getV t (i := i) (v := v) (by simpa using h)
    exact ⟨d, by simpa using e, hv⟩
theorem DpAll.append : ∀ {vs ws : List V} {ds es : List PyData}, DpAll K H vs ds → DpAll K H ws es → DpAll K H (vs ++ ws) (ds ++ es)
  | _, _, _, _, .nil, s => s
  | _, _, _, _, .cons h t, s => .cons h (DpAll.append t s)
theorem DpAll.one {v : V} {d : PyData} (h : Dp K H v d) : DpAll K H [v] [d] := .cons h .nil
theorem DpAll.set : ∀ {vs : List V} {ds : List PyData} {v : V} {d : PyData} (i : Nat), Dp K H v d → DpAll K H vs ds → DpAll K H (vs.set i v) (ds.set i d)
  | _, _, _, _, _, _, .nil => .nil
  | _, _, _, _, 0, h, .cons _ t => .cons h t
  | _, _, _, _, i + 1, h, .cons q t => .cons q (DpAll.set i h t)
theorem DpAll.take : ∀ {vs : List V} {ds : List PyData} (n : Nat), DpAll K H vs ds → DpAll K H (vs.take n) (ds.take n)
  | _, _, 0, _ => .nil
  | _, _, _ + 1, .nil => .nil
  | _, _, n + 1, .cons r t => .cons r (DpAll.take n t)
theorem DpAll.drop : ∀ {vs : List V} {ds : List PyData} (n : Nat), DpAll K H vs ds → DpAll K H (vs.drop n) (ds.drop n)
  | _, _, 0, r => r
  | _, _, _ + 1, .nil => .nil
  | _, _, n + 1, .cons _ t => DpAll.drop n t
theorem DpAll.reverse : ∀ {vs : List V} {ds : List PyData}, DpAll K H vs ds → DpAll K H vs.reverse ds.reverse
  | _, _, .nil => .nil
  | _, _, .cons h t => by
    rw [List.reverse_cons, List.reverse_cons]
    exact (DpAll.reverse t).append (.one h)
theorem Dp.int_of {v : V} {i : Int} (h : Dp K H v (.int i)) : v = .int i := by cases h; rfl
theorem Dp.bool_of {v : V} {b : Bool} (h : Dp K H v (.bool b)) : v = .bl b := by cases h; rfl
theorem Dp.str_of {v : V} {x : Str} (h : Dp K H v (.str x)) : v = .str x := by cases h; rfl
theorem Dp.none_of {v : V} (h : Dp K H v .none) : v = .non := by cases h; rfl
theorem Dp.list_of {v : V} {ds : List PyData} (h : Dp K H v (.list ds)) : ∃ a vs, v = .ref a ∧ SqL K H a vs ∧ DpAll K H vs ds := by
  cases h with
  | lst h1 h2 => exact ⟨_, _, rfl, h1, h2⟩
theorem Dp.tuple_of {v : V} {ds : List PyData} (h : Dp K H v (.tuple ds)) : ∃ a vs, v = .ref a ∧ SqT K H a vs ∧ DpAll K H vs ds := by
  cases h with
  | tup h1 h2 => exact ⟨_, _, rfl, h1, h2⟩
theorem DpAll.ints : ∀ {vs : List V} {ns : List Int}, DpAll K H vs (ns.map PyData.int) → vs = ns.map V.int
  | _, [], h => by cases h; rfl
  | _, n :: ns, h => by
    cases h with
    | cons h1 h2 =>
      rw [Dp.int_of h1, DpAll.ints h2]
      rfl
theorem DpAll.of_ints : ∀ (ns : List Int), DpAll K H (ns.map V.int) (ns.map PyData.int)
  | [] => .nil
  | n :: ns => .cons (.int n) (DpAll.of_ints ns)
theorem DpAll.bools : ∀ {vs : List V} {ns : List Bool}, DpAll K H vs (ns.map PyData.bool) → vs = ns.map V.bl
  | _, [], h => by cases h; rfl
  | _, n :: ns, h => by
    cases h with
    | cons h1 h2 =>
      rw [Dp.bool_of h1, DpAll.bools h2]
      rfl
theorem DpAll.strs : ∀ {vs : List V} {ns : List Str}, DpAll K H vs (ns.map PyData.str) → vs = ns.map V.str
  | _, [], h => by cases h; rfl
  | _, n :: ns, h => by
    cases h with
    | cons h1 h2 =>
      rw [Dp.str_of h1, DpAll.strs h2]
      rfl
end

end L2
namespace J
open PySem L2
open IL (D Ow Slot)
abbrev Env := IL.Env
/-! ### the state -/
/-- the exception that a suite holds: its place, its dict's, what the dict has, its class, its fields -/
structure XC where
  a : Addr
  dd : Addr
  ws : List (Str × V)
  c : Nat
  fs : List (Str × D)
/-- what a state is told over: the ground, the exception in hand -/
structure KX where
  K : PySem.W.Frag
  xc : Option XC
instance : Coe KX PySem.W.Frag := ⟨KX.K⟩
def OwR (K : PySem.W.Frag) (G : Hp) : Ow → HO → Prop
  | .lst ds, ho => ∃ vs, ho = .lst vs ∧ DpAll K G vs ds
  | .dct kvs, ho => ∃ ws, ho = .dK ws ∧ Paired (fun (p : Key × V) (q : Key × PyData) => p.1 = q.1 ∧ Dp K G p.2 q.2) ws kvs
theorem OwR.ex {K : PySem.W.Frag} {G G' : Hp} (e : Ex G G') : ∀ {o : Ow} {ho : HO}, OwR K G o ho → OwR K G' o ho
  | .lst _, _, ⟨vs, h, a⟩ => ⟨vs, h, DpAll.ex e _ _ a⟩
  | .dct _, _, ⟨ws, h, a⟩ => ⟨ws, h, Paired.mapP a fun _ _ z => ⟨z.1, Dp.ex e _ _ z.2⟩⟩
def SlotR (K : KX) (G H : Hp) : Slot → Option (Option V) → Prop
  | .un, _ => True
  | .im d, v => ∃ u, v = some (some u) ∧ Dp K G u d
  | .ow o, v => ∃ l ho, v = some (some (.ref l)) ∧ G l = none ∧ H l = some ho ∧ OwR K G o ho
  | .xc c fs, v => ∃ x, K.xc = some x ∧ v = some (some (.ref x.a)) ∧ x.c = c ∧ x.fs = fs
/-- the exception's fields are where its dict is -/
def XcR (K : KX) (G : Hp) : Prop := ∀ x, K.xc = some x → G x.dd = some (.xd x.ws) ∧ ∀ f d, x.fs.lookup f = some d → ∃ v, x.ws.lookup f = some v ∧ Dp K G v d
theorem XcR.ex {K : KX} {G G' : Hp} (h : XcR K G) (e : Ex G G') : XcR K G' := fun x hx => ⟨e _ _ (h x hx).1, fun f d hf => by
  obtain ⟨v, h1, h2⟩ := (h x hx).2 f d hf
  exact ⟨v, h1, Dp.ex e _ _ h2⟩⟩
/-- slot i owns the thing at l -/
def OwnAt (δ : Env) (σ : St) (i : Nat) (l : Addr) : Prop := (∃ o, δ[i]? = some (.ow o)) ∧ σ[i]? = some (some (.ref l))
def Own (δ : Env) (σ : St) (l : Addr) : Prop := ∃ i, OwnAt δ σ i l
structure Stt (K : KX) (δ : Env) (σ : St) (G H : Hp) : Prop where
  gh : Ex G H
  env : ∀ (i : Nat) (s : Slot), δ[i]? = some s → SlotR K G H s σ[i]?
  dis : ∀ (i j : Nat) (l : Addr), OwnAt δ σ i l → OwnAt δ σ j l → i = j
  len : δ.length = σ.length
  xd : XcR K G
/-- what may have happened: M may have changed, the rest stays; new things came -/
structure Nx (M : Addr → Prop) (G H G' H' : Hp) : Prop where
  gg : Ex G G'
  hh : ∀ a o, ¬ M a → H a = some o → H' a = some o
  fr : ∀ a o, ¬ M a → H a = some o → G' a = G a
  dom : ∀ a o, H a = some o → ∃ o', H' a = some o'
theorem Nx.refl {M : Addr → Prop} {G H : Hp} : Nx M G H G H := ⟨Evl.Ex.refl G, fun _ _ _ h => h, fun _ _ _ _ => rfl, fun _ o h => ⟨o, h⟩⟩
theorem Nx.trans {M M' : Addr → Prop} {G H G1 H1 G2 H2 : Hp} (a : Nx M G H G1 H1) (b : Nx M' G1 H1 G2 H2) (s : ∀ l, M' l → M l ∨ H l = none) : Nx M G H G2 H2 := by
  have nm : ∀ x o, ¬ M x → H x = some o → ¬ M' x := fun x o hx e hm => by
    rcases s x hm with z | z
    · exact hx z
    · rw [z] at e; cases e
  refine ⟨a.gg.trans b.gg, fun x o hx e => b.hh x o (nm x o hx e) (a.hh x o hx e), fun x o hx e => ?_, fun x o e => ?_⟩
  · rw [b.fr x o (nm x o hx e) (a.hh x o hx e), a.fr x o hx e]
  · obtain ⟨o1, e1⟩ := a.dom x o e
    exact b.dom x o1 e1
theorem Nx.mono {M M' : Addr → Prop} {G H G' H' : Hp} (a : Nx M G H G' H') (s : ∀ l, M l → M' l) : Nx M' G H G' H' :=
  ⟨a.gg, fun x o hx => a.hh x o fun z => hx (s x z), fun x o hx => a.fr x o fun z => hx (s x z), a.dom⟩
theorem Nx.noneOf {M : Addr → Prop} {G H G' H' : Hp} (a : Nx M G H G' H') {l : Addr} (h : H' l = none) : H l = none := by
  cases e : H l with
  | none => rfl
  | some o =>
    obtain ⟨o', e'⟩ := a.dom l o e
    rw [e'] at h; cases h
section
variable {K : KX} {δ : Env} {σ : St} {G H : Hp}
theorem Stt.own (S : Stt K δ σ G H) {l : Addr} (h : Own δ σ l) : G l = none ∧ ∃ ho, H l = some ho := by
  obtain ⟨i, ⟨o, e⟩, e2⟩ := h
  obtain ⟨l', ho, q1, q2, q3, _⟩ := S.env i _ e
  rw [e2] at q1
  cases q1
  exact ⟨q2, ho, q3⟩
theorem Stt.gnone (S : Stt K δ σ G H) {p : Addr} (h : H p = none) : G p = none := by
  cases e : G p with
  | none => rfl
  | some o => rw [S.gh p o e] at h; cases h
/-- the same things, a later heap, in which what is owned is as it was -/
theorem Stt.next {G' H' : Hp} (S : Stt K δ σ G H) (gg : Ex G G') (gh : Ex G' H') (ho : ∀ l, Own δ σ l → G' l = none ∧ H' l = H l) : Stt K δ σ G' H' := by
  refine ⟨gh, fun i s e => ?_, S.dis, S.len, S.xd.ex gg⟩
  have q := S.env i s e
  cases s with
  | un => trivial
  | xc c fs => exact q
  | im d => obtain ⟨u, a, b⟩ := q; exact ⟨u, a, Dp.ex gg _ _ b⟩
  | ow o =>
    obtain ⟨l, z, a, b, c, d⟩ := q
    obtain ⟨o1, o2⟩ := ho l ⟨i, ⟨o, e⟩, a⟩
    exact ⟨l, z, a, o1, by rw [o2]; exact c, d.ex gg⟩
/-- a new thing that will stay -/
theorem Stt.alloc {p : Addr} {o : HO} (S : Stt K δ σ G H) (hp : H p = none) : Stt K δ σ (upd G p o) (upd H p o) ∧ Nx (Own δ σ) G H (upd G p o) (upd H p o) := by
  have gp := S.gnone hp
  have ne : ∀ a x, H a = some x → a ≠ p := fun a x e => ne_of_none e hp
  refine ⟨S.next (Evl.Ex.new gp) (fun a x e => ?_) (fun l hl => ?_), ⟨Evl.Ex.new gp, fun a x _ e => ?_, fun a x _ e => ?_, fun a x e => ?_⟩⟩
  · by_cases h : a = p
    · subst h; rw [upd_same] at e ⊢; exact e
    · rw [upd_ne h] at e ⊢; exact S.gh a x e
  · obtain ⟨a, x, b⟩ := S.own hl
    have h := ne _ _ b
    exact ⟨by rw [upd_ne h]; exact a, by rw [upd_ne h]⟩
  · rw [upd_ne (ne a x e)]; exact e
  · rw [upd_ne (ne a x e)]
  · exact ⟨x, by rw [upd_ne (ne a x e)]; exact e⟩
/-- a new thing that H alone knows -/
theorem Stt.fresh {p : Addr} {o : HO} (S : Stt K δ σ G H) (hp : H p = none) : Stt K δ σ G (upd H p o) ∧ Nx (Own δ σ) G H G (upd H p o) := by
  have ne : ∀ a x, H a = some x → a ≠ p := fun a x e => ne_of_none e hp
  refine ⟨S.next (Evl.Ex.refl G) (fun a x e => ?_) (fun l hl => ?_), ⟨Evl.Ex.refl G, fun a x _ e => ?_, fun a x _ e => rfl, fun a x e => ?_⟩⟩
  · rw [upd_ne (ne _ _ (S.gh a x e))]; exact S.gh a x e
  · obtain ⟨a, x, b⟩ := S.own hl
    exact ⟨a, by rw [upd_ne (ne _ _ b)]⟩
  · rw [upd_ne (ne a x e)]; exact e
  · exact ⟨x, by rw [upd_ne (ne a x e)]; exact e⟩
/-- what H alone knew stays from now on -/
theorem Stt.freeze {p : Addr} {o : HO} (S : Stt K δ σ G H) (gp : G p = none) (hp : H p = some o) (hn : ¬ Own δ σ p) : Stt K δ σ (upd G p o) H := by
  refine S.next (Evl.Ex.new gp) (fun a x e => ?_) (fun l hl => ⟨?_, rfl⟩)
  · by_cases h : a = p
    · subst h; rw [upd_same] at e; rw [hp]; exact e
    · rw [upd_ne h] at e; exact S.gh a x e
  · have h : l ≠ p := fun z => hn (z ▸ hl)
    rw [upd_ne h]
    exact (S.own hl).1
theorem get_set {α : Type} {l : List α} {i j : Nat} {x y : α} (h : (l.set i x)[j]? = some y) : (i = j ∧ y = x) ∨ (i ≠ j ∧ l[j]? = some y) := by
  rw [List.getElem?_set] at h
  split at h
  · rename_i e
    split at h
    · exact .inl ⟨e, (Option.some.inj h).symm⟩
    · cases h
  · rename_i e
    exact .inr ⟨e, h⟩
/-- data at a slot -/
theorem Stt.put {i : Nat} {v : V} {d : PyData} (S : Stt K δ σ G H) (hd : Dp K G v d) : Stt K (δ.set i (.im d)) (σ.set i (some v)) G H ∧ ∀ l, Own (δ.set i (.im d)) (σ.set i (some v)) l → Own δ σ l := by
  have back : ∀ j l, OwnAt (δ.set i (.im d)) (σ.set i (some v)) j l → OwnAt δ σ j l := fun j l ⟨⟨o, e⟩, e2⟩ => by
    rcases get_set e with ⟨_, z⟩ | ⟨h, z⟩
    · cases z
    · rw [List.getElem?_set_ne h] at e2
      exact ⟨⟨o, z⟩, e2⟩
  refine ⟨⟨S.gh, fun j s e => ?_, fun a b l h1 h2 => S.dis a b l (back _ _ h1) (back _ _ h2), by rw [List.length_set, List.length_set]; exact S.len, S.xd⟩, fun l ⟨j, h⟩ => ⟨j, back j l h⟩⟩
  rcases get_set e with ⟨h, z⟩ | ⟨h, z⟩
  · subst h
    subst z
    have hi : i < σ.length := by
      rw [← S.len]
      have q := (List.getElem?_eq_some_iff.mp e).1
      rw [List.length_set] at q
      exact q
    exact ⟨v, by rw [List.getElem?_set_self hi], hd⟩
  · rw [List.getElem?_set_ne h]
    exact S.env j s z
/-- nothing known of a slot from now on -/
theorem Stt.unk {i : Nat} {v : Option V} (S : Stt K δ σ G H) : Stt K (δ.set i .un) (σ.set i v) G H ∧ ∀ l, Own (δ.set i .un) (σ.set i v) l → Own δ σ l := by
  have back : ∀ j l, OwnAt (δ.set i .un) (σ.set i v) j l → OwnAt δ σ j l := fun j l ⟨⟨o, e⟩, e2⟩ => by
    rcases get_set e with ⟨_, z⟩ | ⟨h, z⟩
    · cases z
    · rw [List.getElem?_set_ne h] at e2
      exact ⟨⟨o, z⟩, e2⟩
  refine ⟨⟨S.gh, fun j s e => ?_, fun a b l h1 h2 => S.dis a b l (back _ _ h1) (back _ _ h2), by rw [List.length_set, List.length_set]; exact S.len, S.xd⟩, fun l ⟨j, h⟩ => ⟨j, back j l h⟩⟩
  rcases get_set e with ⟨h, z⟩ | ⟨h, z⟩
  · subst z
    trivial
  · rw [List.getElem?_set_ne h]
    exact S.env j s z
/-- an owned thing at a slot, new to all others -/
theorem Stt.putOwn {i : Nat} {l : Addr} {o : Ow} {ho : HO} (S : Stt K δ σ G H) (gl : G l = none) (hl : H l = some ho) (r : OwR K G o ho) (hn : ¬ Own δ σ l) :
    Stt K (δ.set i (.ow o)) (σ.set i (some (.ref l))) G H ∧ ∀ x, Own (δ.set i (.ow o)) (σ.set i (some (.ref l))) x → Own δ σ x ∨ x = l := by
  have back : ∀ j x, OwnAt (δ.set i (.ow o)) (σ.set i (some (.ref l))) j x → (i ≠ j ∧ OwnAt δ σ j x) ∨ (i = j ∧ x = l) := fun j x ⟨⟨o', e⟩, e2⟩ => by
    rcases get_set e with ⟨h, z⟩ | ⟨h, z⟩
    · rcases get_set e2 with ⟨_, z2⟩ | ⟨h2, _⟩
      · cases z2
        exact .inr ⟨h, rfl⟩
      · exact absurd h h2
    · rw [List.getElem?_set_ne h] at e2
      exact .inl ⟨h, ⟨o', z⟩, e2⟩
  refine ⟨⟨S.gh, fun j s e => ?_, fun a b x h1 h2 => ?_, by rw [List.length_set, List.length_set]; exact S.len, S.xd⟩, fun x ⟨j, h⟩ => ?_⟩
  · rcases get_set e with ⟨h, z⟩ | ⟨h, z⟩
    · subst h
      subst z
      have hi : i < σ.length := by
        rw [← S.len]
        have q := (List.getElem?_eq_some_iff.mp e).1
        rw [List.length_set] at q
        exact q
      exact ⟨l, ho, by rw [List.getElem?_set_self hi], gl, hl, r⟩
    · rw [List.getElem?_set_ne h]
      exact S.env j s z
  · rcases back a x h1 with ⟨_, q1⟩ | ⟨q1, z1⟩
    · rcases back b x h2 with ⟨_, q2⟩ | ⟨q2, z2⟩
      · exact S.dis a b x q1 q2
      · exact absurd ⟨a, z2 ▸ q1⟩ hn
    · rcases back b x h2 with ⟨_, q2⟩ | ⟨q2, _⟩
      · exact absurd ⟨b, z1 ▸ q2⟩ hn
      · exact q1.symm.trans q2
  · rcases back j x h with ⟨_, q⟩ | ⟨_, q⟩
    · exact .inl ⟨j, q⟩
    · exact .inr q
/-- an owned thing changes -/
theorem Stt.mut {i : Nat} {l : Addr} {o : Ow} {ho : HO} (S : Stt K δ σ G H) (ha : OwnAt δ σ i l) (r : OwR K G o ho) :
    Stt K (δ.set i (.ow o)) σ G (upd H l ho) ∧ Nx (Own δ σ) G H G (upd H l ho) ∧ ∀ x, Own (δ.set i (.ow o)) σ x → Own δ σ x := by
  obtain ⟨gl, h0, hl⟩ := S.own ⟨i, ha⟩
  obtain ⟨⟨o0, e0⟩, e1⟩ := ha
  have back : ∀ j x, OwnAt (δ.set i (.ow o)) σ j x → OwnAt δ σ j x := fun j x ⟨⟨o', e⟩, e2⟩ => by
    rcases get_set e with ⟨h, z⟩ | ⟨h, z⟩
    · subst h
      exact ⟨⟨o0, e0⟩, e2⟩
    · exact ⟨⟨o', z⟩, e2⟩
  have ne : ∀ a x, ¬ Own δ σ a → H a = some x → a ≠ l := fun a x hm _ z => hm (z ▸ ⟨i, ⟨o0, e0⟩, e1⟩)
  refine ⟨⟨fun a x e => ?_, fun j s e => ?_, fun a b x h1 h2 => S.dis a b x (back _ _ h1) (back _ _ h2), by rw [List.length_set]; exact S.len, S.xd⟩, ⟨Evl.Ex.refl G, fun a x hm e => by rw [upd_ne (ne a x hm e)]; exact e, fun _ _ _ _ => rfl, fun a x e => ?_⟩, fun x ⟨j, h⟩ => ⟨j, back j x h⟩⟩
  · rw [upd_ne (ne_of_none e gl)]
    exact S.gh a x e
  · rcases get_set e with ⟨h, z⟩ | ⟨h, z⟩
    · subst h
      subst z
      exact ⟨l, ho, e1, gl, upd_same, r⟩
    · have q := S.env j s z
      cases s with
      | un => trivial
      | im d => exact q
      | xc c fs => exact q
      | ow o' =>
        obtain ⟨l', z', a, b, c, d⟩ := q
        have hne : l' ≠ l := fun w => h (S.dis i j l ⟨⟨o0, e0⟩, e1⟩ ⟨⟨o', z⟩, w ▸ a⟩)
        exact ⟨l', z', a, b, by rw [upd_ne hne]; exact c, d⟩
  · by_cases h : a = l
    · subst h; exact ⟨ho, upd_same⟩
    · exact ⟨x, by rw [upd_ne h]; exact e⟩
end
end J
end
section
set_option Elab.async false
set_option linter.all false
set_option maxRecDepth 100000
set_option maxHeartbeats 1000000
/-! J2: the judgements that tie a reading to what the small language does; expressions. -/
namespace J
open PySem L2
open IL (D Ow Slot Val CR RV Fl)

structure Ctx where
  K : KX
  kp : Nat
  /-- the classes of exceptions; what is wanted of one -/
  xv : Nat → Value
  nv : Str → V
  es : St → XK

/-- from one state to a later one -/
structure Aft (C : Ctx) (δ : Env) (σ : St) (G H : Hp) (δ' : Env) (σ' : St) (G' H' : Hp) : Prop where
  st : Stt C.K δ' σ' G' H'
  nx : Nx (Own δ σ) G H G' H'
  ow : ∀ l, Own δ' σ' l → Own δ σ l ∨ H l = none
  kp : ∀ (i : Nat) (l : Addr), i < C.kp → OwnAt δ σ i l → OwnAt δ' σ' i l
  ln : δ'.length = δ.length
/-- another wish of exceptions -/
abbrev Ctx.un (C : Ctx) (e : St → XK) : Ctx := { C with es := e }
section
variable {C : Ctx} {δ δ' δ1 δ2 : Env} {σ σ' σ1 : St} {G H G' H' G1 H1 G2 H2 : Hp}
theorem Aft.un {e : St → XK} (a : Aft C δ σ G H δ' σ' G' H') : Aft (C.un e) δ σ G H δ' σ' G' H' := ⟨a.st, a.nx, a.ow, a.kp, a.ln⟩
theorem Aft.nu {e : St → XK} (a : Aft (C.un e) δ σ G H δ' σ' G' H') : Aft C δ σ G H δ' σ' G' H' := ⟨a.st, a.nx, a.ow, a.kp, a.ln⟩
theorem Aft.refl (S : Stt C.K δ σ G H) : Aft C δ σ G H δ σ G H := ⟨S, Nx.refl, fun _ h => .inl h, fun _ _ _ h => h, rfl⟩
theorem Aft.trans (a : Aft C δ σ G H δ1 σ1 G1 H1) (b : Aft C δ1 σ1 G1 H1 δ' σ' G' H') : Aft C δ σ G H δ' σ' G' H' :=
  ⟨b.st, a.nx.trans b.nx a.ow, fun l h => by
    rcases b.ow l h with z | z
    · exact a.ow l z
    · exact .inr (a.nx.noneOf z), fun i l hi h => b.kp i l hi (a.kp i l hi h), b.ln.trans a.ln⟩
end
/-- how a value stands: H0 the heap ahead of it -/
def ValR (K : PySem.W.Frag) (σ : St) (δ : Env) (H0 G H : Hp) : V → Val → Prop
  | v, .dat d => Dp K G v d
  | v, .own i => σ[i]? = some (some v)
  | v, .new o => ∃ l ho, v = .ref l ∧ H0 l = none ∧ G l = none ∧ H l = some ho ∧ ¬ Own δ σ l ∧ OwR K G o ho
/-- values in a row, the new ones apart -/
def ValsR (K : PySem.W.Frag) (σ : St) (δ : Env) (H0 G H : Hp) : List V → List Val → Prop
  | [], [] => True
  | v :: vs, a :: as => ValR K σ δ H0 G H v a ∧ ValsR K σ δ H0 G H vs as ∧ ∀ (o : Ow), a = .new o → ∀ (k : Nat) (o' : Ow), as[k]? = some (.new o') → vs[k]? ≠ some v
  | _, _ => False
section
variable {α β : Type}
abbrev Rel (α β : Type) := St → Env → Hp → Hp → Hp → β → α → Prop
/-- a relation that an earlier start serves, too -/
def Back (rel : Rel α β) : Prop := ∀ σ δ H0 H1 G H v a, (∀ l, H1 l = none → H0 l = none) → rel σ δ H1 G H v a → rel σ δ H0 G H v a
def relV (K : PySem.W.Frag) : Rel Val V := fun σ δ H0 G H v a => ValR K σ δ H0 G H v a
def relVs (K : PySem.W.Frag) : Rel (List Val) (List V) := fun σ δ H0 G H v a => ValsR K σ δ H0 G H v a
def relD (K : PySem.W.Frag) : Rel D V := fun _ _ _ G _ v a => Dp K G v a
def relDs (K : PySem.W.Frag) : Rel (List D) (List V) := fun _ _ _ G _ v a => DpAll K G v a
def relE (α : Type) : Rel α α := fun _ _ _ _ _ v a => v = a
theorem back_V {K : PySem.W.Frag} : Back (relV K) := fun σ δ H0 H1 G H v a h r => by
  cases a with
  | dat d => exact r
  | own i => exact r
  | new o =>
    obtain ⟨l, ho, a, b, c⟩ := r
    exact ⟨l, ho, a, h l b, c⟩
theorem back_Vs {K : PySem.W.Frag} : Back (relVs K) := fun σ δ H0 H1 G H vs as h r => by
  induction vs generalizing as with
  | nil =>
    cases as with
    | nil => exact r
    | cons a as => exact r
  | cons v vs ih =>
    cases as with
    | nil => exact r
    | cons a as => exact ⟨back_V σ δ H0 H1 G H v a h r.1, ih as r.2.1, r.2.2⟩
theorem back_D {K : PySem.W.Frag} : Back (relD K) := fun _ _ _ _ _ _ _ _ _ r => r
theorem back_Ds {K : PySem.W.Frag} : Back (relDs K) := fun _ _ _ _ _ _ _ _ _ r => r
theorem back_E : Back (relE α) := fun _ _ _ _ _ _ _ _ _ r => r
/-- an exception's dict has its fields -/
def ExR (K : PySem.W.Frag) (G : Hp) (d : Option Addr) (fs : List (Str × D)) : Prop := ∃ dd ws, d = some dd ∧ G dd = some (.xd ws) ∧ ∀ f x, fs.lookup f = some x → ∃ v, ws.lookup f = some v ∧ Dp K G v x
/-- what is asked of Q where the answer is r -/
def Want (rel : Rel α β) (C : Ctx) (δ : Env) (σ : St) (G H : Hp) (r : IL.R α) (Q : β → Hp → Prop) : Prop := match r with
  | .ok a δ' => ∀ v G' H', Aft C δ σ G H δ' σ G' H' → rel σ δ' H G' H' v a → Q v H'
  | .ex c fs δ' => ∀ d G' H', Aft C δ σ G H δ' σ G' H' → ExR C.K G' d fs → C.es σ (C.xv c) d H'
  | .no => False
/-- the reading t does what f says -/
def JE (rel : Rel α β) (C : Ctx) (t : St → Hp → (β → Hp → Prop) → Prop) (f : Env → IL.R α) : Prop :=
  ∀ δ σ G H, Stt C.K δ σ G H → ∀ Q, Want rel C δ σ G H (f δ) Q → t σ H Q
def WantS (C : Ctx) (δ : Env) (σ : St) (G H : Hp) (r : IL.R Fl) (De : Ends) : Prop := match r with
  | .ok .nx δ' => ∀ σ' G' H', Aft C δ σ G H δ' σ' G' H' → De.nx σ' H'
  | .ok .bk δ' => ∀ σ' G' H', Aft C δ σ G H δ' σ' G' H' → De.bk σ' H'
  | .ok .ct δ' => ∀ σ' G' H', Aft C δ σ G H δ' σ' G' H' → De.ct σ' H'
  | .ok (.rt (.dat d)) δ' => ∀ v σ' G' H', Aft C δ σ G H δ' σ' G' H' → Dp C.K G' v d → De.rt v H'
  | .ok (.rt (.new o)) δ' => ∀ l ho σ' G' H', Aft C δ σ G H δ' σ' G' H' → ((∃ i, C.kp ≤ i ∧ OwnAt δ σ i l) ∨ H l = none) → (∀ i, i < C.kp → ¬ OwnAt δ' σ' i l) → G' l = none → H' l = some ho → OwR C.K G' o ho → De.rt (.ref l) H'
  | .ex c fs δ' => ∀ d σ' G' H', Aft C δ σ G H δ' σ' G' H' → ExR C.K G' d fs → C.es σ' (C.xv c) d H'
  | .no => False
def JS (C : Ctx) (t : TS) (f : Env → IL.R Fl) : Prop := ∀ δ σ G H, Stt C.K δ σ G H → ∀ De, WantS C δ σ G H (f δ) De → t De σ H
end
section
variable {C : Ctx} {δ δ' δ1 δ2 : Env} {σ σ' σ1 : St} {G H G' H' G1 H1 G2 H2 : Hp}
variable {α α' β β' : Type} {rel : Rel α β} {rel' : Rel α' β'}
theorem Loc.back {p : Addr} (a : Aft C δ σ G H δ1 σ1 G1 H1) (h : (∃ i, C.kp ≤ i ∧ OwnAt δ1 σ1 i p) ∨ H1 p = none) : (∃ i, C.kp ≤ i ∧ OwnAt δ σ i p) ∨ H p = none := by
  rcases h with ⟨i, hi, o⟩ | h
  · rcases a.ow p ⟨i, o⟩ with ⟨j, oj⟩ | z
    · rcases Nat.lt_or_ge j C.kp with hj | hj
      · have e := a.st.dis i j p o (a.kp j p hj oj)
        omega
      · exact .inl ⟨j, hj, oj⟩
    · exact .inr z
  · exact .inr (a.nx.noneOf h)
theorem Want.step {r : IL.R α} {Q : β → Hp → Prop} (hb : Back rel) (w : Want rel C δ σ G H r Q) (a : Aft C δ σ G H δ1 σ G1 H1) : Want rel C δ1 σ G1 H1 r Q := by
  cases r with
  | ok x δ' => exact fun v G' H' b h => w v G' H' (a.trans b) (hb _ _ _ _ _ _ _ _ (fun l z => a.nx.noneOf z) h)
  | ex c fs δ' => exact fun d G' H' b h => w d G' H' (a.trans b) h
  | no => exact w
theorem WantS.step {r : IL.R Fl} {De : Ends} (w : WantS C δ σ G H r De) (a : Aft C δ σ G H δ1 σ1 G1 H1) : WantS C δ1 σ1 G1 H1 r De := by
  cases r with
  | ok f δ' =>
    cases f with
    | nx => exact fun σ' G' H' b => w σ' G' H' (a.trans b)
    | bk => exact fun σ' G' H' b => w σ' G' H' (a.trans b)
    | ct => exact fun σ' G' H' b => w σ' G' H' (a.trans b)
    | rt v =>
      cases v with
      | dat d => exact fun v σ' G' H' b => w v σ' G' H' (a.trans b)
      | new o => exact fun l ho σ' G' H' b h => w l ho σ' G' H' (a.trans b) (Loc.back a h)
  | ex c fs δ' => exact fun d σ' G' H' b h => w d σ' G' H' (a.trans b) h
  | no => exact w
theorem want_bind {r : IL.R α'} {k : α' → Env → IL.R α} {Q : β → Hp → Prop} {P : β' → Hp → Prop} (hb : Back rel) (w : Want rel C δ σ G H (r.bind k) Q)
    (h : ∀ a δ1 v G1 H1, Aft C δ σ G H δ1 σ G1 H1 → rel' σ δ1 H G1 H1 v a → Want rel C δ1 σ G1 H1 (k a δ1) Q → P v H1) : Want rel' C δ σ G H r P := by
  cases r with
  | ok a δ1 => exact fun v G1 H1 b q => h a δ1 v G1 H1 b q (Want.step hb w b)
  | ex c fs δ' => exact w
  | no => exact w
theorem wantS_bind {r : IL.R α'} {k : α' → Env → IL.R Fl} {De : Ends} {P : β' → Hp → Prop} (w : WantS C δ σ G H (r.bind k) De)
    (h : ∀ a δ1 v G1 H1, Aft C δ σ G H δ1 σ G1 H1 → rel' σ δ1 H G1 H1 v a → WantS C δ1 σ G1 H1 (k a δ1) De → P v H1) : Want rel' C δ σ G H r P := by
  cases r with
  | ok a δ1 => exact fun v G1 H1 b q => h a δ1 v G1 H1 b q (WantS.step w b)
  | ex c fs δ' => exact fun d G' H' b r => w d σ G' H' b r
  | no => exact w
/-- nothing happened -/
theorem Want.now {Q : β → Hp → Prop} {a : α} (w : Want rel C δ σ G H (.ok a δ) Q) (S : Stt C.K δ σ G H) {v : β} (h : rel σ δ H G H v a) : Q v H := w v G H (Aft.refl S) h
theorem JE.mono {t t' : St → Hp → (β → Hp → Prop) → Prop} {f : Env → IL.R α} (h : JE rel C t f) (k : ∀ σ H Q, t σ H Q → t' σ H Q) : JE rel C t' f := fun δ σ G H S Q w => k σ H Q (h δ σ G H S Q w)
/-- a value stands as it stood -/
theorem ValR.later {v : V} {a : Val} (r : ValR C.K σ δ1 H G1 H1 v a) (b : Aft C δ1 σ G1 H1 δ2 σ G2 H2) : ValR C.K σ δ2 H G2 H2 v a := by
  cases a with
  | dat d => exact Dp.ex b.nx.gg _ _ r
  | own i => exact r
  | new o =>
    obtain ⟨l, ho, e, h0, g, h, n, w⟩ := r
    refine ⟨l, ho, e, h0, (b.nx.fr l ho n h).trans g, b.nx.hh l ho n h, fun z => ?_, w.ex b.nx.gg⟩
    rcases b.ow l z with z | z
    · exact n z
    · rw [h] at z; cases z
theorem ValR.back0 {v : V} {a : Val} (b : Aft C δ σ G H δ1 σ1 G1 H1) (r : ValR C.K σ' δ2 H1 G2 H2 v a) : ValR C.K σ' δ2 H G2 H2 v a := back_V _ _ _ _ _ _ _ _ (fun l z => b.nx.noneOf z) r
/-! ### what is read now -/
inductive Tp (K : PySem.W.Frag) (G H : Hp) : V → D → Prop
  | im {v : V} {d : D} : Dp K G v d → Tp K G H v d
  | lst {a : Addr} {vs : List V} {ds : List D} : SqL K H a vs → DpAll K G vs ds → Tp K G H (.ref a) (.list ds)
theorem Tp.dp {K : PySem.W.Frag} (e : Ex G H) {v : V} {d : D} (h : Tp K G H v d) : Dp K H v d := by
  cases h with
  | im h => exact Dp.ex e _ _ h
  | lst h1 h2 => exact .lst h1 (DpAll.ex e _ _ h2)
theorem Tp.list_of {K : PySem.W.Frag} (e : Ex G H) {v : V} {ds : List D} (h : Tp K G H v (.list ds)) : ∃ a vs, v = .ref a ∧ SqL K H a vs ∧ DpAll K G vs ds := by
  cases h with
  | im h =>
    obtain ⟨a, vs, z, h1, h2⟩ := Dp.list_of h
    exact ⟨a, vs, z, Evl.ex_l e h1, h2⟩
  | lst h1 h2 => exact ⟨_, _, rfl, h1, h2⟩
theorem Tp.tuple_of {K : PySem.W.Frag} (e : Ex G H) {v : V} {ds : List D} (h : Tp K G H v (.tuple ds)) : ∃ a vs, v = .ref a ∧ SqT K H a vs ∧ DpAll K G vs ds := by
  cases h with
  | im h =>
    obtain ⟨a, vs, z, h1, h2⟩ := Dp.tuple_of h
    exact ⟨a, vs, z, Evl.ex_t e h1, h2⟩
theorem Tp.int_of {K : PySem.W.Frag} {v : V} {i : Int} (h : Tp K G H v (.int i)) : v = .int i := by
  cases h with
  | im h => exact Dp.int_of h
theorem Tp.str_of {K : PySem.W.Frag} {v : V} {i : Str} (h : Tp K G H v (.str i)) : v = .str i := by
  cases h with
  | im h => exact Dp.str_of h
theorem Tp.bool_of {K : PySem.W.Frag} {v : V} {i : Bool} (h : Tp K G H v (.bool i)) : v = .bl i := by
  cases h with
  | im h => exact Dp.bool_of h
theorem Tp.none_of {K : PySem.W.Frag} {v : V} (h : Tp K G H v .none) : v = .non := by
  cases h with
  | im h => exact Dp.none_of h
theorem cur_tp {H0 : Hp} (S : Stt C.K δ σ G H) {v : V} {a : Val} {d : D} (r : ValR C.K σ δ H0 G H v a) (c : IL.cur δ a = some d) : Tp C.K G H v d := by
  cases a with
  | dat e =>
    cases c
    exact .im r
  | new o =>
    cases o with
    | lst ds =>
      cases c
      obtain ⟨l, ho, rfl, _, _, h, _, vs, rfl, w⟩ := r
      exact .lst (.inl (.inl h)) w
    | dct kvs => cases c
  | own i =>
    simp only [IL.cur] at c
    cases e : δ[i]? with
    | none => rw [e] at c; cases c
    | some s =>
      rw [e] at c
      have q := S.env i s e
      have r' : σ[i]? = some (some v) := r
      cases s with
      | un => cases c
      | xc _ _ => cases c
      | im x =>
        cases c
        obtain ⟨u, q1, q2⟩ := q
        rw [r'] at q1
        cases q1
        exact .im q2
      | ow o =>
        cases o with
        | dct kvs => cases c
        | lst ds =>
          cases c
          obtain ⟨l, ho, q1, _, h, vs, rfl, w⟩ := q
          rw [r'] at q1
          cases q1
          exact .lst (.inl (.inl h)) w
end
/-! ### new things -/
section
variable {C : Ctx} {δ δ' δ1 δ2 : Env} {σ σ' σ1 : St} {G H G' H' G1 H1 G2 H2 : Hp}
theorem Aft.alloc {p : Addr} {o : HO} (S : Stt C.K δ σ G H) (hp : H p = none) : Aft C δ σ G H δ σ (upd G p o) (upd H p o) :=
  ⟨(S.alloc hp).1, (S.alloc hp).2, fun _ h => .inl h, fun _ _ _ h => h, rfl⟩
theorem Aft.fresh {p : Addr} {o : HO} (S : Stt C.K δ σ G H) (hp : H p = none) : Aft C δ σ G H δ σ G (upd H p o) :=
  ⟨(S.fresh hp).1, (S.fresh hp).2, fun _ h => .inl h, fun _ _ _ h => h, rfl⟩
theorem notOwn (S : Stt C.K δ σ G H) {p : Addr} (hp : H p = none) : ¬ Own δ σ p := fun h => by
  obtain ⟨_, o, e⟩ := S.own h
  rw [hp] at e; cases e
theorem Want.newTup {Q : VK} {ds : List D} {vs : List V} {p : Addr} (w : Want (relV C.K) C δ σ G H (.ok (.dat (.tuple ds)) δ) Q) (S : Stt C.K δ σ G H) (hp : H p = none) (h : DpAll C.K G vs ds) : Q (.ref p) (upd H p (.tup vs)) :=
  w _ _ _ (Aft.alloc S hp) (.tup (.inl (.inl upd_same)) (DpAll.ex (Evl.Ex.new (S.gnone hp)) _ _ h))
theorem Want.newLst {Q : VK} {ds : List D} {vs : List V} {p : Addr} (w : Want (relV C.K) C δ σ G H (.ok (.new (.lst ds)) δ) Q) (S : Stt C.K δ σ G H) (hp : H p = none) (h : DpAll C.K G vs ds) : Q (.ref p) (upd H p (.lst vs)) :=
  w _ _ _ (Aft.fresh S hp) ⟨p, .lst vs, rfl, hp, S.gnone hp, upd_same, notOwn S hp, vs, rfl, h⟩
/-- a new thing stays from now on -/
theorem Want.ofNew {K : PySem.W.Frag} {P : V → Hp → Prop} {ds : List D} (hK : K = C.K) (w : Want (relD K) C δ σ G H (.ok (.list ds) δ') P) : Want (relV K) C δ σ G H (.ok (.new (.lst ds)) δ') P := fun v G' H' a r => by
  subst hK
  obtain ⟨l, ho, rfl, h0, h1, h2, h3, vs, rfl, h4⟩ := r
  refine w (.ref l) (upd G' l (.lst vs)) H' ⟨a.st.freeze h1 h2 h3, ⟨a.nx.gg.trans (Evl.Ex.new h1), a.nx.hh, fun b o hb e => ?_, a.nx.dom⟩, a.ow, a.kp, a.ln⟩ (.lst (.inl (.inl upd_same)) (DpAll.ex (Evl.Ex.new h1) _ _ h4))
  rw [upd_ne (ne_of_none e h0)]
  exact a.nx.fr b o hb e
/-- what a slot owns stays as it is from now on -/
theorem aft_freeze (S : Stt C.K δ σ G H) {i : Nat} {ds : List D} (hi : δ[i]? = some (.ow (.lst ds))) (hk : C.kp ≤ i) : ∃ l G', σ[i]? = some (some (.ref l)) ∧ Aft C δ σ G H (δ.set i (.im (.list ds))) σ G' H ∧ Dp C.K G' (.ref l) (.list ds) := by
  obtain ⟨l, ho, e1, e2, e3, vs, rfl, e5⟩ := S.env i _ hi
  have oi : OwnAt δ σ i l := ⟨⟨_, hi⟩, e1⟩
  have u := S.unk (i := i) (v := some (.ref l))
  have hset : σ.set i (some (.ref l)) = σ := by
    apply List.ext_getElem?
    intro j
    rw [List.getElem?_set]
    split
    · rename_i e
      subst e
      have hl := (List.getElem?_eq_some_iff.mp e1).1
      rw [if_pos hl, e1]
    · rfl
  rw [hset] at u
  have nown : ¬ Own (δ.set i .un) σ l := fun ⟨j, h1⟩ => by
    have h2 : OwnAt δ σ j l := by
      obtain ⟨⟨o, e⟩, e'⟩ := h1
      rcases get_set e with ⟨_, z⟩ | ⟨_, z⟩
      · cases z
      · exact ⟨⟨o, z⟩, e'⟩
    have e := S.dis i j l oi h2
    subst e
    obtain ⟨⟨o, e⟩, _⟩ := h1
    rcases get_set e with ⟨_, z⟩ | ⟨z, _⟩
    · cases z
    · exact z rfl
  have f := u.1.freeze e2 e3 nown
  have hd : Dp C.K (upd G l (.lst vs)) (.ref l) (.list ds) := .lst (.inl (.inl upd_same)) (DpAll.ex (Evl.Ex.new e2) _ _ e5)
  have z := f.put (i := i) hd
  rw [hset, List.set_set] at z
  refine ⟨l, upd G l (.lst vs), e1, ⟨z.1, ⟨Evl.Ex.new e2, fun _ _ _ h => h, fun a o hm e => ?_, fun a o e => ⟨o, e⟩⟩, fun l' h' => .inl (u.2 l' (z.2 l' h')), fun j l' hj o' => ?_, by rw [List.length_set]⟩, hd⟩
  · have ne : a ≠ l := fun w => hm (w ▸ ⟨i, oi⟩)
    rw [upd_ne ne]
  · have hij : i ≠ j := by omega
    obtain ⟨⟨o, e⟩, e'⟩ := o'
    exact ⟨⟨o, by rw [List.getElem?_set_ne hij]; exact e⟩, e'⟩
theorem dem_noex {kp : Nat} {a : Val} {c : Nat} {fs : List (Str × D)} : IL.dem kp a δ ≠ .ex c fs δ' := by
  intro e
  cases a with
  | dat d => cases e
  | new o => cases o <;> cases e
  | own i =>
    simp only [IL.dem] at e
    split at e
    · cases e
    · split at e <;> cases e
    · cases e
/-- from a value to data: the reading is the same -/
theorem want_dem {P : V → Hp → Prop} {a : Val} (w : Want (relD C.K) C δ σ G H (IL.dem C.kp a δ') P) : Want (relV C.K) C δ σ G H (.ok a δ') P := by
  cases a with
  | dat d => exact fun v G' H' b r => w v G' H' b r
  | new o =>
    cases o with
    | lst ds => exact Want.ofNew rfl w
    | dct kvs => exact w.elim
  | own i =>
    intro v G' H' b r
    simp only [IL.dem] at w
    cases e : δ'[i]? with
    | none => rw [e] at w; exact w.elim
    | some s =>
      rw [e] at w
      have r' : σ[i]? = some (some v) := r
      cases s with
      | un => exact w.elim
      | xc _ _ => exact w.elim
      | im x =>
        obtain ⟨u, q1, q2⟩ := b.st.env i _ e
        rw [r'] at q1
        cases q1
        exact w v G' H' b q2
      | ow o =>
        cases o with
        | dct kvs => exact w.elim
        | lst ds =>
          by_cases hk : C.kp ≤ i
          · simp only [if_pos hk] at w
            obtain ⟨l, G2, q1, q2, q3⟩ := aft_freeze b.st e hk
            rw [r'] at q1
            cases q1
            exact w _ G2 H' (b.trans q2) q3
          · simp only [if_neg hk] at w
            exact w.elim
theorem want_demR {P : V → Hp → Prop} {r : IL.R Val} (w : Want (relD C.K) C δ σ G H (r.bind (IL.dem C.kp)) P) : Want (relV C.K) C δ σ G H r P := by
  cases r with
  | ok a δ' => exact want_dem w
  | ex c fs δ' => exact w
  | no => exact w
theorem wantS_demR {P : V → Hp → Prop} {r : IL.R Val} {k : D → Env → IL.R Fl} {De : Ends} (w : WantS C δ σ G H (r.bind fun v δ1 => (IL.dem C.kp v δ1).bind k) De)
    (h : ∀ d δ1 v G1 H1, Aft C δ σ G H δ1 σ G1 H1 → Dp C.K G1 v d → WantS C δ1 σ G1 H1 (k d δ1) De → P v H1) : Want (relV C.K) C δ σ G H r P := by
  cases r with
  | ok a δ' => exact want_dem (wantS_bind w fun d δ1 v G1 H1 b q w1 => h d δ1 v G1 H1 b q w1)
  | ex c fs δ' => exact fun d G' H' b r => w d σ G' H' b r
  | no => exact w
theorem want_demRk {α β : Type} {rel : Rel α β} {P : V → Hp → Prop} {r : IL.R Val} {k : D → Env → IL.R α} {Q : β → Hp → Prop} (hb : Back rel) (w : Want rel C δ σ G H (r.bind fun v δ1 => (IL.dem C.kp v δ1).bind k) Q)
    (h : ∀ d δ1 v G1 H1, Aft C δ σ G H δ1 σ G1 H1 → Dp C.K G1 v d → Want rel C δ1 σ G1 H1 (k d δ1) Q → P v H1) : Want (relV C.K) C δ σ G H r P := by
  cases r with
  | ok a δ' => exact want_dem (want_bind hb w fun d δ1 v G1 H1 b q w1 => h d δ1 v G1 H1 b q w1)
  | ex c fs δ' => exact w
  | no => exact w
end
end J
end
section
set_option Elab.async false
set_option linter.all false
set_option maxRecDepth 100000
set_option maxHeartbeats 1000000
/-! DR: rules of operators and built-ins over data (Dp), for the calculus DW. -/
namespace DR
open PySem PySem.Spec PyProof.Rows L2
abbrev St := L2.St
section
variable {X : Cx}
/-! ### one of two rules -/
def orR (r1 r2 : R2) : R2 := fun x y H Q => r1 x y H Q ∨ r2 x y H Q
theorem or_op {f : Value → Value → Sem Value} {r1 r2 : R2} (h1 : OpR X f r1) (h2 : OpR X f r2) : OpR X f (orR r1 r2) := fun pins s σ H x y v u Q I rx ry h => h.elim (h1 pins s σ H x y v u Q I rx ry) (h2 pins s σ H x y v u Q I rx ry)
def orC (r1 r2 : List V → Hp → VK → Prop) : List V → Hp → VK → Prop := fun xs H Q => r1 xs H Q ∨ r2 xs H Q
theorem or_call {f : Value} {r1 r2 : List V → Hp → VK → Prop} (h1 : CallR X f r1) (h2 : CallR X f r2) : CallR X f (orC r1 r2) := fun pins s σ H xs us Q I r h => h.elim (h1 pins s σ H xs us Q I r) (h2 pins s σ H xs us Q I r)
/-! ### comparisons of data -/
def Plain2 (d e : PyData) : Prop := d.plain = true ∧ e.plain = true ∧ min d.depth e.depth ≤ 60
def qEq (K : PySem.W.Frag) (neg : Bool) : R2 := fun x y H Q => ∃ d e, Dp K H x d ∧ Dp K H y e ∧ Plain2 d e ∧ Q (.bl (if neg then !PyData.eqv d e else PyData.eqv d e)) H
theorem op_qEq (hu : X.A.units + 64 < cLine) : OpR X (compareOp .Eq) (qEq X.K false) := by
  intro pins s σ H x y v u Q I rx ry ⟨d, e, hd, he, ⟨p1, p2, p3⟩, q⟩
  obtain ⟨as, r1⟩ := Dp.reads I d x v hd rx
  obtain ⟨bs, r2⟩ := Dp.reads I e y u he ry
  exact SeqAt.eq_plain r1 r2 p1 p2 (by omega) ⟨.bl _, H, I, rfl, q⟩
theorem op_qNe (hu : X.A.units + 64 < cLine) : OpR X (compareOp .NotEq) (qEq X.K true) := by
  intro pins s σ H x y v u Q I rx ry ⟨d, e, hd, he, ⟨p1, p2, p3⟩, q⟩
  obtain ⟨as, r1⟩ := Dp.reads I d x v hd rx
  obtain ⟨bs, r2⟩ := Dp.reads I e y u he ry
  exact SeqAt.ne_plain r1 r2 p1 p2 (by omega) ⟨.bl _, H, I, rfl, q⟩
open PySem.W (alike alikeAll dataLt) in
def Ordered (d e : PyData) : Prop := alike d e = true ∧ d ≠ .none ∧ min d.depth e.depth ≤ 60
/-- the answer of an order: lt, gt, le, ge -/
inductive Ord | lt | gt | le | ge
open PySem.W (dataLt) in
def Ord.ask (o : Ord) (d e : PyData) : Bool := match o with
  | .lt => dataLt d e
  | .gt => dataLt e d
  | .le => !dataLt e d
  | .ge => !dataLt d e
def qOrd (K : PySem.W.Frag) (o : Ord) : R2 := fun x y H Q => ∃ d e, Dp K H x d ∧ Dp K H y e ∧ Ordered d e ∧ Q (.bl (o.ask d e)) H
theorem op_qLt (hu : X.A.units + 64 < cLine) : OpR X (compareOp .Lt) (qOrd X.K .lt) := by
  intro pins s σ H x y v u Q I rx ry ⟨d, e, hd, he, ⟨p1, p2, p3⟩, q⟩
  obtain ⟨as, r1⟩ := Dp.reads I d x v hd rx
  obtain ⟨bs, r2⟩ := Dp.reads I e y u he ry
  exact PySem.W.lt_data r1 r2 p1 p2 (by omega) ⟨.bl _, H, I, rfl, q⟩
theorem op_qGt (hu : X.A.units + 64 < cLine) : OpR X (compareOp .Gt) (qOrd X.K .gt) := by
  intro pins s σ H x y v u Q I rx ry ⟨d, e, hd, he, ⟨p1, p2, p3⟩, q⟩
  obtain ⟨as, r1⟩ := Dp.reads I d x v hd rx
  obtain ⟨bs, r2⟩ := Dp.reads I e y u he ry
  exact PySem.W.gt_data r1 r2 p1 p2 (by omega) ⟨.bl _, H, I, rfl, q⟩
theorem op_qLe (hu : X.A.units + 64 < cLine) : OpR X (compareOp .LtE) (qOrd X.K .le) := by
  intro pins s σ H x y v u Q I rx ry ⟨d, e, hd, he, ⟨p1, p2, p3⟩, q⟩
  obtain ⟨as, r1⟩ := Dp.reads I d x v hd rx
  obtain ⟨bs, r2⟩ := Dp.reads I e y u he ry
  exact PySem.W.le_data r1 r2 p1 p2 (by omega) ⟨.bl _, H, I, rfl, q⟩
theorem op_qGe (hu : X.A.units + 64 < cLine) : OpR X (compareOp .GtE) (qOrd X.K .ge) := by
  intro pins s σ H x y v u Q I rx ry ⟨d, e, hd, he, ⟨p1, p2, p3⟩, q⟩
  obtain ⟨as, r1⟩ := Dp.reads I d x v hd rx
  obtain ⟨bs, r2⟩ := Dp.reads I e y u he ry
  exact PySem.W.ge_data r1 r2 p1 p2 (by omega) ⟨.bl _, H, I, rfl, q⟩
/-- x in a list or tuple -/
def qIn (K : PySem.W.Frag) (neg : Bool) : R2 := fun x y H Q => ∃ d es, Dp K H x d ∧ (Dp K H y (.list es) ∨ Dp K H y (.tuple es)) ∧ d.plain = true ∧ PyData.plainAll es = true ∧ min (PyData.depthAll es) d.depth ≤ 60 ∧
  Q (.bl (if neg then !es.any (fun y => PyData.eqv y d) else es.any (fun y => PyData.eqv y d))) H
theorem op_qIn (hu : X.A.units + 64 < cLine) : OpR X (compareOp .In) (qIn X.K false) := by
  intro pins s σ H x y v u Q I rx ry ⟨d, es, hd, he, p1, p2, p3, q⟩
  obtain ⟨as, r1⟩ := Dp.reads I d x v hd rx
  rcases he with he | he
  · obtain ⟨bs, r2⟩ := Dp.reads I (.list es) y u he ry
    exact SeqAt.in_list_data r2 r1 p2 p1 (by omega) ⟨.bl _, H, I, rfl, q⟩
  · obtain ⟨bs, r2⟩ := Dp.reads I (.tuple es) y u he ry
    exact SeqAt.in_tuple_data r2 r1 p2 p1 (by omega) ⟨.bl _, H, I, rfl, q⟩
theorem op_qNotIn (hu : X.A.units + 64 < cLine) : OpR X (compareOp .NotIn) (qIn X.K true) := by
  intro pins s σ H x y v u Q I rx ry ⟨d, es, hd, he, p1, p2, p3, q⟩
  obtain ⟨as, r1⟩ := Dp.reads I d x v hd rx
  rcases he with he | he
  · obtain ⟨bs, r2⟩ := Dp.reads I (.list es) y u he ry
    exact SeqAt.notIn_list_data r2 r1 p2 p1 (by omega) ⟨.bl _, H, I, rfl, q⟩
  · obtain ⟨bs, r2⟩ := Dp.reads I (.tuple es) y u he ry
    exact SeqAt.notIn_tuple_data r2 r1 p2 p1 (by omega) ⟨.bl _, H, I, rfl, q⟩
/-- one sign in a text -/
def qInS (neg : Bool) : R2 := fun x y H Q => ∃ (c : Nat) (z : Str), x = .str ⟨#[c]⟩ ∧ y = .str z ∧ Q (.bl (if neg then !decide (c ∈ z.cps.toList) else decide (c ∈ z.cps.toList))) H
theorem op_qInS : OpR X (compareOp .In) (qInS false) := op_in_sign
theorem op_qNotInS : OpR X (compareOp .NotIn) (qInS true) := op_notIn_sign
/-! ### + of anything -/
def qAddS : R2 := fun x y H Q => ∃ i j, x = .str i ∧ y = .str j ∧ i.length + j.length ≤ sizeLine ∧ Q (.str (i ++ j)) H
theorem op_qAddS : OpR X (binaryOp .Add) qAddS := op_add_str
/-- two lists, however they stand -/
def qCatL (K : PySem.W.Frag) : R2 := fun x y H Q => ∃ a b xs ys, x = .ref a ∧ y = .ref b ∧ SqL K H a xs ∧ SqL K H b ys ∧ xs.length + ys.length ≤ sizeLine ∧ ∀ p, H p = none → Q (.ref p) (upd H p (.lst (xs ++ ys)))
theorem op_qCatL : OpR X (binaryOp .Add) (qCatL X.K) := by
  intro pins s σ H x y v u Q I rx ry ⟨a, b, xs, ys, ex, ey, ha, hb, hz, q⟩
  subst ex ey
  cases rx
  cases ry
  obtain ⟨its, r1, p1, _⟩ := I.list ha
  obtain ⟨jts, r2, p2, _⟩ := I.list hb
  obtain ⟨⟨c1, dd1, da1, sl1⟩, e1, hc1, n1, hd1⟩ := p1.isList
  obtain ⟨⟨c2, dd2, da2, sl2⟩, e2, hc2, n2, hd2⟩ := p2.isList
  simp only at hc1 hd1 hc2 hd2
  subst hc1 hd1 hc2 hd2
  have l1 := r1.length
  have l2 := r2.length
  have es : its.toArray ++ jts.toArray = (its ++ jts).toArray := by simp
  refine concat_meets ⟨_, e1, rfl⟩ ⟨_, e2, rfl⟩ noFill_list_add seq_list_add PySem.F.slot_list_add PySem.F.entry_list_add (PySem.F.args_list_add_2 _ _)
    (list_addW a b its.toArray jts.toArray n1 n2 dd1 dd2 sl1 sl2 (by rw [List.size_toArray, List.size_toArray]; omega)) ⟨e1, e2, ?_⟩
  rw [es]
  exact ⟨.ref _, _, I.lnew (t' := s.toks) (r1.append r2) (by rw [List.length_append]; omega), rfl, q _ I.fresh⟩
/-! ### repr -/
mutual
theorem hasDict_of {K : PySem.W.Frag} {H : Hp} : ∀ (d : PyData) (v : V), Dp K H v d → d.hasDict = false
  | .none, _, _ => rfl
  | .bool _, _, _ => rfl
  | .int _, _, _ => rfl
  | .str _, _, _ => rfl
  | .list ds, _, h => by
    cases h with
    | lst _ ha => simpa [PyData.hasDict] using hasDictAll_of ds _ ha
  | .tuple ds, _, h => by
    cases h with
    | tup _ ha => simpa [PyData.hasDict] using hasDictAll_of ds _ ha
  | .dict _, _, h => by cases h
theorem hasDictAll_of {K : PySem.W.Frag} {H : Hp} : ∀ (ds : List PyData) (vs : List V), DpAll K H vs ds → PyData.hasDictAll ds = false
  | [], _, _ => rfl
  | d :: ds, _, h => by
    cases h with
    | cons h1 h2 => simp [PyData.hasDictAll, hasDict_of d _ h1, hasDictAll_of ds _ h2]
end
def qRepr (K : PySem.W.Frag) : List V → Hp → VK → Prop := fun xs H Q => ∃ v d, xs = [v] ∧ Dp K H v d ∧ d.showable = true ∧ d.depth ≤ 60 ∧ d.shown.length ≤ sizeLine ∧ Q (.str d.shown) H
theorem call_qRepr (c : X.A.guards = some []) (hu : X.A.units + 64 < cLine) : CallR X (.builtin "repr") (qRepr X.K) := by
  intro pins s σ H xs us Q I r ⟨v, d, ex, hd, hs, hdp, hz, q⟩
  subst ex
  obtain ⟨u, eu, ru⟩ := vals1 r
  subst eu
  obtain ⟨as, rd⟩ := Dp.reads I d v u hd ru
  have nd := hasDict_of d v hd
  cases hd with
  | non =>
    cases ru
    exact PySem.P.repr_of_none ⟨.str _, H, I.tok _, ⟨_, rfl⟩, q⟩
  | bl b =>
    cases ru
    exact PySem.P.repr_of_bool ⟨.str _, H, I.tok _, ⟨_, rfl⟩, q⟩
  | int i =>
    obtain ⟨t, rfl⟩ := ru
    exact PySem.P.repr_of_int (by simpa [PyData.showable] using hs) ⟨.str _, H, I.tok _, ⟨_, rfl⟩, q⟩
  | str x =>
    obtain ⟨t, rfl⟩ := ru
    exact PySem.P.repr_of_str ⟨.str _, H, I.tok _, ⟨_, rfl⟩, q⟩ (by simpa only [PyData.shown] using hz)
  | lst _ _ =>
    cases ru
    exact repr_of_reads' rd hs (fun z => by rw [nd] at z; cases z) c (by omega) (fun _ _ e => e) (fun h' u tk k => ⟨.str _, H, I.kept k, ⟨_, rfl⟩, q⟩) hz
  | tup _ _ =>
    cases ru
    exact repr_of_reads' rd hs (fun z => by rw [nd] at z; cases z) c (by omega) (fun _ _ e => e) (fun h' u tk k => ⟨.str _, H, I.kept k, ⟨_, rfl⟩, q⟩) hz
/-! ### min(x, key=len, default=None) of a list of lists and tuples: one of them, None where there is none -/
def lenD : PyData → Nat
  | .list es => es.length
  | .tuple es => es.length
  | _ => 0
/-- the place of the first item whose length is the least -/
def minLenAt (ds : List PyData) : Nat := PySem.argBest (fun i j => decide ((lenD (ds.getD i .none) : Int) < (lenD (ds.getD j .none) : Int))) (ds.length - 1)
def qMinLen (K : PySem.W.Frag) : List V → Hp → VK → Prop := fun xs H Q => ∃ a vs ds, xs = [.ref a] ∧ SqL K H a vs ∧ DpAll K H vs ds ∧ (∀ d ∈ ds, ∃ es, d = .list es ∨ d = .tuple es) ∧ (ds = [] → Q .non H) ∧ ∀ v, vs[minLenAt ds]? = some v → Q v H
theorem min_len_at {w : World} {P : Program} {A : Around} {E : Value → Shared → Prop} {s : Shared} {l : Addr} {vs : Array Value} (ln : Nat → Nat) {Q : Value → Shared → Prop} (hh : A.handled = none) (hl : s.heap.IsList l vs)
    (hlen : ∀ i v, vs[i]? = some v → ∀ s' : Shared, (∀ b o, s.heap.get? b = some o → s'.heap.get? b = some o) → ∀ (Q : Value → Shared → Prop) (E : Value → Shared → Prop), (∀ t tk, s'.toks ≤ tk → Q (.int (ln i) t) { s' with toks := tk }) → wpAny (model P w) A.in1 (call (.builtin "len") [v]) Q E s')
    (h : ∀ s' : Shared, (∀ b o, s.heap.get? b = some o → s'.heap.get? b = some o) → s'.gens = s.gens → s'.os = s.os → (vs.size = 0 → Q .none s') ∧ ∀ v, vs[argBest (fun i j => decide ((ln i : Int) < (ln j : Int))) (vs.size - 1)]? = some v → Q v s') :
    wpAny (model P w) A (call (.builtin "min") [.ref l] [(Str.ofString "key", .builtin "len"), (Str.ofString "default", .none)]) Q E s := by
  refine call_min_walkKBD (PySem.W.iter_listW hh hl fun s₂ e2 W st fp old keep => ?_)
  have J0 : ∀ b o, s.heap.get? b = some o → s₂.heap.get? b = some o := keep
  refine ⟨_, _, _, _, _, _, _, fun s' => (∀ b o, s.heap.get? b = some o → s'.heap.get? b = some o) ∧ s'.gens = s.gens ∧ s'.os = s.os, fun i k s' => ∃ t, k = .int (ln i) t, fun i j => decide ((ln i : Int) < (ln j : Int)), rfl, W, st, fp, ?_, ⟨keep, by rw [e2], by rw [e2]⟩, fun hn s' j => (h s' j.1 j.2.1 j.2.2).1 hn, fun hn v s' hv j => (h s' j.1 j.2.1 j.2.2).2 v hv⟩
  have S0 : s.heap.objs.size ≤ s₂.heap.objs.size := by
    rw [e2]
    show s.heap.objs.size ≤ (s.heap.push _).objs.size
    rw [Heap.size_push]
    exact Nat.le_succ _
  have low : ∀ {b : Addr} {o : Obj}, s.heap.get? b = some o → b ∉ s₂.heap.objs.size :: [s.heap.objs.size] := fun {b o} e hm => by
    have hb := Heap.lt_size e
    rcases List.mem_cons.mp hm with z | z
    · exact Nat.lt_irrefl _ (Nat.lt_of_lt_of_le (z ▸ hb) S0)
    · exact Nat.lt_irrefl _ ((List.mem_singleton.mp z) ▸ hb)
  refine ⟨fun s1 s' j m => ⟨fun b o e => m.heap b o (low e) (j.1 b o e), m.gens.trans j.2.1, m.os.trans j.2.2⟩, fun i k s1 s' v m => v, fun i v s1 o Q E hi hP j st' hS hQ => ?_, fun i j ki kj s1 Q E _ ⟨t, e⟩ ⟨u, e'⟩ q => ?_⟩
  · refine hlen i v hP s1 j.1 Q E fun t tk htk => hQ _ _ ⟨j.1, j.2.1, j.2.2⟩ ?_ hS ⟨t, rfl⟩ fun _ _ z => z
    exact W.frame _ s1 s1.heap _ st' htk fun b _ o e => e
  · subst e e'
    exact lt_int q
theorem pe_minLen {p q pos : Pos} {k1 k2 : Pos} {j : Nat} {c : Pos} {a : Expr} {t : TA} (hc : X.calm = true) (hg : Gl X "min") (hm : X.mg "min" = none) (hgl : Gl X "len") (hml : X.mg "len" = none) (ha : PA X [a] t)
    (he : backTo pos (starEach [a] X.env) = (false, eval a X.env) :: backTo pos (starEach [] X.env) := by rfl) (hpl : (backTo pos (starEach [a] X.env)).any (·.1) = false := by rfl) :
    PE X (.Call (.Name "min" p) [a] [⟨some "key", .Name "len" q, k1⟩, ⟨some "default", .Constant .none j c, k2⟩] pos) (tCB (qMinLen X.K) t) := by
  refine ⟨fun pins s σ H Q I h => ?_⟩
  have hmin : bootBuiltins "min" = some (.builtin "min") := by decide +kernel
  have hlen : bootBuiltins "len" = some (.builtin "len") := by decide +kernel
  refine wpAny_Call_Name_kw (ld_blt I hg hm hmin ?_)
  refine PyProof.Rows.callWith_kw (thn (ha.run pos pins s σ H _ I h) fun us s1 ⟨xs1, H1, I1, r1, a, vs, ds, ev, hsq, hall, hs, q0, q1⟩ => ?_) he hpl
  subst ev
  obtain ⟨u, eu, ru⟩ := vals1 r1
  subst eu
  show wpAny _ _ (evalAll ((do let v ← eval (.Name "len" q) X.env; standAt pos; pure v) :: (do let v ← eval (.Constant .none j c) X.env; standAt pos; pure v) :: [])) _ _ s1
  refine wpAny_evalAll_cons (wpAny_bind (ld_blt I1 hgl hml hlen (wpAny_bind (wpAny_standAt (wpAny_pure ?_)))))
  refine wpAny_evalAll_cons (wpAny_bind (Constant_none (wpAny_bind (wpAny_standAt (wpAny_pure ?_)))))
  refine wpAny_evalAll_nil ?_
  cases ru
  obtain ⟨its, rv, pl, hz⟩ := I1.list hsq
  show wpAny _ _ (call (.builtin "min") [.ref a] [(Str.ofString "key", .builtin "len"), (Str.ofString "default", .none)]) _ _ _
  have at_ : ∀ (i : Nat) (v : Value), its.toArray[i]? = some v → ∃ (x : V) (d : PyData), ds[i]? = some d ∧ RelV x v ∧ Dp X.K H1 x d ∧ vs[i]? = some x := fun i v e => by
    have e1 : its[i]? = some v := by simpa using e
    cases hx : vs[i]? with
    | none =>
      rw [rv.none_of hx] at e1
      cases e1
    | some x =>
      obtain ⟨u, e2, r⟩ := rv.get hx
      rw [e1] at e2
      cases e2
      obtain ⟨d, e3, hd3⟩ := DpAll.getV hall hx
      exact ⟨x, d, e3, r, hd3, rfl⟩
  refine min_len_at (fun i => lenD (ds.getD i .none)) (I1.ok.hd hc) pl.isList (fun i v e s' ks Q' E' hq => ?_) fun s' ks kg ko => ⟨fun hn => ?_, fun v e => ?_⟩
  · obtain ⟨y, d, e1, r, hd1, _⟩ := at_ i v e
    obtain ⟨es, z⟩ := hs d (List.mem_of_getElem? e1)
    have hn := line63
    rcases z with z | z
    · subst z
      obtain ⟨b, ws, rfl, hb, hw⟩ := Dp.list_of hd1
      cases r
      obtain ⟨jts, rj, pj, hj⟩ := I1.list hb
      have hl := rj.length
      have hl2 := DpAll.length hw
      obtain ⟨o, ho, hc', n, hdt⟩ := pj.isList
      refine Calls.call_len_list ⟨o, ks _ _ ho, hc', n, hdt⟩ (by rw [List.size_toArray]; omega) ?_
      have q2 := hq (s'.toks + 1) (s'.toks + 1 + 1) (by omega)
      rw [List.getD_eq_getElem?_getD, e1] at q2
      rw [List.size_toArray, ← hl, hl2]
      exact q2
    · subst z
      obtain ⟨b, ws, rfl, hb, hw⟩ := Dp.tuple_of hd1
      cases r
      obtain ⟨jts, rj, pj, hj⟩ := I1.tuple hb
      have hl := rj.length
      have hl2 := DpAll.length hw
      obtain ⟨o, ho, hc', n, hdt⟩ := pj
      refine len_tuple ⟨o, ks _ _ ho, hc', n, hdt⟩ (by rw [List.size_toArray]; omega) ?_
      have q2 := hq (s'.toks + 1) (s'.toks + 1 + 1) (by omega)
      rw [List.getD_eq_getElem?_getD, e1] at q2
      rw [List.size_toArray, ← hl, hl2]
      exact q2
  · have hds : ds = [] := by
      have l1 := rv.length
      have l2 := DpAll.length hall
      have l3 : its.length = 0 := by simpa using hn
      exact List.eq_nil_of_length_eq_zero (by omega)
    exact ⟨.non, H1, I1.call' (ch := []) ko (Un.kept ks) (I1.hok.kept ks) (by rw [kg]; exact I1.bare) (fun _ z => by cases z), rfl, q0 hds⟩
  · obtain ⟨y, d, e1, r, hd1, ey⟩ := at_ _ v e
    have hsz : its.toArray.size = ds.length := by
      have l1 := rv.length
      have l2 := DpAll.length hall
      rw [List.size_toArray]
      omega
    rw [hsz] at ey
    exact ⟨y, H1, I1.call' (ch := []) ko (Un.kept ks) (I1.hok.kept ks) (by rw [kg]; exact I1.bare) (fun _ z => by cases z), r, q1 y ey⟩
end
end DR
end
section
set_option Elab.async false
set_option linter.all false
set_option maxRecDepth 100000
set_option maxHeartbeats 4000000
/-! DS: set(xs) of a list or a tuple of ints, for sorted(set(xs)). -/
namespace DS
open PySem PySem.Spec PyProof.Rows L2 PySem.F
abbrev St := L2.St
/-- the object of a set that is being made -/
abbrev bare (w : World) : Obj := { cls := .type "set", dict := none, data := .set #[] 0 (.fresh 0 0 (!w.params.followText "set-order")) }
section
variable {P : Program} {w : World} {A : Around} {E : Value → Shared → Prop} {s : Shared}
theorem int_at_place {items : Array Value} {ns : List Int} (h : IntsAre items.toList ns) (hz : items.size = ns.length) (i : Nat) (v : Value) (e : items[i]? = some v) : ∃ k t, ns[i]? = some k ∧ v = .int k t := by
  have lt : i < ns.length := hz ▸ (Array.getElem?_eq_some_iff.mp e).1
  obtain ⟨t, q⟩ := IntsAre.int_at h i v (by rw [Array.getElem?_toList]; exact e)
  refine ⟨ns[i], t, List.getElem?_eq_getElem lt, q.trans ?_⟩
  rw [List.getD_eq_getElem?_getD, List.getElem?_eq_getElem lt]
  rfl
/-- the new set at its address, filled from the list -/
theorem fill_list {l : Addr} {items : Array Value} (ns : List Int) {R : Fin → Shared → Prop} (hh : A.handled = none) (hl : s.heap.IsList l items) (hi : IntsAre items.toList ns) (hb : ns.length + 1 < scanBound)
    (hR : ∀ (h' : Heap) (tk c : Nat), SetR w h' s.heap.objs.size (fun j => decide (j ∈ ns)) c → c ≤ ns.length → (∀ b o, s.heap.get? b = some o → h'.get? b = some o) → R (.done (.ret .none)) { s with heap := h', toks := tk }) :
    wpAny (model P w) A (Builtin.«set.__init__» ⟨[.ref s.heap.objs.size, .ref l], []⟩) R E { s with heap := s.heap.push (bare w) } := by
  have hz : items.size = ns.length := (Array.length_toList (xs := items)).symm.trans (IntsAre.length hi)
  have lt : l < s.heap.objs.size := by
    obtain ⟨_, e, _⟩ := hl
    exact Heap.lt_size e
  obtain ⟨⟨oc, od, oda, osl⟩, e, hc, n, hd⟩ := id hl
  simp only at hc hd
  subst hc hd
  have atS : (s.heap.push (bare w)).get? s.heap.objs.size = some (bare w) := Heap.get?_push_size _ rfl
  have atL := Heap.get?_push_of_some (bare w) e
  have isL : (s.heap.push (bare w)).IsList l items := ⟨_, atL, rfl, n, rfl⟩
  have q1 := sub_list_set
  have q2 := sub_list_frozenset
  have q3 : (Value.type "list" == Value.type "dict") = false := by decide
  unfold Builtin.«set.__init__» noKeywords Builtin.Frozenset.updateFrom
  generalize hPI : pyIter = PI
  wp_walk
  subst hPI
  refine wpAny_pyIter_list isL (wpAny_bind (wpAny_runValue ?_))
  have sz : (s.heap.push (bare w)).objs.size = s.heap.objs.size + 1 := Heap.size_push ..
  have neI : l ≠ (s.heap.push (bare w)).objs.size := by
    rw [sz]
    exact Nat.ne_of_lt (Nat.lt_succ_of_lt lt)
  have W := (Walks.list (prog := P) (w := w) (A := A.in1) (by simp [hh]) _ l neI items).toS
  have notS : s.heap.objs.size ∉ [(s.heap.push (bare w)).objs.size, l] := by
    rw [sz]
    intro h
    rcases List.mem_cons.mp h with z | z
    · exact absurd z (Nat.ne_of_lt (Nat.lt_succ_self _))
    · exact absurd (List.mem_singleton.mp z) (Nat.ne_of_gt lt)
  refine set_update_ints W s.heap.objs.size notS ns hz hb (int_at_place hi hz) items.size 0 _ rfl (Nat.zero_le _) ⟨⟨_, Heap.get?_push_size _ rfl, rfl, rfl⟩, isL.push _⟩ ⟨0, Nat.le_refl 0, setR_new_at (Heap.get?_push_of_some _ atS)⟩ fun s' c m hc hS => ?_
  obtain ⟨h', g', d', tk', os'⟩ := s'
  obtain rfl : g' = s.gens := m.gens
  obtain rfl : d' = s.drawn := m.drawn
  obtain rfl : os' = s.os := m.os
  refine wpAny_pure (wpAny_pure (hR h' tk' c hS (by omega) fun b o q => ?_))
  have lb := Heap.lt_size q
  refine m.heap b o (fun h => ?_) (Heap.get?_push_of_some _ (Heap.get?_push_of_some _ q))
  rcases List.mem_cons.mp h with z | z
  · exact absurd z (Nat.ne_of_lt lb)
  · have z' := List.mem_singleton.mp z
    rw [sz] at z'
    exact absurd z' (Nat.ne_of_lt (Nat.lt_succ_of_lt lb))
/-- set(xs) -/
theorem set_of_list {l : Addr} {items : Array Value} (ns : List Int) {Q : Value → Shared → Prop} (hh : A.handled = none) (hl : s.heap.IsList l items) (hi : IntsAre items.toList ns) (hb : ns.length + 1 < scanBound)
    (hQ : ∀ (h' : Heap) (tk c : Nat), SetR w h' s.heap.objs.size (fun j => decide (j ∈ ns)) c → c ≤ ns.length → (∀ b o, s.heap.get? b = some o → h'.get? b = some o) → Q (.ref s.heap.objs.size) { s with heap := h', toks := tk }) :
    wpAny (model P w) A (call (.type "set") [.ref l]) Q E s := by
  obtain ⟨c0, tl, hmro⟩ := called_set.mro
  have f1 := called_set.made
  have f2 := called_set.sub
  have f3 := called_set.notType
  have f4 := called_set.canCreate
  have f5 := typeCall_set_1 (.ref l)
  refine wpAny_call (codeAny_of_tree ?_)
  show wpAny _ _ (callAny (.type "set") _) _ _ _
  refine wpAny_pure ⟨Code.quiet_builtin _ (by decide +kernel), codeAny_builtin PySem.F.entry_type_call ?_⟩
  rw [Around.under_plain (weight_type_call_type "set" [.ref l] []) rfl]
  repeat (any_goals (first | assumption | wp_step))
  have made := code_set_led1 (P := P) (w := w) (A := A.in1) (s := s) (.ref l) (E := E) (Q₁ := fun obj s₁ => obj = .ref s.heap.objs.size ∧ s₁ = { s with heap := s.heap.push (bare w) }) ⟨rfl, rfl⟩
  refine codeAny_mono (by exact made) fun r s₁ hr => ?_
  rcases r with e | fl
  · exact hr
  cases fl with
  | next => exact hr.elim
  | brk => exact hr.elim
  | cont => exact hr.elim
  | ret obj =>
    obtain ⟨rfl, rfl⟩ := hr
    have atS : (s.heap.push (bare w)).get? s.heap.objs.size = some (bare w) := Heap.get?_push_size _ rfl
    have tS : Shared.TypeIs { s with heap := s.heap.push (bare w) } (.ref s.heap.objs.size) "set" := ⟨_, atS, rfl⟩
    have f6 := called_set.init.lookup
    have f7 := called_set.init.bind (.ref s.heap.objs.size)
    repeat (any_goals (first | assumption | wp_step))
    refine codeAny_mono (codeAny_call_builtin (R := wants (fun r s₂ => r = .none ∧ ∃ h' tk c, s₂ = { s with heap := h', toks := tk } ∧ SetR w h' s.heap.objs.size (fun j => decide (j ∈ ns)) c ∧ c ≤ ns.length ∧ (∀ b o, s.heap.get? b = some o → h'.get? b = some o)) E)
      called_set.init.plain entry_set_init (check_set_init_1 tS (fill_list ns (by simp [hh]) hl hi hb fun h' tk c k1 k2 k3 => ⟨rfl, h', tk, c, rfl, k1, k2, k3⟩))) fun r₂ s₂ hr₂ => ?_
    rcases r₂ with e | fl₂
    · exact hr₂
    cases fl₂ with
    | next => exact hr₂.elim
    | brk => exact hr₂.elim
    | cont => exact hr₂.elim
    | ret r =>
      obtain ⟨rfl, h', tk, c, rfl, k1, k2, k3⟩ := hr₂
      repeat (any_goals (first | assumption | wp_step))
      exact hQ _ _ _ k1 k2 k3
end
section
variable {X : Cx}
/-- set(xs) of a list or a tuple of ints -/
def qSetI (K : PySem.W.Frag) (w : World) : List V → Hp → VK → Prop := fun xs H Q => ∃ (a : Addr) (ns : List Int), xs = [.ref a] ∧ (SqL K H a (ns.map V.int) ∨ SqT K H a (ns.map V.int)) ∧ ns.length < 60 ∧
  ∀ p c, H p = none → c ≤ ns.length → Q (.ref p) (upd H p (SetO w p (fun j => decide (j ∈ ns)) c))
theorem call_qSetI (hc : X.calm = true) : CallR X (.type "set") (qSetI X.K X.w) := by
  intro pins s σ H xs us Q I r ⟨a, ns, ex, hs, hz, q⟩
  subst ex
  obtain ⟨u, eu, ru⟩ := vals1 r
  subst eu
  cases ru
  have hb : ns.length + 1 < scanBound := by
    have : (62 : Nat) ≤ scanBound := by decide
    omega
  have fin : ∀ (h' : Heap) (tk c : Nat), SetR X.w h' s.heap.objs.size (fun j => decide (j ∈ ns)) c → c ≤ ns.length → (∀ b o, s.heap.get? b = some o → h'.get? b = some o) → EP X pins σ Q (.ref s.heap.objs.size) { s with heap := h', toks := tk } :=
    fun h' tk c k1 k2 k3 => ⟨.ref _, _, I.laid k3 (Nat.le_refl _) (setO_new k1), rfl, q _ c (I.hok.fresh (Nat.le_refl _)) k2⟩
  rcases hs with hs | hs
  · obtain ⟨its, rv, pl, _⟩ := I.list hs
    exact set_of_list ns (I.ok.hd hc) pl.isList (by simpa using ints_of_vals rv) hb fin
  · obtain ⟨its, rv, pl, _⟩ := I.tuple hs
    exact call_set_tupI ns (I.ok.hd hc) pl (by simpa using ints_of_vals rv) hb fin
end
end DS
end
section
set_option Elab.async false
set_option linter.all false
set_option maxRecDepth 100000
set_option maxHeartbeats 4000000
/-! JL: sorted(t) of a tuple of ints; which item min(xs, key=len, default=None) gives. -/
namespace JL
open PySem PySem.Spec PyProof.Rows L2 PySem.F
section
variable {prog : Program} {w : World} {A : Around} {E : Value → Shared → Prop} {s : Shared}
/-- the heap behind the collecting of the items -/
def gath (h : Heap) (xs : Array Value) : Heap := (h.push { cls := .type "list", data := .seq ([] : List Value).toArray }).update h.objs.size (Obj.mapSeq (· ++ xs))
theorem gath_size (h : Heap) (xs : Array Value) : (gath h xs).objs.size = h.objs.size + 1 := by
  unfold gath
  rw [Heap.size_update]
  exact Heap.size_push ..
theorem gath_old {h : Heap} {xs : Array Value} {b : Addr} {u : Obj} (q : h.get? b = some u) : (gath h xs).get? b = some u := by
  unfold gath
  rw [Heap.get?_update_other _ _ (Nat.ne_of_gt (Heap.lt_size q))]
  exact Heap.get?_push_of_some _ q
theorem collect_any {l : Addr} {T : String} {u : Obj} {xs : Array Value} {n : Nat} {Q : List Value → Shared → Prop} (hT : T = "list" ∨ T = "tuple") (hu : s.heap.get? l = some u) (hc : u.cls = .type T) (hd : u.data = .seq xs n) (hz : xs.size ≤ sizeLine)
    (hQ : Q xs.toList { s with heap := gath s.heap xs }) : wpAny (model prog w) A (collect (.ref l)) Q E s := by
  have new0 : (s.heap.push { cls := .type "list", data := .seq ([] : List Value).toArray }).get? s.heap.objs.size = some { cls := .type "list", data := .seq #[] 0 } := Heap.get?_push_size _ rfl
  have new1 := Heap.get?_update_self (Obj.mapSeq (· ++ xs)) new0 rfl
  have last : wpAny (model prog w) A (do
      let o ← load s.heap.objs.size
      match o.data with
      | .seq ys _ => pure ys.toList
      | _ => unsupported "internal:collect") Q E { s with heap := gath s.heap xs } := by
    refine wpAny_bind (wpAny_load new1 (wpAny_pure ?_))
    have e : ((#[] : Array Value) ++ xs).toList = xs.toList := by rw [Array.empty_append]
    show Q ((#[] : Array Value) ++ xs).toList { s with heap := gath s.heap xs }
    rw [e]
    exact hQ
  have grow := wpAny_extend_seq (prog := prog) (w := w) (hsz := hz) (A := A) (R := fun r z => r = .ok (.ret (.ref s.heap.objs.size)) ∧ z = { s with heap := gath s.heap xs })
    (s := { s with heap := s.heap.push { cls := .type "list", data := .seq ([] : List Value).toArray } }) _ l _ 0 hT new0 (Heap.get?_push_of_some _ hu) hc hd ⟨rfl, rfl⟩
  show wpAny _ _ (runValue (.builtin "proto.collect" ⟨[.ref l], []⟩) >>= _) _ _ _
  refine wpAny_bind (wpAny_runValue (codeAny_builtin entry_proto_collect ?_))
  rw [Around.under_plainId plain_proto_collect _]
  show wpAny _ _ (newList [] >>= fun z => again (.builtin "list.__iadd__" ⟨[z, .ref l], []⟩)) _ _ _
  refine wpAny_bind (wpAny_newObj_type (wpAny_pure ⟨plainId_quiet plain_list_iadd _, codeAny_builtin PySem.F.entry_list_iadd ?_⟩))
  rw [Around.under_plainId plain_list_iadd _]
  refine wpAny_mono grow (fun f z hz' => ?_) fun e z hz' => absurd hz'.1 (by simp)
  cases f with
  | done f =>
    obtain ⟨e, rfl⟩ := hz'
    cases e
    exact last
  | again c' => exact ⟨hz'.1, codeAny_mono hz'.2 fun r z' ⟨h1, h2⟩ => by subst h1 h2; exact last⟩
/-- sorted(x): x a list or a tuple -/
theorem sorted_seq {l : Addr} {T : String} {o : Obj} {n : Nat} {vs : List Value} {ltv : Value → Value → Bool} {Q : Value → Shared → Prop} (O : SrtO.Swo ltv) (hT : T = "list" ∨ T = "tuple")
    (ho : s.heap.get? l = some o) (hc : o.cls = .type T) (hd : o.data = .seq vs.toArray n) (hz : vs.length ≤ sizeLine)
    (hS : 2 ≤ vs.length → ∀ (h₁ : Heap) (a : Addr), SrtO.SortableO prog w A.in1.in1 { s with heap := h₁ } a vs ltv)
    (h : ∀ (h' : Heap) (p : Addr) (out : List Value) (e : Nat), SrtO.Srtd ltv out → SrtO.Stb ltv out vs → (∀ b o', s.heap.get? b = some o' → h'.get? b = some o') → s.heap.objs.size ≤ p → h'.get? p = some (seqObj "list" out.toArray e) → Q (.ref p) { s with heap := h' }) :
    wpAny (model prog w) A (call (.builtin "sorted") [.ref l]) Q E s := by
  refine Calls.call_function_entry kind_sorted plain_sorted entry_sorted (args_sorted1 _) ?_
  unfold Builtin.«sorted»
  refine wpAny_bind (m := checkCount "sorted" 1 1 _) (wpAny_pure ?_)
  refine wpAny_bind (collect_any hT ho hc hd (by rw [List.size_toArray]; exact hz) ?_)
  have hlist : (vs.toArray).toList = vs := rfl
  rw [hlist]
  refine wpAny_bind (wpAny_newList ?_ hz)
  have hoL : ((gath s.heap vs.toArray).push (seqObj "list" vs.toArray 0)).get? (gath s.heap vs.toArray).objs.size = some (seqObj "list" vs.toArray 0) := Heap.get?_push_size _ rfl
  refine wpAny_bind (wpAny_holding (wpAny_call_entry PyProof.Rows.slot_list_sort ⟨_, hoL, rfl⟩ PyProof.Rows.entry_list_sort (SrtO.list_sort_ord O hoL hz (fun h2 => hS h2 _ _) fun out hs hb => ⟨_, rfl, ?_⟩) (args_list_sort _)))
  obtain ⟨e, he⟩ := sortedHeap_at (out := out.toArray) hoL
  refine wpAny_pure ⟨_, rfl, h _ _ out e hs hb (fun b o' q => ?_) (by rw [gath_size]; omega) he⟩
  have q1 : (gath s.heap vs.toArray).get? b = some o' := gath_old q
  have lt := Heap.lt_size q1
  have q2 : ((gath s.heap vs.toArray).push (seqObj "list" vs.toArray 0)).get? b = some o' := Heap.get?_push_of_some _ q1
  rw [sortedHeap_old (Nat.ne_of_lt lt) (Heap.lt_size q2)]
  exact q2
end
section
variable {X : Cx}
/-- sorted(x) of a list or a tuple of ints -/
def rSortedAny (K : PySem.W.Frag) : List V → Hp → VK → Prop := fun vs H Q => ∃ (a : Addr) (ns : List Int), vs = [V.ref a] ∧ (SqL K H a (ns.map V.int) ∨ SqT K H a (ns.map V.int)) ∧
  ∀ (ns' : List Int) (p : Addr), ns'.Perm ns → ns'.Pairwise (· ≤ ·) → H p = none → Q (.ref p) (upd H p (.lst (ns'.map V.int)))
theorem cr_sortedAny : CallR X (.builtin "sorted") (rSortedAny X.K) := by
  intro pins s σ H vs us Q I r h
  obtain ⟨a, ns, ex, hs, q⟩ := h
  subst ex
  rw [Vals.ref1 r]
  have main : ∀ (T : String) (o : Obj) (n : Nat) (its : List Value), (T = "list" ∨ T = "tuple") → s.heap.get? a = some o → o.cls = .type T → o.data = .seq its.toArray n → Vals (ns.map V.int) its → (ns.map V.int).length ≤ sizeLine → wpAny (model X.prog X.w) X.A (call (.builtin "sorted") [.ref a]) (EP X pins σ Q) X.xe s := fun T o n its hT ho hc hd rv hz => by
    have hi := rv.ints
    refine sorted_seq SrtO.swo_int hT ho hc hd (by rw [← rv.length]; exact hz) (fun h2 h₁ a' => SrtO.ints_sortable hi h2) fun h' p out e h1 h2 keep hp he' => ?_
    obtain ⟨k1, k2, k3⟩ := SrtO.ints_out hi h1 h2
    have hlen : ((out.map SrtO.iv).map V.int).length ≤ sizeLine := by
      rw [List.length_map, k2.length_eq]
      rw [List.length_map] at hz
      exact hz
    exact ⟨.ref _, upd H p (.lst ((out.map SrtO.iv).map V.int)), I.laid (t' := s.toks) keep hp ⟨hlen, out, e, vals_of_ints k1, he'⟩, rfl, q _ _ k2 k3 (I.hok.fresh hp)⟩
  rcases hs with hs | hs
  · obtain ⟨its, rv, ⟨o, n, ho, hc, _, hd⟩, hz⟩ := I.list hs
    exact main "list" o n its (.inl rfl) ho hc hd rv hz
  · obtain ⟨its, rv, ⟨o, ho, hc, n, hd⟩, hz⟩ := I.tuple hs
    exact main "tuple" o n its (.inr rfl) ho hc hd rv hz
end
end JL
end
section
set_option Elab.async false
set_option linter.all false
set_option maxRecDepth 100000
set_option maxHeartbeats 4000000
/-! JS: sorted of a list of data. -/
namespace JS
open PySem PySem.Spec PyProof.Rows L2 PySem.W
section
variable {X : Cx}
/-- a value that stands for data, in two heaps -/
def StandsFor (K : PySem.W.Frag) (G H : Hp) (v : Value) (d : PyData) : Prop := ∃ x, RelV x v ∧ Dp K H x d ∧ Dp K G x d
theorem each_of {K : PySem.W.Frag} {G H : Hp} : ∀ {xs : List V} {vs : List Value} {ds : List PyData}, Vals xs vs → DpAll K H xs ds → DpAll K G xs ds → EachIs (StandsFor K G H) vs ds
  | [], _, _, r, h, g => by
    cases r
    cases h
    exact .nil
  | x :: xs, _, _, r, h, g => by
    cases r with
    | cons r1 r2 => cases h with
      | cons h1 h2 => cases g with
        | cons g1 g2 => exact .cons ⟨x, r1, h1, g1⟩ (each_of r2 h2 g2)
theorem of_each {K : PySem.W.Frag} {G H : Hp} : ∀ {vs : List Value} {ds : List PyData}, EachIs (StandsFor K G H) vs ds → ∃ xs, Vals xs vs ∧ DpAll K G xs ds
  | _, _, .nil => ⟨[], .nil, .nil⟩
  | _, _, .cons ⟨x, h1, _, h2⟩ t => by
    obtain ⟨xs, q1, q2⟩ := of_each t
    exact ⟨x :: xs, .cons h1 q1, .cons h2 q2⟩
theorem each_reads {pins : List (Addr × Obj)} {σ : L2.St} {G H : Hp} {s : Shared} (I : Inv X pins σ H s) : ∀ {vs : List Value} {ds : List PyData}, EachIs (StandsFor X.K G H) vs ds → EachIs (fun v d => ∃ as, Reads s.heap v d as) vs ds
  | _, _, .nil => .nil
  | _, _, .cons ⟨x, h1, h2, _⟩ t => .cons (Dp.reads I _ x _ h2 h1) (each_reads I t)
def sortL (ds : List PyData) : List PyData := ds.mergeSort fun a b => !dataLt b a
def rSortData (K : PySem.W.Frag) : List V → Hp → VK → Prop := fun vs H Q => ∃ (a : Addr) (xs : List V) (ds : List PyData) (G : Hp), vs = [V.ref a] ∧ SqL K H a xs ∧ DpAll K H xs ds ∧ DpAll K G xs ds ∧ AllAlike ds ∧ Sortable ds ∧ ds.length ≤ sizeLine ∧ (∀ d ∈ ds, d.depth ≤ 50) ∧
  ∀ (ys : List V) (p : Addr), DpAll K G ys (sortL ds) → H p = none → Q (.ref p) (upd H p (.lst ys))
theorem cr_sortData (hu : X.A.units + 64 < cLine) : CallR X (.builtin "sorted") (rSortData X.K) := by
  intro pins s σ H vs us Q I r h
  obtain ⟨a, xs, ds, G, ex, hs, hx, hg, hal, hk, hL, hd, q⟩ := h
  subst ex
  rw [Vals.ref1 r]
  obtain ⟨its, rv, hl, hz⟩ := I.list hs
  have e := each_of rv hx hg
  have er := each_reads I e
  refine sorted_data (enc := id) (bs := ds) (R := StandsFor X.K G H) hl.isList e er (by rw [List.map_id]; exact hal) (by rw [List.map_id]; exact hk) hL (fun d m => ?_) fun out hn ho => ?_
  · have := hd d m
    show X.A.units + 2 + d.depth < cLine
    omega
  · obtain ⟨ys, q1, q2⟩ := of_each ho
    obtain ⟨ep, he⟩ := sortedAll_at s.heap its (List.toArray out)
    have hlen : ys.length ≤ sizeLine := by
      rw [q1.length, hn]
      exact hL
    exact ⟨.ref _, upd H (s.heap.objs.size + 1) (.lst ys), I.laid (t' := s.toks) (fun _ _ => sortedAll_old) (Nat.le_succ _) ⟨hlen, out, ep, q1, he⟩, rfl, q ys _ q2 (I.hok.fresh (Nat.le_succ _))⟩
end
end JS
end
section
set_option Elab.async false
set_option linter.all false
set_option maxRecDepth 100000
set_option maxHeartbeats 1000000
/-! J3: the operators' readings do what the small language says. -/
namespace J
open PySem L2 PyProof.Rows
open IL (D Ow Slot Val CR RV Fl Bop Cop)

section
variable {C : Ctx} {δ δ' δ1 δ2 : Env} {σ σ' σ1 : St} {G H G' H' G1 H1 G2 H2 : Hp}
def Op2 (C : Ctx) (r : R2) (o : D → D → Option Val) : Prop := ∀ δ σ G H u v d e x Q, Stt C.K δ σ G H → Tp C.K G H u d → Tp C.K G H v e → o d e = some x → Want (relV C.K) C δ σ G H (.ok x δ) Q → r u v H Q
def Op1 (C : Ctx) (r : V → Hp → VK → Prop) (o : D → Option Val) : Prop := ∀ δ σ G H u d x Q, Stt C.K δ σ G H → Tp C.K G H u d → o d = some x → Want (relV C.K) C δ σ G H (.ok x δ) Q → r u H Q
theorem want_op1 {α β : Type} {rel : Rel α β} {o : D → Option α} {x : Val} {Q : β → Hp → Prop} {P : Prop} (w : Want rel C δ σ G H (IL.op1 o x δ) Q) (h : ∀ d a, IL.cur δ x = some d → o d = some a → Want rel C δ σ G H (.ok a δ) Q → P) : P := by
  unfold IL.op1 at w
  cases h1 : IL.cur δ x with
  | none => rw [h1] at w; exact w.elim
  | some d =>
    rw [h1] at w
    cases h2 : o d with
    | none =>
      simp only [Option.bind_some, h2] at w
      exact w.elim
    | some a =>
      simp only [Option.bind_some, h2] at w
      exact h d a h1 h2 w
theorem want_op2 {α β : Type} {rel : Rel α β} {o : D → D → Option α} {x y : Val} {Q : β → Hp → Prop} {P : Prop} (w : Want rel C δ σ G H (IL.op2 o x y δ) Q) (h : ∀ d e a, IL.cur δ x = some d → IL.cur δ y = some e → o d e = some a → Want rel C δ σ G H (.ok a δ) Q → P) : P := by
  unfold IL.op2 at w
  cases h1 : IL.cur δ x with
  | none => rw [h1] at w; exact w.elim
  | some d =>
    rw [h1] at w
    cases h2 : IL.cur δ y with
    | none =>
      simp only [Option.bind_some, h2, Option.bind_none] at w
      exact w.elim
    | some e =>
      cases h3 : o d e with
      | none =>
        simp only [Option.bind_some, h2, h3] at w
        exact w.elim
      | some a =>
        simp only [Option.bind_some, h2, h3] at w
        exact h d e a h1 h2 h3 w
theorem je_op2 {ta tb : TE} {fa fb : Env → IL.R Val} {r : R2} {o : D → D → Option Val} (hr : Op2 C r o) (ha : JE (relV C.K) C ta fa) (hb : JE (relV C.K) C tb fb) :
    JE (relV C.K) C (tOp r ta tb) (fun δ => (fa δ).bind fun x δ1 => (fb δ1).bind fun y δ2 => IL.op2 o x y δ2) := fun δ σ G H S Q w =>
  ha δ σ G H S _ (want_bind back_V w fun x δ1 u G1 H1 a1 r1 w1 => hb δ1 σ G1 H1 a1.st _ (want_bind back_V w1 fun y δ2 v G2 H2 a2 r2 w2 =>
    want_op2 w2 fun d e a h1 h2 h3 w3 => hr δ2 σ G2 H2 u v d e a Q a2.st (cur_tp a2.st (r1.later a2) h1) (cur_tp a2.st r2 h2) h3 w3))
theorem je_op1 {ta : TE} {fa : Env → IL.R Val} {r : V → Hp → VK → Prop} {o : D → Option Val} (hr : Op1 C r o) (ha : JE (relV C.K) C ta fa) :
    JE (relV C.K) C (tUn r ta) (fun δ => (fa δ).bind fun x δ1 => IL.op1 o x δ1) := fun δ σ G H S Q w =>
  ha δ σ G H S _ (want_bind back_V w fun x δ1 u G1 H1 a1 r1 w1 => want_op1 w1 fun d a h1 h3 w3 => hr δ1 σ G1 H1 u d a Q a1.st (cur_tp a1.st r1 h1) h3 w3)
/-! ### arithmetic -/
open DR (orR)
/-- a text so many times -/
def rMulS : R2 := fun x y H Q => ∃ (s : Str) (i : Int), x = .str s ∧ y = .int i ∧ 0 ≤ i ∧ i ≤ 1000 ∧ s.length ≤ 1000 ∧ Q (.str (Txt.mul s i)) H
theorem op_mulS {X : Cx} : OpR X (binaryOp .Mult) rMulS := by
  intro pins s σ H x y v u Q I rx ry ⟨z, i, ex, ey, h0, h1, hz, q⟩
  subst ex ey
  obtain ⟨t1, rfl⟩ := rx
  obtain ⟨t2, rfl⟩ := ry
  obtain ⟨n, rfl⟩ := Int.eq_ofNat_of_zero_le h0
  have hn : n ≤ 1000 := by omega
  refine SB.mul ⟨?_, fun a b => ?_, fun a b => ?_⟩ fun t' k => ⟨.str (Txt.mul z (n : Int)), H, I.tok _, ⟨t', rfl⟩, q⟩
  · rw [Bool.or_eq_false_iff, decide_eq_false_iff_not, decide_eq_false_iff_not]
    omega
  · have n1 : 1 ≤ n := by omega
    have : (2 ^ 63 - 1 : Int) / 1000 ≤ (2 ^ 63 - 1) / (n : Int) := by
      refine Int.le_ediv_of_mul_le (by omega) ?_
      have h2 : (2 ^ 63 - 1 : Int) / 1000 = 9223372036854775 := by decide
      rw [h2]
      have : (9223372036854775 : Int) * (n : Int) ≤ 9223372036854775 * 1000 := Int.mul_le_mul_of_nonneg_left (by omega) (by decide)
      omega
    have h2 : (2 ^ 63 - 1 : Int) / 1000 = 9223372036854775 := by decide
    omega
  · rw [Int.toNat_natCast]
    show decide (z.length * n > sizeLine) = false
    have : z.length * n ≤ 1000 * 1000 := Nat.mul_le_mul hz hn
    have e := sizeLine_eq
    first
    | (rw [decide_eq_false_iff_not]; omega)
    | (simp; omega)
def rBop (K : PySem.W.Frag) : Bop → R2
  | .add => orR (rI0 fun i j => .int (i + j)) (orR DR.qAddS (orR (DR.qCatL K) (rCatA K)))
  | .sub => rI0 fun i j => .int (i - j)
  | .mul => orR rMulS (orR (rI CMul fun i j => .int (i * j)) (rI CMulW fun i j => .int (i * j)))
  | .fdiv => rI CDivW fun i j => .int (i / j)
  | .mod => rI (fun _ j => 0 < j) fun i j => .int (i % j)
  | .pow => rI CPow fun i j => .int (i ^ j.toNat)
def opA : Bop → Operator
  | .add => .Add
  | .sub => .Sub
  | .mul => .Mult
  | .fdiv => .FloorDiv
  | .mod => .Mod
  | .pow => .Pow
theorem bop_ok {X : Cx} : ∀ o : Bop, OpR X (binaryOp (opA o)) (rBop X.K o)
  | .add => DR.or_op op_add (DR.or_op DR.op_qAddS (DR.or_op DR.op_qCatL op_catA))
  | .sub => op_sub
  | .mul => DR.or_op op_mulS (DR.or_op op_mul op_mulW)
  | .fdiv => op_fdivW
  | .mod => op_mod
  | .pow => op_pow
theorem abs64 {i : Int} (h : i.natAbs < 2 ^ 64) : -(2 ^ 64) < i ∧ i < 2 ^ 64 := by omega
theorem bop_does : ∀ o : Bop, Op2 C (rBop C.K o) (IL.binop o)
  | .add => fun δ σ G H u v d e x Q S hu hv h w => by
    cases d with
    | int i =>
      cases e with
      | int j =>
        cases h
        exact .inl ⟨i, j, hu.int_of, hv.int_of, w.now S (.int _)⟩
      | _ => cases h
    | str a =>
      cases e with
      | str b =>
        simp only [IL.binop] at h
        split at h
        · rename_i hz
          cases h
          exact .inr (.inl ⟨a, b, hu.str_of, hv.str_of, hz, w.now S (.str _)⟩)
        · cases h
      | _ => cases h
    | list a =>
      cases e with
      | list b =>
        simp only [IL.binop] at h
        split at h
        · rename_i hz
          cases h
          obtain ⟨p, xs, eu, hp, hx⟩ := hu.list_of S.gh
          obtain ⟨q, ys, ev, hq, hy⟩ := hv.list_of S.gh
          refine .inr (.inr (.inl ⟨p, q, xs, ys, eu, ev, hp, hq, ?_, fun l hl => w.newLst S hl (hx.append hy)⟩))
          rw [DpAll.length hx, DpAll.length hy]
          exact hz
        · cases h
      | _ => cases h
    | tuple a =>
      cases e with
      | tuple b =>
        simp only [IL.binop] at h
        split at h
        · rename_i hz
          cases h
          obtain ⟨p, xs, eu, hp, hx⟩ := hu.tuple_of S.gh
          obtain ⟨q, ys, ev, hq, hy⟩ := hv.tuple_of S.gh
          have du : Dp C.K G u (.tuple a) := by
            cases hu with
            | im z => exact z
          have dv : Dp C.K G v (.tuple b) := by
            cases hv with
            | im z => exact z
          refine .inr (.inr (.inr ⟨p, q, xs, ys, eu, ev, hp, hq, ?_, fun z => ?_, fun _ z => ?_, fun _ _ l hl => w.newTup S hl (hx.append hy)⟩))
          · rw [DpAll.length hx, DpAll.length hy]
            exact hz
          · subst z
            cases hx
            subst ev
            exact w.now S dv
          · subst z
            cases hy
            subst eu
            refine w.now S ?_
            rw [List.append_nil]
            exact du
        · cases h
      | _ => cases h
    | _ => cases e <;> cases h
  | .sub => fun δ σ G H u v d e x Q S hu hv h w => by
    cases d with
    | int i =>
      cases e with
      | int j =>
        cases h
        exact ⟨i, j, hu.int_of, hv.int_of, w.now S (.int _)⟩
      | _ => cases h
    | _ => cases e <;> cases h
  | .mul => fun δ σ G H u v d e x Q S hu hv h w => by
    cases d with
    | int i =>
      cases e with
      | int j =>
        simp only [IL.binop] at h
        split at h
        · rename_i hz
          cases h
          rcases hz with hz | hz
          · exact .inr (.inl ⟨i, j, hu.int_of, hv.int_of, hz.imp abs64 abs64, w.now S (.int _)⟩)
          · exact .inr (.inr ⟨i, j, hu.int_of, hv.int_of, hz, w.now S (.int _)⟩)
        · cases h
      | _ => cases h
    | str z =>
      cases e with
      | int j =>
        simp only [IL.binop] at h
        split at h
        · rename_i hz
          cases h
          exact .inl ⟨z, j, hu.str_of, hv.int_of, hz.1, hz.2.1, hz.2.2, w.now S (.str _)⟩
        · cases h
      | _ => cases h
    | _ => cases e <;> cases h
  | .fdiv => fun δ σ G H u v d e x Q S hu hv h w => by
    cases d with
    | int i =>
      cases e with
      | int j =>
        simp only [IL.binop] at h
        split at h
        · rename_i hz
          cases h
          exact ⟨i, j, hu.int_of, hv.int_of, hz, w.now S (.int _)⟩
        · cases h
      | _ => cases h
    | _ => cases e <;> cases h
  | .mod => fun δ σ G H u v d e x Q S hu hv h w => by
    cases d with
    | int i =>
      cases e with
      | int j =>
        simp only [IL.binop] at h
        split at h
        · rename_i hz
          cases h
          exact ⟨i, j, hu.int_of, hv.int_of, hz, w.now S (.int _)⟩
        · cases h
      | _ => cases h
    | _ => cases e <;> cases h
  | .pow => fun δ σ G H u v d e x Q S hu hv h w => by
    cases d with
    | int i =>
      cases e with
      | int j =>
        simp only [IL.binop] at h
        split at h
        · rename_i hz
          cases h
          exact ⟨i, j, hu.int_of, hv.int_of, hz, w.now S (.int _)⟩
        · cases h
      | _ => cases h
    | _ => cases e <;> cases h
def rNeg : V → Hp → VK → Prop := rU fun i => .int (-i)
theorem neg_does : Op1 C rNeg IL.negV := fun δ σ G H u d x Q S hu h w => by
  cases d with
  | int i =>
    cases h
    exact ⟨i, hu.int_of, w.now S (.int _)⟩
  | _ => cases h
/-! ### comparisons -/
def rCop (K : PySem.W.Frag) : Cop → R2
  | .eq => DR.qEq K false
  | .ne => DR.qEq K true
  | .lt => DR.qOrd K .lt
  | .le => DR.qOrd K .le
  | .gt => DR.qOrd K .gt
  | .ge => DR.qOrd K .ge
  | .isin => orR (DR.qIn K false) (DR.qInS false)
  | .notin => orR (DR.qIn K true) (DR.qInS true)
def copA : Cop → CmpOp
  | .eq => .Eq
  | .ne => .NotEq
  | .lt => .Lt
  | .le => .LtE
  | .gt => .Gt
  | .ge => .GtE
  | .isin => .In
  | .notin => .NotIn
theorem cop_ok {X : Cx} (hu : X.A.units + 64 < cLine) : ∀ o : Cop, OpR X (compareOp (copA o)) (rCop X.K o)
  | .eq => DR.op_qEq hu
  | .ne => DR.op_qNe hu
  | .lt => DR.op_qLt hu
  | .le => DR.op_qLe hu
  | .gt => DR.op_qGt hu
  | .ge => DR.op_qGe hu
  | .isin => DR.or_op (DR.op_qIn hu) DR.op_qInS
  | .notin => DR.or_op (DR.op_qNotIn hu) DR.op_qNotInS
theorem plain2_of {d e : D} (h : IL.plain2 d e = true) : DR.Plain2 d e := by
  simp only [IL.plain2, Bool.and_eq_true, decide_eq_true_eq] at h
  exact ⟨h.1.1, h.1.2, h.2⟩
theorem orderd_of {d e : D} (h : IL.orderd d e = true) : DR.Ordered d e := by
  simp only [IL.orderd, Bool.and_eq_true, decide_eq_true_eq] at h
  refine ⟨h.1.1, fun z => ?_, h.2⟩
  rw [z] at h
  exact absurd h.1.2 (by decide)
theorem isIn_does {neg : Bool} {δ : Env} {σ : St} {G H : Hp} {u v : V} {d e : D} {b : Bool} {Q : VK} (S : Stt C.K δ σ G H) (hu : Tp C.K G H u d) (hv : Tp C.K G H v e) (h : IL.isIn d e = some b) (q : Q (.bl (if neg = true then !b else b)) H) : orR (DR.qIn C.K neg) (DR.qInS neg) u v H Q := by
  have fin : ∀ es : List D, IL.memOk d es = true → b = IL.mem d es → (Dp C.K H v (.list es) ∨ Dp C.K H v (.tuple es)) → orR (DR.qIn C.K neg) (DR.qInS neg) u v H Q := fun es hm hb hd => by
    simp only [IL.memOk, Bool.and_eq_true, decide_eq_true_eq] at hm
    subst hb
    exact .inl ⟨d, es, hu.dp S.gh, hd, hm.1.1, hm.1.2, hm.2, q⟩
  cases e with
  | list es =>
    have hv' := hv.dp S.gh
    have h' : (if IL.memOk d es = true then some (IL.mem d es) else none) = some b := by
      cases d <;> exact h
    split at h'
    · rename_i hm
      exact fin es hm (Option.some.inj h').symm (.inl hv')
    · cases h'
  | tuple es =>
    have hv' := hv.dp S.gh
    have h' : (if IL.memOk d es = true then some (IL.mem d es) else none) = some b := by
      cases d <;> exact h
    split at h'
    · rename_i hm
      exact fin es hm (Option.some.inj h').symm (.inr hv')
    · cases h'
  | str z =>
    cases d with
    | str c =>
      simp only [IL.isIn] at h
      split at h
      · rename_i n hn
        cases h
        have ec : c = ⟨#[n]⟩ := by
          cases c with
          | mk a =>
            have : a.toList = [n] := hn
            have : a = #[n] := by
              rw [← Array.toArray_toList (xs := a), this]
            rw [this]
        refine .inr ⟨n, z, ?_, hv.str_of, q⟩
        rw [← ec]
        exact hu.str_of
      · cases h
    | _ => cases h
  | _ => cases d <;> cases h
theorem cop_do : ∀ (o : Cop) {δ : Env} {σ : St} {G H : Hp} {u v : V} {d e : D} {b : Bool} {Q : VK}, Stt C.K δ σ G H → Tp C.K G H u d → Tp C.K G H v e → IL.cmpop o d e = some b → Q (.bl b) H → rCop C.K o u v H Q
  | .eq, δ, σ, G, H, u, v, d, e, b, Q, S, hu, hv, h, q => by
    simp only [IL.cmpop] at h
    split at h
    · rename_i hp
      cases h
      exact ⟨d, e, hu.dp S.gh, hv.dp S.gh, plain2_of hp, q⟩
    · cases h
  | .ne, δ, σ, G, H, u, v, d, e, b, Q, S, hu, hv, h, q => by
    simp only [IL.cmpop] at h
    split at h
    · rename_i hp
      cases h
      exact ⟨d, e, hu.dp S.gh, hv.dp S.gh, plain2_of hp, q⟩
    · cases h
  | .lt, δ, σ, G, H, u, v, d, e, b, Q, S, hu, hv, h, q => by
    simp only [IL.cmpop] at h
    split at h
    · rename_i hp
      cases h
      exact ⟨d, e, hu.dp S.gh, hv.dp S.gh, orderd_of hp, q⟩
    · cases h
  | .le, δ, σ, G, H, u, v, d, e, b, Q, S, hu, hv, h, q => by
    simp only [IL.cmpop] at h
    split at h
    · rename_i hp
      cases h
      exact ⟨d, e, hu.dp S.gh, hv.dp S.gh, orderd_of hp, q⟩
    · cases h
  | .gt, δ, σ, G, H, u, v, d, e, b, Q, S, hu, hv, h, q => by
    simp only [IL.cmpop] at h
    split at h
    · rename_i hp
      cases h
      exact ⟨d, e, hu.dp S.gh, hv.dp S.gh, orderd_of hp, q⟩
    · cases h
  | .ge, δ, σ, G, H, u, v, d, e, b, Q, S, hu, hv, h, q => by
    simp only [IL.cmpop] at h
    split at h
    · rename_i hp
      cases h
      exact ⟨d, e, hu.dp S.gh, hv.dp S.gh, orderd_of hp, q⟩
    · cases h
  | .isin, δ, σ, G, H, u, v, d, e, b, Q, S, hu, hv, h, q => isIn_does (neg := false) S hu hv h q
  | .notin, δ, σ, G, H, u, v, d, e, b, Q, S, hu, hv, h, q => by
    simp only [IL.cmpop, Option.map_eq_some_iff] at h
    obtain ⟨a, h, rfl⟩ := h
    exact isIn_does (neg := true) S hu hv h q
theorem cop_does (o : Cop) : Op2 C (rCop C.K o) (IL.cmpV o) := fun δ σ G H u v d e x Q S hu hv h w => by
  unfold IL.cmpV at h
  simp only [Option.map_eq_some_iff] at h
  obtain ⟨b, h, rfl⟩ := h
  exact cop_do o S hu hv h (w.now S (.bl b))
theorem je_cmpT {ta tb : TE} {fa fb : Env → IL.R Val} (o : Cop) (ha : JE (relV C.K) C ta fa) (hb : JE (relV C.K) C tb fb) :
    JE (relE Bool) C (tTest (tOp (rCop C.K o) ta tb)) (fun δ => (fa δ).bind fun x δ1 => (fb δ1).bind fun y δ2 => IL.op2 (IL.cmpop o) x y δ2) := fun δ σ G H S Q w =>
  ha δ σ G H S _ (want_bind back_E w fun x δ1 u G1 H1 a1 r1 w1 => hb δ1 σ G1 H1 a1.st _ (want_bind back_E w1 fun y δ2 v G2 H2 a2 r2 w2 =>
    want_op2 w2 fun d e a h1 h2 h3 w3 => cop_do o a2.st (cur_tp a2.st (r1.later a2) h1) (cur_tp a2.st r2 h2) h3 ⟨a, rfl, w3.now a2.st rfl⟩))
/-! ### is None -/
theorem isNone_v (S : Stt C.K δ σ G H) {v : V} {d : D} (h : Tp C.K G H v d) : decide (v = .non) = IL.isNoneD d := by
  have q := h.dp S.gh
  cases q <;> simp [IL.isNoneD]
theorem je_isN {ta : TE} {fa : Env → IL.R Val} (ha : JE (relV C.K) C ta fa) : JE (relV C.K) C (tIsN ta) (fun δ => (fa δ).bind fun x δ1 => IL.op1 (fun d => some (.dat (.bool (IL.isNoneD d)))) x δ1) := fun δ σ G H S Q w =>
  ha δ σ G H S _ (want_bind back_V w fun x δ1 u G1 H1 a1 r1 w1 => want_op1 w1 fun d a h1 h3 w3 => by
    cases h3
    show Q (.bl (decide (u = .non))) H1
    rw [isNone_v a1.st (cur_tp a1.st r1 h1)]
    exact w3.now a1.st (.bl _))
theorem je_notN {ta : TE} {fa : Env → IL.R Val} (ha : JE (relV C.K) C ta fa) : JE (relV C.K) C (tNotN ta) (fun δ => (fa δ).bind fun x δ1 => IL.op1 (fun d => some (.dat (.bool (!IL.isNoneD d)))) x δ1) := fun δ σ G H S Q w =>
  ha δ σ G H S _ (want_bind back_V w fun x δ1 u G1 H1 a1 r1 w1 => want_op1 w1 fun d a h1 h3 w3 => by
    cases h3
    show Q (.bl (!decide (u = .non))) H1
    rw [isNone_v a1.st (cur_tp a1.st r1 h1)]
    exact w3.now a1.st (.bl _))
theorem je_isNT {ta : TE} {fa : Env → IL.R Val} (ha : JE (relV C.K) C ta fa) : JE (relE Bool) C (tB (tIsN ta)) (fun δ => (fa δ).bind fun x δ1 => IL.op1 (fun d => some (IL.isNoneD d)) x δ1) := fun δ σ G H S Q w =>
  ha δ σ G H S _ (want_bind back_E w fun x δ1 u G1 H1 a1 r1 w1 => want_op1 w1 fun d a h1 h3 w3 => by
    cases h3
    refine ⟨decide (u = .non), rfl, ?_⟩
    rw [isNone_v a1.st (cur_tp a1.st r1 h1)]
    exact w3.now a1.st rfl)
theorem je_notNT {ta : TE} {fa : Env → IL.R Val} (ha : JE (relV C.K) C ta fa) : JE (relE Bool) C (tB (tNotN ta)) (fun δ => (fa δ).bind fun x δ1 => IL.op1 (fun d => some (!IL.isNoneD d)) x δ1) := fun δ σ G H S Q w =>
  ha δ σ G H S _ (want_bind back_E w fun x δ1 u G1 H1 a1 r1 w1 => want_op1 w1 fun d a h1 h3 w3 => by
    cases h3
    refine ⟨!decide (u = .non), rfl, ?_⟩
    rw [isNone_v a1.st (cur_tp a1.st r1 h1)]
    exact w3.now a1.st rfl)
/-! ### truth, and, or, not, if -/
theorem truth_do (S : Stt C.K δ σ G H) {v : V} {d : D} {b : Bool} (h : Tp C.K G H v d) (t : IL.truth d = some b) : TruV C.K v H b := by
  cases d with
  | none => rw [h.none_of]; cases t; rfl
  | bool k => rw [h.bool_of]; cases t; rfl
  | int i => rw [h.int_of]; cases t; rfl
  | str s =>
    rw [h.str_of]
    simp only [IL.truth] at t
    split at t
    · rename_i hz
      refine ⟨hz, ?_⟩
      have t' := (Option.some.inj t).symm
      rw [t']
      cases hl : s.length <;> simp <;> omega
    · cases t
  | list ds =>
    cases t
    obtain ⟨a, vs, rfl, hs, hv⟩ := h.list_of S.gh
    refine .inl ⟨vs, hs, ?_⟩
    cases hv <;> rfl
  | tuple ds =>
    cases t
    obtain ⟨a, vs, rfl, hs, hv⟩ := h.tuple_of S.gh
    refine .inr (.inl ⟨vs, hs, ?_⟩)
    cases hv <;> rfl
  | dict kvs => cases t
def tTr (K : PySem.W.Frag) (ta : TE) : TT := fun σ H Q => ta σ H fun x H' => ∃ k, TruV K x H' k ∧ Q k H'
theorem je_truth {ta : TE} {fa : Env → IL.R Val} (ha : JE (relV C.K) C ta fa) : JE (relE Bool) C (tTr C.K ta) (fun δ => (fa δ).bind fun x δ1 => IL.op1 IL.truth x δ1) := fun δ σ G H S Q w =>
  ha δ σ G H S _ (want_bind back_E w fun x δ1 u G1 H1 a1 r1 w1 => want_op1 w1 fun d a h1 h3 w3 => ⟨a, truth_do a1.st (cur_tp a1.st r1 h1) h3, w3.now a1.st rfl⟩)
theorem jt_not {ta : TT} {fa : Env → IL.R Bool} (ha : JE (relE Bool) C ta fa) : JE (relE Bool) C (tNot ta) (fun δ => (fa δ).bind fun b δ1 => .ok (!b) δ1) := fun δ σ G H S Q w =>
  ha δ σ G H S _ (want_bind (rel' := relE Bool) back_E w fun x δ1 u G1 H1 a1 r1 w1 => by
    have e : u = x := r1
    subst e
    exact w1.now a1.st rfl)
theorem jt_and {ta tb : TT} {fa fb : Env → IL.R Bool} (ha : JE (relE Bool) C ta fa) (hb : JE (relE Bool) C tb fb) : JE (relE Bool) C (tAnd ta tb) (fun δ => (fa δ).bind fun k δ1 => if k = true then fb δ1 else .ok false δ1) := fun δ σ G H S Q w =>
  ha δ σ G H S _ (want_bind (rel' := relE Bool) back_E w fun x δ1 u G1 H1 a1 r1 w1 => by
    have e : u = x := r1
    subst e
    cases u with
    | true =>
      simp only [if_true] at w1 ⊢
      exact hb δ1 σ G1 H1 a1.st Q w1
    | false =>
      simp only [Bool.false_eq_true, if_false] at w1 ⊢
      exact w1.now a1.st rfl)
theorem jt_or {ta tb : TT} {fa fb : Env → IL.R Bool} (ha : JE (relE Bool) C ta fa) (hb : JE (relE Bool) C tb fb) : JE (relE Bool) C (tOr ta tb) (fun δ => (fa δ).bind fun k δ1 => if k = true then .ok true δ1 else fb δ1) := fun δ σ G H S Q w =>
  ha δ σ G H S _ (want_bind (rel' := relE Bool) back_E w fun x δ1 u G1 H1 a1 r1 w1 => by
    have e : u = x := r1
    subst e
    cases u with
    | true =>
      simp only [if_true] at w1 ⊢
      exact w1.now a1.st rfl
    | false =>
      simp only [Bool.false_eq_true, if_false] at w1 ⊢
      exact hb δ1 σ G1 H1 a1.st Q w1)
theorem je_ite {tc : TT} {ta tb : TE} {fc : Env → IL.R Bool} {fa fb : Env → IL.R Val} (hc : JE (relE Bool) C tc fc) (ha : JE (relV C.K) C ta fa) (hb : JE (relV C.K) C tb fb) : JE (relV C.K) C (tIf tc ta tb) (fun δ => (fc δ).bind fun k δ1 => if k = true then fa δ1 else fb δ1) := fun δ σ G H S Q w =>
  hc δ σ G H S _ (want_bind (rel' := relE Bool) back_V w fun x δ1 u G1 H1 a1 r1 w1 => by
    have e : u = x := r1
    subst e
    cases u with
    | true =>
      simp only [if_true] at w1 ⊢
      exact ha δ1 σ G1 H1 a1.st Q w1
    | false =>
      simp only [Bool.false_eq_true, if_false] at w1 ⊢
      exact hb δ1 σ G1 H1 a1.st Q w1)
theorem je_not {ta : TE} {fa : Env → IL.R Val} (ha : JE (relV C.K) C ta fa) : JE (relV C.K) C (tNotV ta) (fun δ => (fa δ).bind fun x δ1 => match x with
    | .dat (.bool b) => .ok (.dat (.bool (!b))) δ1
    | _ => .no) := fun δ σ G H S Q w =>
  ha δ σ G H S _ (want_bind back_V w fun x δ1 u G1 H1 a1 r1 w1 => by
    cases x with
    | dat d =>
      cases d with
      | bool b => exact ⟨b, Dp.bool_of r1, w1.now a1.st (.bl _)⟩
      | _ => exact w1.elim
    | _ => exact w1.elim)
theorem je_and {ta tb : TE} {fa fb : Env → IL.R Val} (ha : JE (relV C.K) C ta fa) (hb : JE (relV C.K) C tb fb) : JE (relV C.K) C (tAndV ta tb) (fun δ => (fa δ).bind fun x δ1 => match x with
    | .dat (.bool true) => fb δ1
    | .dat (.bool false) => .ok (.dat (.bool false)) δ1
    | _ => .no) := fun δ σ G H S Q w =>
  ha δ σ G H S _ (want_bind back_V w fun x δ1 u G1 H1 a1 r1 w1 => by
    cases x with
    | dat d =>
      cases d with
      | bool b =>
        refine ⟨b, Dp.bool_of r1, ?_⟩
        cases b with
        | true =>
          rw [if_pos rfl]
          exact hb δ1 σ G1 H1 a1.st Q w1
        | false =>
          rw [if_neg Bool.false_ne_true]
          exact w1.now a1.st (.bl _)
      | _ => exact w1.elim
    | _ => exact w1.elim)
theorem je_or {ta tb : TE} {fa fb : Env → IL.R Val} (ha : JE (relV C.K) C ta fa) (hb : JE (relV C.K) C tb fb) : JE (relV C.K) C (tOrV ta tb) (fun δ => (fa δ).bind fun x δ1 => match x with
    | .dat (.bool false) => fb δ1
    | .dat (.bool true) => .ok (.dat (.bool true)) δ1
    | _ => .no) := fun δ σ G H S Q w =>
  ha δ σ G H S _ (want_bind back_V w fun x δ1 u G1 H1 a1 r1 w1 => by
    cases x with
    | dat d =>
      cases d with
      | bool b =>
        refine ⟨b, Dp.bool_of r1, ?_⟩
        cases b with
        | false =>
          rw [if_neg Bool.false_ne_true]
          exact hb δ1 σ G1 H1 a1.st Q w1
        | true =>
          rw [if_pos rfl]
          exact w1.now a1.st (.bl _)
      | _ => exact w1.elim
    | _ => exact w1.elim)
/-! ### names, constants, displays -/
theorem je_var (i : Nat) : JE (relV C.K) C (tVar i) (fun δ => match δ[i]? with
    | some (.im d) => .ok (.dat d) δ
    | some (.ow _) => .ok (.own i) δ
    | some (.xc _ _) => .ok (.own i) δ
    | _ => .no) := fun δ σ G H S Q w => by
  cases e : δ[i]? with
  | none => simp only [e] at w; exact w.elim
  | some s =>
    simp only [e] at w
    have q := S.env i s e
    cases s with
    | un => exact w.elim
    | xc _ _ =>
      obtain ⟨x, _, q1, _⟩ := q
      exact ⟨.ref x.a, q1, w.now S q1⟩
    | im d =>
      obtain ⟨u, q1, q2⟩ := q
      exact ⟨u, q1, w.now S q2⟩
    | ow o =>
      obtain ⟨l, ho, q1, _⟩ := q
      exact ⟨.ref l, q1, w.now S q1⟩
theorem je_const {v : V} {d : D} (h : ∀ K G, Dp K G v d) : JE (relV C.K) C (tC v) (fun δ => .ok (.dat d) δ) := fun δ σ G H S Q w => w.now S (h _ _)
theorem je_fz {ta : TE} {fa : Env → IL.R Val} (ha : JE (relV C.K) C ta fa) : JE (relV C.K) C ta (fun δ => (fa δ).bind fun v δ1 => (IL.dem C.kp v δ1).bind fun d δ2 => .ok (.dat d) δ2) := fun δ σ G H S Q w =>
  ha δ σ G H S Q (want_demRk back_V w fun d δ1 v G1 H1 a r w1 => w1.now a.st r)
theorem jd_nil : JE (relDs C.K) C tNil (fun δ => .ok [] δ) := fun δ σ G H S Q w => w.now S .nil
theorem jd_cons {te : TE} {tr : TA} {fe : Env → IL.R Val} {fr : Env → IL.R (List D)} (h : JE (relV C.K) C te fe) (hr : JE (relDs C.K) C tr fr) :
    JE (relDs C.K) C (tCons te tr) (fun δ => (fe δ).bind fun v δ1 => (IL.dem C.kp v δ1).bind fun d δ2 => (fr δ2).bind fun ds δ3 => .ok (d :: ds) δ3) := fun δ σ G H S Q w =>
  h δ σ G H S _ (want_demRk back_Ds w fun d δ1 v G1 H1 a r w1 => hr δ1 σ G1 H1 a.st _ (want_bind back_Ds w1 fun ds δ2 vs G2 H2 a2 r2 w2 => w2.now a2.st (.cons (Dp.ex a2.nx.gg _ _ r) r2)))
theorem ja_nil : JE (relVs C.K) C tNil (fun δ => .ok [] δ) := fun δ σ G H S Q w => w.now S trivial
theorem ValsR.get {K : PySem.W.Frag} {H0 : Hp} : ∀ {vs : List V} {as : List Val} {k : Nat} {a : Val}, ValsR K σ δ H0 G H vs as → as[k]? = some a → ∃ v, vs[k]? = some v ∧ ValR K σ δ H0 G H v a
  | [], [], k, a, _, h => by simp at h
  | v :: vs, a' :: as, 0, a, h, e => by
    simp at e
    subst e
    exact ⟨v, rfl, h.1⟩
  | v :: vs, a' :: as, k + 1, a, h, e => by
    obtain ⟨u, h1, h2⟩ := ValsR.get (k := k) h.2.1 (by simpa using e)
    exact ⟨u, by simpa using h1, h2⟩
  | [], a :: as, k, b, h, _ => h.elim
  | v :: vs, [], k, b, h, _ => h.elim
theorem ValsR.len {K : PySem.W.Frag} {H0 : Hp} : ∀ {vs : List V} {as : List Val}, ValsR K σ δ H0 G H vs as → vs.length = as.length
  | [], [], _ => rfl
  | v :: vs, a' :: as, h => congrArg (· + 1) (ValsR.len h.2.1)
  | [], a :: as, h => h.elim
  | v :: vs, [], h => h.elim
theorem ja_cons {te : TE} {tr : TA} {fe : Env → IL.R Val} {fr : Env → IL.R (List Val)} (h : JE (relV C.K) C te fe) (hr : JE (relVs C.K) C tr fr) :
    JE (relVs C.K) C (tCons te tr) (fun δ => (fe δ).bind fun v δ1 => (fr δ1).bind fun vs δ2 => .ok (v :: vs) δ2) := fun δ σ G H S Q w =>
  h δ σ G H S _ (by
    have w' : Want (relVs C.K) C δ σ G H ((fe δ).bind fun v δ1 => (fr δ1).bind fun vs δ2 => .ok (v :: vs) δ2) Q := w
    cases e1 : fe δ with
    | no => rw [e1] at w'; exact w'.elim
    | ex c fs δ1 => rw [e1] at w'; exact w'
    | ok a δ1 =>
      rw [e1] at w'
      simp only [IL.bind_ok] at w'
      intro v G1 H1 a1 r1
      refine hr δ1 σ G1 H1 a1.st _ ?_
      cases e2 : fr δ1 with
      | no => rw [e2] at w'; exact w'.elim
      | ex c fs δ2 => rw [e2] at w'; exact fun d G' H' b r => w' d G' H' (a1.trans b) r
      | ok as δ2 =>
        rw [e2] at w'
        simp only [IL.bind_ok] at w'
        intro vs G2 H2 a2 r2
        refine w' (v :: vs) G2 H2 (a1.trans a2) ⟨ValR.later r1 a2, back_Vs _ _ _ _ _ _ _ _ (fun l z => a1.nx.noneOf z) r2, fun o e k o' e' hk => ?_⟩
        subst e
        obtain ⟨l, ho, z1, _, _, z2, _⟩ := r1
        obtain ⟨u, y1, l', ho', y2, y3, _⟩ := ValsR.get r2 e'
        rw [hk] at y1
        cases y1
        rw [z1] at y2
        cases y2
        rw [z2] at y3
        cases y3)
end
end J
end
section
set_option Elab.async false
set_option linter.all false
set_option maxRecDepth 100000
set_option maxHeartbeats 1000000
/-! J4: displays, subscripts, slices, methods, built-in functions. -/
namespace J
open PySem L2 PyProof.Rows
open IL (D Ow Slot Val CR RV Fl Bop Cop)
section
variable {C : Ctx} {δ δ' δ1 δ2 : Env} {σ σ' σ1 : St} {G H G' H' G1 H1 G2 H2 : Hp}
theorem je_tup {tr : TA} {fr : Env → IL.R (List D)} (h : JE (relDs C.K) C tr fr) : JE (relV C.K) C (tTup tr) (fun δ => (fr δ).bind fun ds δ1 => if ds.length ≤ sizeLine then .ok (.dat (.tuple ds)) δ1 else .no) := fun δ σ G H S Q w =>
  h δ σ G H S _ (want_bind back_V w fun ds δ1 vs G1 H1 a1 r1 w1 => by
    by_cases hz : ds.length ≤ sizeLine
    · rw [if_pos hz] at w1
      exact ⟨by rw [DpAll.length r1]; exact hz, fun p hp => w1.newTup a1.st hp r1⟩
    · rw [if_neg hz] at w1
      exact w1.elim)
theorem je_lst {tr : TA} {fr : Env → IL.R (List D)} (h : JE (relDs C.K) C tr fr) : JE (relV C.K) C (tLst tr) (fun δ => (fr δ).bind fun ds δ1 => if ds.length ≤ sizeLine then .ok (.new (.lst ds)) δ1 else .no) := fun δ σ G H S Q w =>
  h δ σ G H S _ (want_bind back_V w fun ds δ1 vs G1 H1 a1 r1 w1 => by
    by_cases hz : ds.length ≤ sizeLine
    · rw [if_pos hz] at w1
      exact ⟨by rw [DpAll.length r1]; exact hz, fun p hp => w1.newLst a1.st hp r1⟩
    · rw [if_neg hz] at w1
      exact w1.elim)
/-! ### subscripts -/
theorem atI_len {α β : Type} {xs : List α} {ys : List β} (h : xs.length = ys.length) {i : Int} {y : β} (e : atI ys i = some y) : ∃ j : Nat, ys[j]? = some y ∧ ∀ x, xs[j]? = some x → atI xs i = some x := by
  unfold atI at e ⊢
  rw [h]
  cases q : ixN ys.length i with
  | none => rw [q] at e; cases e
  | some j =>
    rw [q] at e
    exact ⟨j, e, fun x hx => hx⟩
theorem idx_does : Op2 C (rIx C.K) IL.idxV := fun δ σ G H u v d e x Q S hu hv h w => by
  unfold IL.idxV at h
  simp only [Option.map_eq_some_iff] at h
  obtain ⟨y, h, rfl⟩ := h
  cases e with
  | int i =>
    cases d with
    | list ds =>
      obtain ⟨p, vs, eu, hp, hx⟩ := hu.list_of S.gh
      have h' : atI ds i = some y := h
      obtain ⟨j, h1, h2⟩ := atI_len (DpAll.length hx) h'
      obtain ⟨z, q1, q2⟩ := DpAll.get hx h1
      exact .inl ⟨p, vs, i, z, eu, hv.int_of, hp, h2 z q1, w.now S q2⟩
    | tuple ds =>
      obtain ⟨p, vs, eu, hp, hx⟩ := hu.tuple_of S.gh
      have h' : atI ds i = some y := h
      obtain ⟨j, h1, h2⟩ := atI_len (DpAll.length hx) h'
      obtain ⟨z, q1, q2⟩ := DpAll.get hx h1
      exact .inr (.inl ⟨p, vs, i, z, eu, hv.int_of, hp, h2 z q1, w.now S q2⟩)
    | str s =>
      simp only [IL.idxop] at h
      split at h
      · rename_i hz
        simp only [Option.map_eq_some_iff] at h
        obtain ⟨c, hc, rfl⟩ := h
        exact .inr (.inr ⟨s, i, c, hu.str_of, hv.int_of, hz, hc, w.now S (.str _)⟩)
      · cases h
    | _ => cases h
  | _ => cases d <;> cases h
/-! ### slices -/
def rSli (K : PySem.W.Frag) : V → Option Int → Option Int → Hp → VK → Prop := fun x lo hi H Q => rSlL K x lo hi H Q ∨ (rSlA K x lo hi H Q ∨ rSlS x lo hi H Q)
theorem sli_ok {X : Cx} : SlR X (rSli X.K) := sl_list.or (sl_tupA.or sl_str)
theorem jo_no : JE (relE (Option Int)) C tNoPart (fun δ => .ok none δ) := fun δ σ G H S Q w => w.now S rfl
theorem jo_yes {te : TE} {fe : Env → IL.R Val} (h : JE (relV C.K) C te fe) : JE (relE (Option Int)) C (tPart te) (fun δ => (fe δ).bind fun v δ1 => IL.op1 (fun d => (IL.intD d).map some) v δ1) := fun δ σ G H S Q w =>
  h δ σ G H S _ (want_bind back_E w fun x δ1 u G1 H1 a1 r1 w1 => want_op1 w1 fun d a h1 h3 w3 => by
    cases d with
    | int i =>
      cases h3
      exact ⟨i, (cur_tp a1.st r1 h1).int_of, w3.now a1.st rfl⟩
    | _ => cases h3)
theorem DpAll.cut {K : PySem.W.Frag} {vs : List V} {ds : List D} (h : DpAll K G vs ds) (lo hi : Option Int) : DpAll K G (cutV vs lo hi) (IL.cutD ds lo hi) := by
  unfold cutV IL.cutD
  rw [← DpAll.length h]
  exact (h.drop _).take _
theorem je_sli {te : TE} {tl th : TO} {fe : Env → IL.R Val} {fl fh : Env → IL.R (Option Int)} (h : JE (relV C.K) C te fe) (hl : JE (relE (Option Int)) C tl fl) (hh : JE (relE (Option Int)) C th fh) :
    JE (relV C.K) C (tSl (rSli C.K) te tl th) (fun δ => (fe δ).bind fun x δ1 => (fl δ1).bind fun l δ2 => (fh δ2).bind fun h δ3 => IL.op1 (IL.sliop l h) x δ3) := fun δ σ G H S Q w =>
  h δ σ G H S _ (want_bind back_V w fun x δ1 u G1 H1 a1 r1 w1 => hl δ1 σ G1 H1 a1.st _ (want_bind (rel' := relE (Option Int)) back_V w1 fun l δ2 l' G2 H2 a2 e2 w2 => by
    have e2' : l' = l := e2
    subst e2'
    exact hh δ2 σ G2 H2 a2.st _ (want_bind (rel' := relE (Option Int)) back_V w2 fun m δ3 m' G3 H3 a3 e3 w3 => by
      have e3' : m' = m := e3
      subst e3'
      refine want_op1 w3 fun d a h1 h3 w4 => ?_
      have hu := cur_tp a3.st (r1.later (a2.trans a3)) h1
      have S3 := a3.st
      cases d with
      | list ds =>
        cases h3
        obtain ⟨p, vs, eu, hp, hx⟩ := hu.list_of S3.gh
        exact .inl ⟨p, vs, eu, hp, fun q hq => w4.newLst S3 hq (DpAll.cut hx _ _)⟩
      | tuple ds =>
        cases h3
        obtain ⟨p, vs, eu, hp, hx⟩ := hu.tuple_of S3.gh
        have du : Dp C.K G3 u (.tuple ds) := by
          cases hu with
          | im z => exact z
        refine .inr (.inl ⟨p, vs, eu, hp, fun hw => ?_, fun _ q hq => w4.newTup S3 hq (DpAll.cut hx _ _)⟩)
        subst eu
        refine w4.now S3 ?_
        have e : IL.cutD ds l' m' = ds := by
          unfold IL.cutD
          rw [← DpAll.length hx, hw.1, hw.2]
          simp [DpAll.length hx]
        rw [e]
        exact du
      | str s =>
        simp only [IL.sliop] at h3
        split at h3
        · rename_i hz
          cases h3
          exact .inr (.inr ⟨s, hu.str_of, hz, w4.now S3 (.str _)⟩)
        · cases h3
      | _ => cases h3)))
theorem je_rev {te : TE} {fe : Env → IL.R Val} (h : JE (relV C.K) C te fe) : JE (relV C.K) C (tRevL C.K te) (fun δ => (fe δ).bind fun x δ1 => IL.op1 IL.revop x δ1) := fun δ σ G H S Q w =>
  h δ σ G H S _ (want_bind back_V w fun x δ1 u G1 H1 a1 r1 w1 => want_op1 w1 fun d a h1 h3 w3 => by
    cases d with
    | list ds =>
      cases h3
      obtain ⟨p, vs, eu, hp, hx⟩ := (cur_tp a1.st r1 h1).list_of a1.st.gh
      exact ⟨p, vs, eu, hp, fun q hq => w3.newLst a1.st hq hx.reverse⟩
    | _ => cases h3)
/-! ### methods of a list that a slot owns -/
theorem aft_mut {i : Nat} {l : Addr} {o : Ow} {ho : HO} (S : Stt C.K δ σ G H) (ha : OwnAt δ σ i l) (r : OwR C.K G o ho) : Aft C δ σ G H (δ.set i (.ow o)) σ G (upd H l ho) := by
  obtain ⟨a, b, c⟩ := S.mut ha r
  refine ⟨a, b, fun x h => .inl (c x h), fun j x hj h => ?_, by rw [List.length_set]⟩
  obtain ⟨⟨o', e⟩, e2⟩ := h
  by_cases hij : i = j
  · subst hij
    exact ⟨⟨o, List.getElem?_set_self (List.getElem?_eq_some_iff.mp e).1⟩, e2⟩
  · exact ⟨⟨o', by rw [List.getElem?_set_ne hij]; exact e⟩, e2⟩
open IL (Mt)
def rMt : Mt → V → List V → Hp → VK → Prop
  | .append => rAppend
  | .pop => rPop
  | .insert => fun x vs H Q => ∃ (l : Addr) (xs : List V) (i : Int) (y : V), x = .ref l ∧ vs = [.int i, y] ∧ H l = some (.lst xs) ∧ xs.length < sizeLine ∧ 0 ≤ i ∧ i < 2 ^ 63 ∧ Q .non (upd H l (.lst (xs.take i.toNat ++ [y] ++ xs.drop i.toNat)))
theorem mt_does (m : Mt) (S : Stt C.K δ σ G H) {i : Nat} {l : Addr} {xs : List D} {ds : List D} {vs ws : List V} {d : D} {ys : List D} {Q : VK} (ho : OwnAt δ σ i l) (hl : H l = some (.lst vs)) (hx : DpAll C.K G vs xs) (hd : DpAll C.K G ws ds)
    (h : IL.mtop m xs ds = some (d, ys)) (w : Want (relV C.K) C δ σ G H (.ok (.dat d) (δ.set i (.ow (.lst ys)))) Q) : rMt m (.ref l) ws H Q := by
  have fin : ∀ (v : V) (us : List V), Dp C.K G v d → DpAll C.K G us ys → Q v (upd H l (.lst us)) := fun v us h1 h2 => w v G _ (aft_mut S ho ⟨us, rfl, h2⟩) h1
  cases m with
  | append =>
    cases hd with
    | nil => cases h
    | cons h1 h2 =>
      cases h2 with
      | cons _ _ => cases h
      | nil =>
        simp only [IL.mtop] at h
        split at h
        · rename_i hz
          cases h
          exact ⟨l, vs, _, rfl, rfl, hl, by rw [DpAll.length hx]; exact hz, fin _ _ .non (hx.append (.one h1))⟩
        · cases h
  | pop =>
    cases hd with
    | cons h1 h2 => cases h
    | nil =>
      simp only [IL.mtop, Option.map_eq_some_iff] at h
      obtain ⟨y, h1, h2⟩ := h
      cases h2
      obtain ⟨v, e, hv⟩ := DpAll.get hx h1
      refine ⟨l, vs, v, rfl, rfl, hl, by rw [DpAll.length hx]; exact e, fin _ _ hv ?_⟩
      have q := hx.take (vs.length - 1)
      rw [List.dropLast_eq_take, List.dropLast_eq_take, ← DpAll.length hx]
      exact q
  | insert =>
    cases hd with
    | nil => cases h
    | cons h1 h2 =>
      cases h2 with
      | nil =>
        simp only [IL.mtop] at h
        cases h1 <;> cases h
      | cons h2 h3 =>
        cases h3 with
        | cons _ _ =>
          simp only [IL.mtop] at h
          cases h1 <;> cases h
        | nil =>
          cases h1 with
          | int k =>
            simp only [IL.mtop] at h
            split at h
            · rename_i hz
              cases h
              exact ⟨l, vs, k, _, rfl, rfl, hl, by rw [DpAll.length hx]; exact hz.2.2, hz.1, hz.2.1, fin _ _ .non (((hx.take _).append (.one h2)).append (hx.drop _))⟩
            · cases h
          | _ => cases h
theorem je_mt (m : Mt) (i : Nat) {tr : TA} {fr : Env → IL.R (List D)} (hr : JE (relDs C.K) C tr fr) : JE (relV C.K) C (tBM C.K "list" (rMt m) (tVar i) tr) (fun δ => match δ[i]? with
    | some (.ow (.lst _)) => (fr δ).bind fun ds δ1 => IL.mtR m i ds δ1
    | _ => .no) := fun δ σ G H S Q w => by
  cases e : δ[i]? with
  | none => simp only [e] at w; exact w.elim
  | some s =>
    cases s with
    | un => simp only [e] at w; exact w.elim
    | xc _ _ => simp only [e] at w; exact w.elim
    | im d => simp only [e] at w; exact w.elim
    | ow o =>
      cases o with
      | dct kvs => simp only [e] at w; exact w.elim
      | lst xs0 =>
        simp only [e] at w
        obtain ⟨l, ho, e1, e2, e3, vs0, rfl, e5⟩ := S.env i _ e
        refine ⟨.ref l, e1, .inl ⟨rfl, vs0, .inl (.inl e3)⟩, hr δ σ G H S _ (want_bind back_V w fun ds δ1 ws G1 H1 a1 r1 w1 => ?_)⟩
        unfold IL.mtR at w1
        cases e' : δ1[i]? with
        | none => simp only [e'] at w1; exact w1.elim
        | some s =>
          cases s with
          | un => simp only [e'] at w1; exact w1.elim
          | xc _ _ => simp only [e'] at w1; exact w1.elim
          | im d => simp only [e'] at w1; exact w1.elim
          | ow o =>
            cases o with
            | dct kvs => simp only [e'] at w1; exact w1.elim
            | lst xs =>
              simp only [e'] at w1
              obtain ⟨l', ho, q1, q2, q3, vs, rfl, q5⟩ := a1.st.env i _ e'
              rw [e1] at q1
              cases q1
              cases hm : IL.mtop m xs ds with
              | none => simp only [hm] at w1; exact w1.elim
              | some p =>
                simp only [hm] at w1
                exact mt_does m a1.st ⟨⟨_, e'⟩, e1⟩ q3 q5 r1 hm w1
theorem je_ext (i : Nat) {te : TE} {fe : Env → IL.R Val} (he : JE (relV C.K) C te fe) : JE (relV C.K) C (tBM C.K "list" rExtend (tVar i) (tCons te tNil)) (fun δ => match δ[i]? with
    | some (.ow (.lst _)) => (fe δ).bind fun v δ1 => IL.extR i v δ1
    | _ => .no) := fun δ σ G H S Q w => by
  cases e : δ[i]? with
  | none => simp only [e] at w; exact w.elim
  | some s =>
    cases s with
    | un => simp only [e] at w; exact w.elim
    | xc _ _ => simp only [e] at w; exact w.elim
    | im d => simp only [e] at w; exact w.elim
    | ow o =>
      cases o with
      | dct kvs => simp only [e] at w; exact w.elim
      | lst xs0 =>
        simp only [e] at w
        obtain ⟨l, ho, e1, e2, e3, vs0, rfl, e5⟩ := S.env i _ e
        refine ⟨.ref l, e1, .inl ⟨rfl, vs0, .inl (.inl e3)⟩, he δ σ G H S _ (want_bind back_V w fun x δ1 u G1 H1 a1 r1 w1 => ?_)⟩
        unfold IL.extR at w1
        cases e' : δ1[i]? with
        | none => simp only [e'] at w1; exact w1.elim
        | some s =>
          cases s with
          | un => simp only [e'] at w1; exact w1.elim
          | xc _ _ => simp only [e'] at w1; exact w1.elim
          | im d => simp only [e'] at w1; exact w1.elim
          | ow o =>
            cases o with
            | dct kvs => simp only [e'] at w1; exact w1.elim
            | lst xs =>
              cases x with
              | dat d => simp only [e'] at w1; exact w1.elim
              | own j => simp only [e'] at w1; exact w1.elim
              | new o =>
                cases o with
                | dct kvs => simp only [e'] at w1; exact w1.elim
                | lst es =>
                  simp only [e'] at w1
                  by_cases hz : xs.length + es.length ≤ sizeLine
                  · rw [if_pos hz] at w1
                    obtain ⟨l', ho, q1, q2, q3, vs, rfl, q5⟩ := a1.st.env i _ e'
                    rw [e1] at q1
                    cases q1
                    obtain ⟨b, hb, rfl, _, _, b3, _, us, rfl, b5⟩ := r1
                    exact ⟨l, b, vs, us, rfl, rfl, q3, b3, by rw [DpAll.length q5, DpAll.length b5]; exact hz, w1 _ _ _ (aft_mut a1.st ⟨⟨_, e'⟩, e1⟩ ⟨vs ++ us, rfl, q5.append b5⟩) Dp.non⟩
                  · rw [if_neg hz] at w1
                    exact w1.elim
/-! ### built-in functions -/
open IL (Fn)
theorem asInts_of : ∀ {ds : List D} {ns : List Int}, IL.asInts ds = some ns → ds = ns.map PyData.int
  | [], ns, h => by cases h; rfl
  | .int i :: ds, ns, h => by
    simp only [IL.asInts, Option.map_eq_some_iff] at h
    obtain ⟨ms, h, rfl⟩ := h
    rw [asInts_of h]
    rfl
  | .none :: _, _, h => by cases h
  | .bool _ :: _, _, h => by cases h
  | .str _ :: _, _, h => by cases h
  | .list _ :: _, _, h => by cases h
  | .tuple _ :: _, _, h => by cases h
  | .dict _ :: _, _, h => by cases h
theorem asBools_of : ∀ {ds : List D} {ns : List Bool}, IL.asBools ds = some ns → ds = ns.map PyData.bool
  | [], ns, h => by cases h; rfl
  | .bool i :: ds, ns, h => by
    simp only [IL.asBools, Option.map_eq_some_iff] at h
    obtain ⟨ms, h, rfl⟩ := h
    rw [asBools_of h]
    rfl
  | .none :: _, _, h => by cases h
  | .int _ :: _, _, h => by cases h
  | .str _ :: _, _, h => by cases h
  | .list _ :: _, _, h => by cases h
  | .tuple _ :: _, _, h => by cases h
  | .dict _ :: _, _, h => by cases h
theorem sortI_perm (ns : List Int) : (IL.sortI ns).Perm ns := List.mergeSort_perm _ _
theorem sortI_pw (ns : List Int) : (IL.sortI ns).Pairwise (· ≤ ·) := by
  have h := List.pairwise_mergeSort (le := fun a b : Int => decide (a ≤ b)) (fun a b c h1 h2 => by simp at *; omega) (fun a b => by simp; omega) ns
  exact h.imp fun h => by simpa using h
theorem sort_one {xs ys : List Int} (hp : xs.Perm ys) (hx : xs.Pairwise (· ≤ ·)) (hy : ys.Pairwise (· ≤ ·)) : xs = ys := hp.eq_of_pairwise (fun a b _ _ h1 h2 => Int.le_antisymm h1 h2) hx hy
theorem sorted_is {ns ns' : List Int} (hp : ns'.Perm ns) (h : ns'.Pairwise (· ≤ ·)) : ns' = IL.sortI ns := sort_one (hp.trans (sortI_perm ns).symm) h (sortI_pw ns)
abbrev Tps (K : PySem.W.Frag) (G H : Hp) : List V → List D → Prop := Paired (Tp K G H)
def rFn (K : PySem.W.Frag) : Fn → List V → Hp → VK → Prop
  | .len => fun xs H Q => ∃ x n, xs = [x] ∧ LenV K x H n ∧ Q (.int n) H
  | .str => fun xs H Q => (∃ i, xs = [.int i] ∧ i.natAbs.log2 < 1920 ∧ Q (.str (toString i)) H) ∨ ∃ a, xs = [.str a] ∧ Q (.str a) H
  | .int => fun xs H Q => ((∃ i, xs = [.int i] ∧ Q (.int i) H) ∨ ∃ k, xs = [.bl k] ∧ Q (.int (if k then 1 else 0)) H) ∨ ∃ a n, xs = [.str a] ∧ PySem.intText? a = some n ∧ a.length ≤ 640 ∧ Q (.int n) H
  | .abs => fun xs H Q => ∃ i, xs = [.int i] ∧ Q (.int (if i < 0 then -i else i)) H
  | .sum => rSum K
  | .min2 => fun xs H Q => ∃ i j, xs = [.int i, .int j] ∧ Q (.int (if j < i then j else i)) H
  | .max2 => fun xs H Q => ∃ i j, xs = [.int i, .int j] ∧ Q (.int (if j > i then j else i)) H
  | .any => rAny K
  | .all => rAll K
  | .tuple => fun xs H Q => ∃ p ys, xs = [.ref p] ∧ ((SqL K H p ys ∧ ∀ l, H l = none → Q (.ref l) (upd H l (.tup ys))) ∨ (SqT K H p ys ∧ Q (.ref p) H))
  | .list => fun xs H Q => ∃ p ys, xs = [.ref p] ∧ (SqL K H p ys ∨ SqT K H p ys) ∧ ∀ l, H l = none → Q (.ref l) (upd H l (.lst ys))
  | .repr => DR.qRepr K
  | .sorted => fun xs H Q => JL.rSortedAny K xs H Q ∨ JS.rSortData K xs H Q
  | .sortedSet => fun _ _ _ => False
  | .minLen => DR.qMinLen K
theorem tps1 {vs : List V} {d : D} (h : Tps C.K G H vs [d]) : ∃ v, vs = [v] ∧ Tp C.K G H v d := by
  cases h with
  | cons a b => cases b; exact ⟨_, rfl, a⟩
theorem tps2 {vs : List V} {d e : D} (h : Tps C.K G H vs [d, e]) : ∃ v u, vs = [v, u] ∧ Tp C.K G H v d ∧ Tp C.K G H u e := by
  cases h with
  | cons a b =>
    obtain ⟨u, rfl, hu⟩ := tps1 b
    exact ⟨_, _, rfl, a, hu⟩
theorem rows_of : ∀ {ds : List D}, IL.rowsD ds = true → ∀ d ∈ ds, ∃ es, d = .list es ∨ d = .tuple es
  | [], _, d, h => by simp at h
  | .list es :: ds, hr, d, h => by
    rcases List.mem_cons.mp h with e | h
    · exact ⟨es, .inl e⟩
    · exact rows_of (by simpa [IL.rowsD] using hr) d h
  | .tuple es :: ds, hr, d, h => by
    rcases List.mem_cons.mp h with e | h
    · exact ⟨es, .inr e⟩
    · exact rows_of (by simpa [IL.rowsD] using hr) d h
  | .none :: _, hr, _, _ => by cases hr
  | .bool _ :: _, hr, _, _ => by cases hr
  | .int _ :: _, hr, _, _ => by cases hr
  | .str _ :: _, hr, _, _ => by cases hr
  | .dict _ :: _, hr, _, _ => by cases hr
theorem lenD_eq : DR.lenD = IL.lenD := by
  funext d
  cases d <;> rfl
theorem minLenAt_eq (ds : List D) : DR.minLenAt ds = IL.minLenAt ds := by
  unfold DR.minLenAt IL.minLenAt
  rw [lenD_eq]
theorem sortOk_of {ds : List D} (h : IL.sortOk ds = true) : PySem.W.AllAlike ds ∧ PySem.W.Sortable ds ∧ ds.length ≤ sizeLine ∧ ∀ d ∈ ds, d.depth ≤ 50 := by
  simp only [IL.sortOk, Bool.and_eq_true, Bool.or_eq_true, List.all_eq_true, decide_eq_true_eq] at h
  obtain ⟨h1, h2, h3, h4⟩ := h
  refine ⟨fun a ha b hb => h1 a ha b hb, ?_, h3, h4⟩
  rcases h2 with h2 | h2
  · refine .inl fun d hd => ?_
    have := h2 d hd
    unfold IL.tup1 at this
    split at this
    · exact ⟨_, _, rfl⟩
    · cases this
  · refine .inr fun d hd => ?_
    have := h2 d hd
    refine ⟨fun z => ?_, fun xs z => ?_⟩ <;> (subst z; cases this)
theorem fn_do (f : Fn) (S : Stt C.K δ σ G H) {vs : List V} {ds : List D} {x : Val} {Q : VK} (hs : f ≠ .sortedSet) (hvs : Tps C.K G H vs ds) (h : IL.fn f ds = some x) (w : Want (relV C.K) C δ σ G H (.ok x δ) Q) : rFn C.K f vs H Q := by
  have hne : ds ≠ [] := by
    rintro rfl
    cases f <;> cases h
  obtain ⟨d, rest, rfl⟩ := List.exists_cons_of_ne_nil hne
  cases rest with
  | nil =>
    obtain ⟨v, rfl, hv⟩ := tps1 hvs
    cases f with
    | len =>
      cases d with
      | list es =>
        cases h
        obtain ⟨p, us, rfl, hp, hx⟩ := hv.list_of S.gh
        exact ⟨_, es.length, rfl, .inl ⟨us, hp, (DpAll.length hx).symm⟩, w.now S (.int _)⟩
      | tuple es =>
        cases h
        obtain ⟨p, us, rfl, hp, hx⟩ := hv.tuple_of S.gh
        exact ⟨_, es.length, rfl, .inr ⟨us, hp, (DpAll.length hx).symm⟩, w.now S (.int _)⟩
      | str s =>
        simp only [IL.fn] at h
        split at h
        · rename_i hz
          cases h
          exact ⟨_, s.length, rfl, by rw [hv.str_of]; exact ⟨hz, rfl⟩, w.now S (.int _)⟩
        · cases h
      | _ => cases h
    | str =>
      cases d with
      | int i =>
        simp only [IL.fn] at h
        split at h
        · rename_i hz
          cases h
          exact .inl ⟨i, by rw [hv.int_of], hz, w.now S (.str _)⟩
        · cases h
      | str s =>
        cases h
        exact .inr ⟨s, by rw [hv.str_of], w.now S (.str _)⟩
      | _ => cases h
    | int =>
      cases d with
      | int i =>
        cases h
        exact .inl (.inl ⟨i, by rw [hv.int_of], w.now S (.int _)⟩)
      | bool b =>
        cases h
        exact .inl (.inr ⟨b, by rw [hv.bool_of], w.now S (.int _)⟩)
      | str s =>
        simp only [IL.fn] at h
        split at h
        · rename_i hz
          cases e : PySem.intText? s with
          | none => rw [e] at h; cases h
          | some n =>
            rw [e] at h
            cases h
            exact .inr ⟨s, n, by rw [hv.str_of], e, hz, w.now S (.int _)⟩
        · cases h
      | _ => cases h
    | abs =>
      cases d with
      | int i =>
        cases h
        exact ⟨i, by rw [hv.int_of], w.now S (.int _)⟩
      | _ => cases h
    | sum =>
      cases d with
      | list es =>
        simp only [IL.fn, Option.map_eq_some_iff] at h
        obtain ⟨ns, h1, rfl⟩ := h
        obtain ⟨p, us, rfl, hp, hx⟩ := hv.list_of S.gh
        rw [asInts_of h1] at hx
        rw [DpAll.ints hx] at hp
        exact ⟨p, ns, rfl, hp, w.now S (.int _)⟩
      | _ => cases h
    | min2 => cases d <;> cases h
    | max2 => cases d <;> cases h
    | any =>
      cases d with
      | list es =>
        simp only [IL.fn, Option.map_eq_some_iff] at h
        obtain ⟨ns, h1, rfl⟩ := h
        obtain ⟨p, us, rfl, hp, hx⟩ := hv.list_of S.gh
        rw [asBools_of h1] at hx
        rw [DpAll.bools hx] at hp
        exact ⟨p, ns, rfl, hp, w.now S (.bl _)⟩
      | _ => cases h
    | all =>
      cases d with
      | list es =>
        simp only [IL.fn, Option.map_eq_some_iff] at h
        obtain ⟨ns, h1, rfl⟩ := h
        obtain ⟨p, us, rfl, hp, hx⟩ := hv.list_of S.gh
        rw [asBools_of h1] at hx
        rw [DpAll.bools hx] at hp
        exact ⟨p, ns, rfl, hp, w.now S (.bl _)⟩
      | _ => cases h
    | tuple =>
      cases d with
      | list es =>
        cases h
        obtain ⟨p, us, rfl, hp, hx⟩ := hv.list_of S.gh
        exact ⟨p, us, rfl, .inl ⟨hp, fun l hl => w.newTup S hl hx⟩⟩
      | tuple es =>
        cases h
        have du : Dp C.K G v (.tuple es) := by
          cases hv with
          | im z => exact z
        obtain ⟨p, us, rfl, hp, hx⟩ := hv.tuple_of S.gh
        exact ⟨p, us, rfl, .inr ⟨hp, w.now S du⟩⟩
      | _ => cases h
    | list =>
      cases d with
      | list es =>
        cases h
        obtain ⟨p, us, rfl, hp, hx⟩ := hv.list_of S.gh
        exact ⟨p, us, rfl, .inl hp, fun l hl => w.newLst S hl hx⟩
      | tuple es =>
        cases h
        obtain ⟨p, us, rfl, hp, hx⟩ := hv.tuple_of S.gh
        exact ⟨p, us, rfl, .inr hp, fun l hl => w.newLst S hl hx⟩
      | _ => cases h
    | repr =>
      have h' : (if d.showable = true ∧ d.depth ≤ 60 ∧ d.shown.length ≤ sizeLine then some (Val.dat (.str d.shown)) else none) = some x := by
        cases d <;> exact h
      split at h'
      · rename_i hz
        cases h'
        exact ⟨v, d, rfl, hv.dp S.gh, hz.1, hz.2.1, hz.2.2, w.now S (.str _)⟩
      · cases h'
    | sorted =>
      cases d with
      | list es =>
        simp only [IL.fn] at h
        obtain ⟨p, us, rfl, hp, hx⟩ := hv.list_of S.gh
        cases h1 : IL.asInts es with
        | some ns =>
          rw [h1] at h
          cases h
          rw [asInts_of h1] at hx
          rw [DpAll.ints hx] at hp
          refine .inl ⟨p, ns, rfl, .inl hp, fun ns' q k1 k2 hq => ?_⟩
          rw [sorted_is k1 k2]
          exact w.newLst S hq (DpAll.of_ints _)
        | none =>
          rw [h1] at h
          simp only at h
          split at h
          · rename_i hz
            cases h
            obtain ⟨z1, z2, z3, z4⟩ := sortOk_of hz
            exact .inr ⟨p, us, es, G, rfl, hp, DpAll.ex S.gh _ _ hx, hx, z1, z2, z3, z4, fun ys q hy hq => w.newLst S hq hy⟩
          · cases h
      | tuple es =>
        simp only [IL.fn, Option.map_eq_some_iff] at h
        obtain ⟨ns, h1, rfl⟩ := h
        obtain ⟨p, us, rfl, hp, hx⟩ := hv.tuple_of S.gh
        rw [asInts_of h1] at hx
        rw [DpAll.ints hx] at hp
        refine .inl ⟨p, ns, rfl, .inr hp, fun ns' q k1 k2 hq => ?_⟩
        rw [sorted_is k1 k2]
        exact w.newLst S hq (DpAll.of_ints _)
      | _ => cases h
    | sortedSet => exact absurd rfl hs
    | minLen =>
      cases d with
      | list es =>
        simp only [IL.fn] at h
        split at h
        · rename_i hr
          obtain ⟨p, us, rfl, hp, hx⟩ := hv.list_of S.gh
          cases es with
          | nil =>
            cases h
            exact ⟨p, us, [], rfl, hp, DpAll.ex S.gh _ _ hx, rows_of hr, fun _ => w.now S .non, fun v' e' => by cases hx; simp at e'⟩
          | cons e es =>
            simp only [Option.map_eq_some_iff] at h
            obtain ⟨y, h1, rfl⟩ := h
            refine ⟨p, us, e :: es, rfl, hp, DpAll.ex S.gh _ _ hx, rows_of hr, fun z => (by cases z), fun v' e' => ?_⟩
            rw [minLenAt_eq] at e'
            obtain ⟨d', q1, q2⟩ := DpAll.getV hx e'
            rw [h1] at q1
            cases q1
            exact w.now S q2
        · cases h
      | _ => cases h
  | cons e rest =>
    cases rest with
    | cons _ _ => cases f <;> cases d <;> (try cases e) <;> cases h
    | nil =>
      obtain ⟨v, u, rfl, hv, hu⟩ := tps2 hvs
      cases f with
      | min2 =>
        cases d with
        | int i =>
          cases e with
          | int j =>
            cases h
            exact ⟨i, j, by rw [hv.int_of, hu.int_of], w.now S (.int _)⟩
          | _ => cases h
        | _ => cases e <;> cases h
      | max2 =>
        cases d with
        | int i =>
          cases e with
          | int j =>
            cases h
            exact ⟨i, j, by rw [hv.int_of, hu.int_of], w.now S (.int _)⟩
          | _ => cases h
        | _ => cases e <;> cases h
      | _ => cases d <;> cases e <;> cases h
end
end J
end
section
set_option Elab.async false
set_option linter.all false
set_option maxRecDepth 100000
set_option maxHeartbeats 1000000
/-! J5: statements, loops, comprehensions. -/
namespace J
open PySem L2 PyProof.Rows
open IL (D Ow Slot Val CR RV Fl Bop Cop Tg)
section
variable {C : Ctx} {δ δ' δ1 δ2 : Env} {σ σ' σ1 : St} {G H G' H' G1 H1 G2 H2 : Hp}
/-- the slot is none of the owned parameters -/
def Free (C : Ctx) (δ : Env) (i : Nat) : Prop := C.kp ≤ i ∨ ∀ o, δ[i]? ≠ some (.ow o)
theorem aft_set {i : Nat} {s : Slot} {v : Option V} {G' H' : Hp} (S : Stt C.K δ σ G H) (f : Free C δ i) (st : Stt C.K (δ.set i s) (σ.set i v) G' H') (nx : Nx (Own δ σ) G H G' H') (ow : ∀ l, Own (δ.set i s) (σ.set i v) l → Own δ σ l ∨ H l = none) : Aft C δ σ G H (δ.set i s) (σ.set i v) G' H' := by
  refine ⟨st, nx, ow, fun j l hj h => ?_, by rw [List.length_set]⟩
  have hij : i ≠ j := fun e => by
    subst e
    rcases f with f | f
    · omega
    · obtain ⟨⟨o, e⟩, _⟩ := h
      exact f o e
  obtain ⟨⟨o, e1⟩, e2⟩ := h
  exact ⟨⟨o, by rw [List.getElem?_set_ne hij]; exact e1⟩, by rw [List.getElem?_set_ne hij]; exact e2⟩
theorem aft_put {i : Nat} {v : V} {d : PyData} (S : Stt C.K δ σ G H) (f : Free C δ i) (hd : Dp C.K G v d) : Aft C δ σ G H (δ.set i (.im d)) (σ.set i (some v)) G H :=
  aft_set S f (S.put hd).1 Nx.refl fun l h => .inl ((S.put hd).2 l h)
theorem aft_unk {i : Nat} {v : Option V} (S : Stt C.K δ σ G H) (f : Free C δ i) : Aft C δ σ G H (δ.set i .un) (σ.set i v) G H :=
  aft_set S f S.unk.1 Nx.refl fun l h => .inl (S.unk.2 l h)
theorem kp_set {i j : Nat} {l : Addr} {s : Slot} {v : Option V} (f : Free C δ i) (hj : j < C.kp) (h : OwnAt δ σ j l) : OwnAt (δ.set i s) (σ.set i v) j l := by
  have hij : i ≠ j := fun e => by
    subst e
    rcases f with f | f
    · omega
    · obtain ⟨⟨o, e⟩, _⟩ := h
      exact f o e
  obtain ⟨⟨o, e1⟩, e2⟩ := h
  exact ⟨⟨o, by rw [List.getElem?_set_ne hij]; exact e1⟩, by rw [List.getElem?_set_ne hij]; exact e2⟩
/-- nothing that was changes -/
structure Pur (G H G' H' : Hp) : Prop where
  gg : Ex G G'
  gh : Ex G' H'
  hh : Ex H H'
  fr : ∀ a o, H a = some o → G' a = G a
theorem Pur.refl (e : Ex G H) : Pur G H G H := ⟨Evl.Ex.refl G, e, Evl.Ex.refl H, fun _ _ _ => rfl⟩
theorem Pur.aft (p : Pur G H G' H') (S : Stt C.K δ σ G H) : Aft C δ σ G H δ σ G' H' := by
  refine ⟨S.next p.gg p.gh fun l hl => ?_, ⟨p.gg, fun a o _ e => p.hh a o e, fun a o _ e => p.fr a o e, fun a o e => ⟨o, p.hh a o e⟩⟩, fun _ h => .inl h, fun _ _ _ h => h, rfl⟩
  obtain ⟨a, o, b⟩ := S.own hl
  exact ⟨(p.fr l o b).trans a, (p.hh l o b).trans b.symm⟩
/-- a thing that is walked gives the items ds -/
def Walks (K : PySem.W.Frag) (J : It) (G1 : Hp) (ds : List D) : Prop := ∀ i G' H', Ex G1 G' → Ex G' H' →
  (i < ds.length → J.go i H' ∧ ∀ x H2, J.yld i H' x H2 → ∃ G2 d, Pur G' H' G2 H2 ∧ ds[i]? = some d ∧ Dp K G2 x d) ∧ (i = ds.length → J.stop i H')
theorem rngD_len (lo : Int) (n : Nat) : (IL.rngD lo n).length = n := by simp [IL.rngD]
theorem rngD_get {lo : Int} {n i : Nat} (h : i < n) : (IL.rngD lo n)[i]? = some (.int (lo + (i : Int))) := by simp [IL.rngD, h]
theorem rngD_some {lo : Int} {n i : Nat} {d : PyData} (h : (IL.rngD lo n)[i]? = some d) : i < n ∧ d = .int (lo + (i : Int)) := by
  have hi : i < n := by
    have q := (List.getElem?_eq_some_iff.mp h).1
    rw [rngD_len] at q
    exact q
  rw [rngD_get hi] at h
  exact ⟨hi, (Option.some.inj h).symm⟩
theorem walks_rng (K : PySem.W.Frag) (lo : Int) (n : Nat) : Walks K (Itr lo n) G1 (IL.rngD lo n) := fun i G' H' e1 e2 => by
  rw [rngD_len]
  refine ⟨fun hi => ⟨hi, fun x H2 y => ?_⟩, fun h => Nat.le_of_eq h.symm⟩
  obtain ⟨e, y⟩ := y
  subst e
  subst y
  exact ⟨G', _, Pur.refl e2, rngD_get hi, .int _⟩
theorem free_of {kp : Nat} {i : Nat} (hk : kp = C.kp) (h : IL.freeB kp δ i = true) : Free C δ i := by
  subst hk
  simp only [IL.freeB, Bool.or_eq_true, decide_eq_true_eq] at h
  rcases h with h | h
  · exact .inl h
  · refine .inr fun o e => ?_
    rw [e] at h
    exact absurd h (by simp)
/-! ### what is walked -/
def relI (K : PySem.W.Frag) : Rel (List D) It := fun _ _ _ G _ J ds => Walks K J G ds
theorem back_I {K : PySem.W.Frag} : Back (relI K) := fun _ _ _ _ _ _ _ _ _ r => r
/-- a list or a tuple, the derivation being told for both -/
def iOr (w1 w2 : TI) : TI := fun σ H R => w1 σ H R ∨ w2 σ H R
theorem pi_or {X : Cx} {tg it : Expr} {w1 w2 : TI} (h1 : PI X tg it w1) (h2 : PI X tg it w2) : PI X tg it (iOr w1 w2) := ⟨fun pins s σ H R I h => h.elim (h1.run pins s σ H R I) (h2.run pins s σ H R I)⟩
theorem want_opt {α β : Type} {rel : Rel α β} {o : Option α} {Q : β → Hp → Prop} {P : Prop} (w : Want rel C δ σ G H (IL.optR δ o) Q) (h : ∀ a, o = some a → Want rel C δ σ G H (.ok a δ) Q → P) : P := by
  cases o with
  | none => exact w.elim
  | some a => exact h a rfl w
theorem ji_of {te : TE} {fe : Env → IL.R Val} (h : JE (relV C.K) C te fe) : JE (relI C.K) C (iOr (iList C.K te) (iOr (iTup C.K te) (iStr te))) (fun δ => (fe δ).bind fun v δ1 => (IL.dem C.kp v δ1).bind fun d δ2 => IL.optR δ2 (IL.itemsD d)) := fun δ σ G H S R w => by
  -- the value is one of both: which one is told by what f gives
  have main : ∀ (r : IL.R Val), r = fe δ → iOr (iList C.K te) (iOr (iTup C.K te) (iStr te)) σ H R := fun r hr => by
    have w' : Want (relI C.K) C δ σ G H ((fe δ).bind fun v δ1 => (IL.dem C.kp v δ1).bind fun d δ2 => IL.optR δ2 (IL.itemsD d)) R := w
    cases e1 : fe δ with
    | no => rw [e1] at w'; exact w'.elim
    | ex c fs δ1 =>
      rw [e1] at w'
      exact .inl (h δ σ G H S _ (by rw [e1]; exact w'))
    | ok a δ1 =>
      have w2 := w'
      rw [e1] at w2
      simp only [IL.bind_ok] at w2
      cases e2 : IL.dem C.kp a δ1 with
      | no => rw [e2] at w2; exact w2.elim
      | ex c fs δ2 => exact absurd e2 dem_noex
      | ok d δ2 =>
        rw [e2] at w2
        simp only [IL.bind_ok] at w2
        have dem : ∀ P : V → Hp → Prop, (∀ v G' H', Aft C δ σ G H δ2 σ G' H' → Dp C.K G' v d → P v H') → te σ H P := fun P hP => h δ σ G H S P (by
          rw [e1]
          refine want_dem ?_
          rw [e2]
          exact hP)
        cases d with
        | list ds =>
          refine .inl (dem _ fun v G1 H1 a k => ?_)
          obtain ⟨p, vs, rfl, hs, hv⟩ := Dp.list_of k
          refine ⟨p, rfl, ⟨vs, Evl.ex_l a.st.gh hs⟩, w2 _ G1 H1 a fun i G' H' e1 e2 => ?_⟩
          have hs' : SqL C.K H' p vs := Evl.ex_l (e1.trans e2) hs
          have hl := DpAll.length hv
          refine ⟨fun hlt => ⟨⟨vs, vs[i]'(by omega), hs', by simp [hl, hlt]⟩, fun x H2 y => ?_⟩, fun he => ⟨vs, hs', by omega⟩⟩
          obtain ⟨e, y⟩ := y
          obtain ⟨d, q1, q2⟩ := DpAll.getV hv (y vs hs')
          subst e
          exact ⟨G', d, Pur.refl e2, q1, Dp.ex e1 _ _ q2⟩
        | tuple ds =>
          refine .inr (.inl (dem _ fun v G1 H1 a k => ?_))
          obtain ⟨p, vs, rfl, hs, hv⟩ := Dp.tuple_of k
          refine ⟨p, rfl, ⟨vs, Evl.ex_t a.st.gh hs⟩, w2 _ G1 H1 a fun i G' H' e1 e2 => ?_⟩
          have hs' : SqT C.K H' p vs := Evl.ex_t (e1.trans e2) hs
          have hl := DpAll.length hv
          refine ⟨fun hlt => ⟨⟨vs, vs[i]'(by omega), hs', by simp [hl, hlt]⟩, fun x H2 y => ?_⟩, fun he => ⟨vs, hs', by omega⟩⟩
          obtain ⟨e, y⟩ := y
          obtain ⟨d, q1, q2⟩ := DpAll.getV hv (y vs hs')
          subst e
          exact ⟨G', d, Pur.refl e2, q1, Dp.ex e1 _ _ q2⟩
        | str s =>
          refine .inr (.inr (dem _ fun v G1 H1 a k => ?_))
          refine ⟨s, Dp.str_of k, w2 _ G1 H1 a fun i G' H' e1 e2 => ?_⟩
          have hl : (s.cps.toList.map fun c => PyData.str ⟨#[c]⟩).length = s.cps.size := by rw [List.length_map, Array.length_toList]
          refine ⟨fun hlt => ⟨by rw [hl] at hlt; exact hlt, fun x H2 y => ?_⟩, fun he => by rw [hl] at he; exact Nat.le_of_eq he.symm⟩
          obtain ⟨e, c, hc, rfl⟩ := y
          subst e
          have q1 : (s.cps.toList.map fun c => PyData.str ⟨#[c]⟩)[i]? = some (.str ⟨#[c]⟩) := by
            rw [List.getElem?_map, Array.getElem?_toList, hc]
            rfl
          exact ⟨G', _, Pur.refl e2, q1, .str _⟩
        | _ => exact w2.elim
  exact main _ rfl
theorem ji_rng1 {te : TE} {fe : Env → IL.R Val} (h : JE (relV C.K) C te fe) : JE (relI C.K) C (iRng1 (tCons te tNil)) (fun δ => (fe δ).bind fun v δ1 => IL.op1 IL.rng1D v δ1) := fun δ σ G H S R w =>
  h δ σ G H S _ (want_bind back_I w fun x δ1 u G1 H1 a1 r1 w1 => want_op1 w1 fun d ds h1 h3 w3 => by
    cases d with
    | int j =>
      simp only [IL.rng1D] at h3
      split at h3
      · rename_i hz
        cases h3
        have eu := (cur_tp a1.st r1 h1).int_of
        subst eu
        exact ⟨j, rfl, hz.1, hz.2, w3.now a1.st (walks_rng _ _ _)⟩
      · cases h3
    | _ => cases h3)
theorem ji_rng2 {ta tb : TE} {fa fb : Env → IL.R Val} (ha : JE (relV C.K) C ta fa) (hb : JE (relV C.K) C tb fb) : JE (relI C.K) C (iRng2 (tCons ta (tCons tb tNil))) (fun δ => (fa δ).bind fun v δ1 => (fb δ1).bind fun u δ2 => IL.op2 IL.rng2D v u δ2) := fun δ σ G H S R w =>
  ha δ σ G H S _ (want_bind back_I w fun x δ1 u G1 H1 a1 r1 w1 => hb δ1 σ G1 H1 a1.st _ (want_bind back_I w1 fun y δ2 v G2 H2 a2 r2 w2 => want_op2 w2 fun d e ds h1 h2 h3 w3 => by
    have t1 := cur_tp a2.st (r1.later a2) h1
    have t2 := cur_tp a2.st r2 h2
    cases d with
    | int i =>
      cases e with
      | int j =>
        simp only [IL.rng2D] at h3
        split at h3
        · rename_i hz
          cases h3
          have eu := t1.int_of
          have ev := t2.int_of
          subst eu ev
          exact ⟨i, j, rfl, hz, w3.now a2.st (walks_rng _ _ _)⟩
        · cases h3
      | _ => cases h3
    | _ => cases e <;> cases h3))
/-! ### targets -/
def JG (C : Ctx) (is : List Nat) (g : TG) (f : D → Env → Option Env) : Prop := ∀ d δ σ G H v δ', Stt C.K δ σ G H → Dp C.K G v d → f d δ = some δ' → ∀ Q : St → Hp → Prop,
  (∀ σ' G' H', Aft C δ σ G H δ' σ' G' H' → (∀ vs, (∀ i ∈ is, i ∈ vs) → wipe σ' vs = wipe σ vs) → Q σ' H') → g v σ H Q
/-! ### comprehensions -/
open IL (wipeE)
theorem wipeE_length (δ : Env) : ∀ vs : List Nat, (wipeE δ vs).length = δ.length
  | [] => rfl
  | v :: vs => by unfold IL.wipeE; rw [List.length_set, wipeE_length δ vs]
theorem wipeE_some {i : Nat} {s : Slot} (hs : s ≠ .un) : ∀ {vs : List Nat}, (wipeE δ vs)[i]? = some s → δ[i]? = some s ∧ i ∉ vs
  | [], h => ⟨h, by simp⟩
  | v :: vs, h => by
    unfold IL.wipeE at h
    rcases get_set h with ⟨_, z⟩ | ⟨z, q⟩
    · exact absurd z hs
    · obtain ⟨a, b⟩ := wipeE_some hs q
      exact ⟨a, by simp [b, Ne.symm z]⟩
theorem wipeE_get {i : Nat} : ∀ {vs : List Nat}, i ∉ vs → (wipeE δ vs)[i]? = δ[i]?
  | [], _ => rfl
  | v :: vs, h => by
    unfold IL.wipeE
    rw [List.getElem?_set_ne (fun e => h (by simp [e]))]
    exact wipeE_get (fun z => h (List.mem_cons_of_mem _ z))
theorem wipe_get {i : Nat} : ∀ {vs : List Nat}, i ∉ vs → (wipe σ vs)[i]? = σ[i]?
  | [], _ => rfl
  | v :: vs, h => by
    unfold wipe
    rw [List.getElem?_set_ne (fun e => h (by simp [e]))]
    exact wipe_get (fun z => h (List.mem_cons_of_mem _ z))
/-- the same with the slots vs forgotten, over any values of them -/
theorem Stt.wiped {K : KX} {vs : List Nat} (S : Stt K δ σ G H) (hl : σ'.length = σ.length) (hv : ∀ i, i ∉ vs → σ'[i]? = σ[i]?) : Stt K (wipeE δ vs) σ' G H ∧ ∀ j l, OwnAt (wipeE δ vs) σ' j l → OwnAt δ σ j l := by
  have back : ∀ j l, OwnAt (wipeE δ vs) σ' j l → OwnAt δ σ j l := fun j l ⟨⟨o, e⟩, e2⟩ => by
    obtain ⟨a, b⟩ := wipeE_some (by intro z; cases z) e
    exact ⟨⟨o, a⟩, by rw [← hv j b]; exact e2⟩
  refine ⟨⟨S.gh, fun i s e => ?_, fun i j l h1 h2 => S.dis i j l (back _ _ h1) (back _ _ h2), by rw [wipeE_length, hl]; exact S.len, S.xd⟩, back⟩
  cases s with
  | un => trivial
  | im d =>
    obtain ⟨a, b⟩ := wipeE_some (by intro z; cases z) e
    rw [hv i b]
    exact S.env i _ a
  | ow o =>
    obtain ⟨a, b⟩ := wipeE_some (by intro z; cases z) e
    rw [hv i b]
    exact S.env i _ a
  | xc c fs =>
    obtain ⟨a, b⟩ := wipeE_some (by intro z; cases z) e
    rw [hv i b]
    exact S.env i _ a
theorem aft_wiped {vs : List Nat} (S : Stt C.K δ σ G H) (hl : σ'.length = σ.length) (hv : ∀ i, i ∉ vs → σ'[i]? = σ[i]?) (hf : ∀ i ∈ vs, C.kp ≤ i) : Aft C δ σ G H (wipeE δ vs) σ' G H := by
  have z := S.wiped hl hv
  refine ⟨z.1, Nx.refl, fun l ⟨j, h⟩ => .inl ⟨j, z.2 j l h⟩, fun j l hj ⟨⟨o, e⟩, e2⟩ => ?_, wipeE_length _ _⟩
  have hn : j ∉ vs := fun h => by have := hf j h; omega
  exact ⟨⟨o, by rw [wipeE_get hn]; exact e⟩, by rw [hv j hn]; exact e2⟩
theorem wipe_in {i : Nat} : ∀ {vs : List Nat}, i ∈ vs → i < σ.length → (wipe σ vs)[i]? = some none
  | v :: vs, h, hl => by
    unfold wipe
    by_cases e : v = i
    · subst e
      rw [List.getElem?_set_self (by rw [wipe_length]; exact hl)]
    · rw [List.getElem?_set_ne e]
      exact wipe_in ((List.mem_cons.mp h).resolve_left (fun z => e z.symm)) hl
theorem wipe_congr {vs : List Nat} (hl : σ'.length = σ.length) (hv : ∀ i, i ∉ vs → σ'[i]? = σ[i]?) : wipe σ' vs = wipe σ vs := by
  apply List.ext_getElem?
  intro i
  by_cases h : i ∈ vs
  · by_cases hi : i < σ.length
    · rw [wipe_in h hi, wipe_in h (by rw [hl]; exact hi)]
    · rw [List.getElem?_eq_none (by rw [wipe_length, hl]; omega), List.getElem?_eq_none (by rw [wipe_length]; omega)]
  · rw [wipe_get h, wipe_get h]
    exact hv i h
theorem wipe_set {vs : List Nat} {j : Nat} {x : Option V} (h : j ∈ vs) : wipe (σ.set j x) vs = wipe σ vs := wipe_congr (by rw [List.length_set]) fun i hi => by
  have ne : j ≠ i := fun e => hi (e ▸ h)
  exact List.getElem?_set_ne ne
theorem wipe_wipe {vs : List Nat} : wipe (wipe σ vs) vs = wipe σ vs := wipe_congr (wipe_length _ _) fun i hi => wipe_get hi
theorem wipeE_in {i : Nat} : ∀ {vs : List Nat}, i ∈ vs → i < δ.length → (wipeE δ vs)[i]? = some .un
  | v :: vs, h, hl => by
    unfold IL.wipeE
    by_cases e : v = i
    · subst e
      rw [List.getElem?_set_self (by rw [wipeE_length]; exact hl)]
    · rw [List.getElem?_set_ne e]
      exact wipeE_in ((List.mem_cons.mp h).resolve_left (fun z => e z.symm)) hl
theorem wipeE_wipeE {vs : List Nat} : wipeE (wipeE δ vs) vs = wipeE δ vs := by
  apply List.ext_getElem?
  intro i
  by_cases h : i ∈ vs
  · by_cases hi : i < δ.length
    · rw [wipeE_in h hi, wipeE_in h (by rw [wipeE_length]; exact hi)]
    · rw [List.getElem?_eq_none (by rw [wipeE_length, wipeE_length]; omega), List.getElem?_eq_none (by rw [wipeE_length]; omega)]
  · rw [wipeE_get h]
/-- a thing that H alone knows, new since H1, is changed -/
theorem Aft.under {D : Addr} {o : HO} (a : Aft C δ σ G H δ' σ' G' H') (hD : H D = none) (gD : G' D = none) (nD : ¬ Own δ' σ' D) : Aft C δ σ G H δ' σ' G' (upd H' D o) := by
  refine ⟨a.st.next (Evl.Ex.refl _) (fun b x e => ?_) (fun l hl => ⟨(a.st.own hl).1, ?_⟩), ⟨a.nx.gg, fun b x hm e => ?_, a.nx.fr, fun b x e => ?_⟩, a.ow, a.kp, a.ln⟩
  · rw [upd_ne (ne_of_none e gD)]
    exact a.st.gh b x e
  · have ne : l ≠ D := fun z => nD (z ▸ hl)
    rw [upd_ne ne]
  · rw [upd_ne (ne_of_none e hD)]
    exact a.nx.hh b x hm e
  · rw [upd_ne (ne_of_none e hD)]
    exact a.nx.dom b x e
end
end J
end
section
set_option Elab.async false
set_option linter.all false
set_option maxRecDepth 100000
set_option maxHeartbeats 1000000
/-! J6: targets, comprehensions, statements, loops. -/
namespace J
open PySem L2 PyProof.Rows
open IL (D Ow Slot Val CR RV Fl Bop Cop Tg wipeE)
section
variable {C : Ctx} {δ δ' δ1 δ2 : Env} {σ σ' σ1 : St} {G H G' H' G1 H1 G2 H2 : Hp}
theorem jg_name {i : Nat} : JG C [i] (gName i) (IL.bindT C.kp (.name i)) := fun d δ σ G H v δ' S hd h Q q => by
  simp only [IL.bindT] at h
  split at h
  · rename_i hf
    cases h
    exact q _ G H (aft_put S (free_of rfl hf) hd) fun vs hv => wipe_set (hv i (List.mem_singleton.mpr rfl))
  · cases h
def JGs (C : Ctx) (is : List Nat) (g : TGs) (f : List D → Env → Option Env) : Prop := ∀ ds δ σ G H us δ', Stt C.K δ σ G H → DpAll C.K G us ds → f ds δ = some δ' → ∀ Q : St → Hp → Prop,
  (∀ σ' G' H', Aft C δ σ G H δ' σ' G' H' → (∀ vs, (∀ i ∈ is, i ∈ vs) → wipe σ' vs = wipe σ vs) → Q σ' H') → g us σ H Q
theorem jgs_nil : JGs C [] gNil (IL.bindAll C.kp []) := fun ds δ σ G H us δ' S hd h Q q => by
  cases ds with
  | nil =>
    cases hd
    cases h
    exact ⟨rfl, q _ G H (Aft.refl S) fun _ _ => rfl⟩
  | cons d ds => cases h
theorem jgs_cons {i : Nat} {is : List Nat} {gs : TGs} (hs : JGs C is gs (IL.bindAll C.kp is)) : JGs C (i :: is) (gCons (gName i) gs) (IL.bindAll C.kp (i :: is)) := fun ds δ σ G H us δ' S hd h Q q => by
  cases ds with
  | nil => cases h
  | cons d ds =>
    cases hd with
    | cons h1 h2 =>
      simp only [IL.bindAll] at h
      split at h
      · rename_i hf
        have a := aft_put S (free_of rfl hf) h1
        exact ⟨_, _, rfl, hs ds _ _ G H _ δ' a.st h2 h Q fun σ' G' H' b hw => q σ' G' H' (a.trans b) fun vs hv => (hw vs fun j hj => hv j (List.mem_cons_of_mem _ hj)).trans (wipe_set (hv i List.mem_cons_self))⟩
      · cases h
theorem bindAll_len {kp : Nat} : ∀ {is : List Nat} {ds : List D} {δ δ' : Env}, IL.bindAll kp is ds δ = some δ' → ds.length = is.length
  | [], [], _, _, _ => rfl
  | [], _ :: _, _, _, h => by cases h
  | _ :: _, [], _, _, h => by cases h
  | i :: is, d :: ds, δ, δ', h => by
    simp only [IL.bindAll] at h
    split at h
    · exact congrArg (· + 1) (bindAll_len h)
    · cases h
theorem jg_tup {is : List Nat} {gs : TGs} (hs : JGs C is gs (IL.bindAll C.kp is)) : JG C is (gTup C.K is.length gs) (IL.bindT C.kp (.tup is)) := fun d δ σ G H v δ' S hd h Q q => by
  cases d with
  | tuple ds =>
    obtain ⟨a, us, rfl, ht, hv⟩ := Dp.tuple_of hd
    exact ⟨a, us, rfl, Evl.ex_t S.gh ht, by rw [DpAll.length hv]; exact bindAll_len h, hs ds δ σ G H us δ' S hv h Q q⟩
  | _ => cases h
/-! ### comprehensions -/
theorem je_lc {wi : TI} {g : TG} {tt : TT} {te : TE} {tg : Tg} {is vs : List Nat} {fi : Env → IL.R (List D)} {ft : Env → IL.R Bool} {fe : Env → IL.R Val} (hi : JE (relI C.K) C wi fi) (hg : JG C is g (IL.bindT C.kp tg)) (hin : ∀ i ∈ is, i ∈ vs) {e' : St → XK} (ht : JE (relE Bool) (C.un e') tt ft) (he : JE (relV C.K) (C.un e') te fe) :
    JE (relV C.K) C (tLc wi g tt te vs) (fun δ => (fi δ).bind fun ds δ1 => if vs.all (fun v => decide (C.kp ≤ v)) = true then
      (IL.lcGo C.kp tg ft (fun δ => (fe δ).bind (IL.dem C.kp)) vs ds [] (wipeE δ1 vs)).bind fun ys δ2 => .ok (.new (.lst ys)) δ2 else .no) := fun δ σ G H S Q w =>
  hi δ σ G H S _ (want_bind back_V w fun ds δ1 J G1 H1 a hw w1 => by
    by_cases hk : vs.all (fun v => decide (C.kp ≤ v)) = true
    case neg =>
      rw [if_neg hk] at w1
      exact w1.elim
    rw [if_pos hk] at w1
    have hf : ∀ i ∈ vs, C.kp ≤ i := fun i h => of_decide_eq_true (List.all_eq_true.mp hk i h)
    intro L hD
    have a0 : Aft C δ1 σ G1 H1 (wipeE δ1 vs) σ G1 H1 := aft_wiped a.st rfl (fun _ _ => rfl) hf
    have a1 : Aft C (wipeE δ1 vs) σ G1 H1 (wipeE δ1 vs) σ G1 (upd H1 L (.lst [])) := Aft.fresh a0.st hD
    -- what is wanted from the i-th turn on
    let Wn : Nat → Env → List D → Hp → Hp → Prop := fun i δ' acc G' H' => Want (relV C.K) C δ1 σ G1 H1 ((IL.lcGo C.kp tg ft (fun δ => (fe δ).bind (IL.dem C.kp)) vs (ds.drop i) acc δ').bind fun ys δ2 => .ok (.new (.lst ys)) δ2) Q
    refine ⟨fun i m H' => m = ds.length - i ∧ i ≤ ds.length ∧ ∃ δ' G' us acc, Aft C δ1 σ G1 H1 δ' σ G' H' ∧ H' L = some (.lst us) ∧ G' L = none ∧ ¬ Own δ' σ L ∧ DpAll C.K G' us acc ∧ wipeE δ' vs = δ' ∧ Wn i δ' acc G' H',
      ⟨_, rfl, Nat.zero_le _, wipeE δ1 vs, G1, [], [], a0.trans a1, upd_same, a0.st.gnone hD, notOwn a0.st hD, .nil, wipeE_wipeE, w1⟩, ?_⟩
    rintro i m H' ⟨rfl, hi, δ', G', us, acc, b, hHD, hGD, hnD, hda, hwi, hI⟩
    have wk := hw i G' H' b.nx.gg b.st.gh
    have hI : Want (relV C.K) C δ1 σ G1 H1 ((IL.lcGo C.kp tg ft (fun δ => (fe δ).bind (IL.dem C.kp)) vs (ds.drop i) acc δ').bind fun ys δ2 => .ok (.new (.lst ys)) δ2) Q := hI
    rcases Nat.lt_or_ge i ds.length with hlt | hge
    · obtain ⟨w1, w2⟩ := wk.1 hlt
      refine .inr ⟨w1, fun H2 => ∃ δ' G' us acc, Aft C δ1 σ G1 H1 δ' σ G' H2 ∧ H2 L = some (.lst us) ∧ G' L = none ∧ ¬ Own δ' σ L ∧ DpAll C.K G' us acc ∧ wipeE δ' vs = δ' ∧ Wn (i + 1) δ' acc G' H2, fun H2 q2 => ⟨ds.length - (i + 1), by omega, rfl, hlt, q2⟩, fun x H2 y => ?_⟩
      obtain ⟨G2, d, pu, e, hx⟩ := w2 x H2 y
      have c1 := pu.aft b.st
      have c2 : Aft C δ' σ G2 H2 δ' (wipe σ vs) G2 H2 := by
        have z := aft_wiped (σ' := wipe σ vs) c1.st (wipe_length _ _) (fun i hi => wipe_get hi) hf
        rw [hwi] at z
        exact z
      have c := c1.trans c2
      -- what becomes of the list at L
      have fin : ∀ {δ5 : Env} {σ5 : St} {G5 H5 : Hp}, Aft C δ' σ G' H' δ5 σ5 G5 H5 → wipe σ5 vs = wipe σ vs → H5 L = some (.lst us) ∧ G5 L = none ∧ ¬ Own (wipeE δ5 vs) σ L ∧ DpAll C.K G5 us acc ∧ Aft C δ1 σ G1 H1 (wipeE δ5 vs) σ G5 H5 := fun {δ5 σ5 G5 H5} f hw5 => by
        have hl : σ.length = σ5.length := by rw [← wipe_length σ vs, ← hw5, wipe_length]
        have z := aft_wiped (σ' := σ) (vs := vs) f.st hl (fun i hi => by rw [← wipe_get (σ := σ) hi, ← wipe_get (σ := σ5) hi, hw5]) hf
        have f5 := f.trans z
        refine ⟨f.nx.hh L _ hnD hHD, (f.nx.fr L _ hnD hHD).trans hGD, fun ho => ?_, DpAll.ex f.nx.gg _ _ hda, b.trans f5⟩
        rcases f5.ow L ho with z | z
        · exact hnD z
        · rw [hHD] at z; cases z
      have hdr : ds.drop i = d :: ds.drop (i + 1) := by
        rw [List.drop_eq_getElem_cons hlt]
        congr 1
        rw [List.getElem?_eq_getElem hlt] at e
        exact Option.some.inj e
      rw [hdr] at hI
      simp only [IL.lcGo] at hI
      cases hb : IL.bindT C.kp tg d δ' with
      | none => rw [hb] at hI; exact hI.elim
      | some δ3 =>
        rw [hb] at hI
        simp only at hI
        refine hg d δ' (wipe σ vs) G2 H2 x δ3 c.st hx hb _ fun σ3 G3 H3 f hws => ?_
        have hw3 : wipe σ3 vs = wipe (wipe σ vs) vs := hws vs hin
        refine ⟨hw3.trans wipe_wipe, ht δ3 σ3 G3 H3 f.st _ ?_⟩
        cases et : ft δ3 with
        | no => rw [et] at hI; exact hI.elim
        | ex _ _ _ => rw [et] at hI; exact hI.elim
        | ok b4 δ4 =>
          rw [et] at hI
          simp only [IL.R.calm, IL.bind_ok] at hI
          intro b4' G4 H4 g4 eb
          have g4 : Aft C δ3 σ3 G3 H3 δ4 σ3 G4 H4 := g4.nu
          have eb' : b4' = b4 := eb
          subst eb'
          cases b4' with
          | false =>
            simp only [Bool.false_eq_true, if_false] at hI ⊢
            obtain ⟨z1, z2, z3, z4, z5⟩ := fin ((c.trans f).trans g4) (hw3.trans wipe_wipe)
            exact ⟨_, G4, us, acc, z5, z1, z2, z3, z4, wipeE_wipeE, hI⟩
          | true =>
            simp only [if_true] at hI ⊢
            refine he δ4 σ3 G4 H4 g4.st _ (want_demR ?_)
            cases ev : (fe δ4).bind (IL.dem C.kp) with
            | no => rw [ev] at hI; exact hI.elim
            | ex _ _ _ => rw [ev] at hI; exact hI.elim
            | ok y δ5 =>
              rw [ev] at hI
              simp only [IL.R.calm, IL.bind_ok] at hI
              intro v G5 H5 g5 r5
              have g5 : Aft C δ4 σ3 G4 H4 δ5 σ3 G5 H5 := g5.nu
              by_cases hlen : acc.length < sizeLine
              case neg =>
                rw [if_neg hlen] at hI
                exact hI.elim
              rw [if_pos hlen] at hI
              obtain ⟨z1, z2, z3, z4, z5⟩ := fin (((c.trans f).trans g4).trans g5) (hw3.trans wipe_wipe)
              exact ⟨us, z1, by rw [DpAll.length z4]; exact hlen, _, G5, us ++ [v], acc ++ [y], z5.under hD z2 z3, upd_same, z2, z3, DpAll.append z4 (.one r5), wipeE_wipeE, hI⟩
    · have e : i = ds.length := by omega
      subst e
      rw [List.drop_length] at hI
      refine .inl ⟨wk.2 rfl, hI (.ref L) G' H' b ⟨L, .lst us, rfl, hD, hGD, hHD, hnD, us, rfl, hda⟩⟩)
/-! ### statements -/
theorem js_next : JS C tNext (fun δ => .ok .nx δ) := fun δ σ G H S De p => p σ G H (Aft.refl S)
theorem js_break : JS C tBreak (fun δ => .ok .bk δ) := fun δ σ G H S De p => p σ G H (Aft.refl S)
theorem js_cont : JS C tCont (fun δ => .ok .ct δ) := fun δ σ G H S De p => p σ G H (Aft.refl S)
theorem js_seq {t u : TS} {f g : Env → IL.R Fl} (h1 : JS C t f) (h2 : JS C u g) : JS C (tSeq t u) (fun δ => (f δ).bind fun a δ1 => match a with
    | .nx => g δ1
    | a => .ok a δ1) := fun δ σ G H S De p => by
  refine h1 δ σ G H S _ ?_
  have p' : WantS C δ σ G H ((f δ).bind fun a δ1 => match a with
    | .nx => g δ1
    | a => .ok a δ1) De := p
  cases e : f δ with
  | no => rw [e] at p'; exact p'
  | ex _ _ _ => rw [e] at p'; exact p'
  | ok a δ1 =>
    rw [e] at p'
    cases a with
    | nx => exact fun σ' G' H' a => h2 δ1 σ' G' H' a.st De (WantS.step p' a)
    | bk => exact p'
    | ct => exact p'
    | rt v =>
      cases v with
      | dat d => exact p'
      | new o => exact p'
theorem js_exp {te : TE} {fe : Env → IL.R Val} (h : JE (relV C.K) C te fe) : JS C (tDrop te) (fun δ => (fe δ).bind fun _ δ1 => .ok .nx δ1) := fun δ σ G H S De p =>
  h δ σ G H S _ (wantS_bind p fun a δ1 v G1 H1 a1 r p1 => p1 σ G1 H1 (Aft.refl a1.st))
theorem js_if {tt : TT} {t u : TS} {ft : Env → IL.R Bool} {f g : Env → IL.R Fl} (hc : JE (relE Bool) C tt ft) (h1 : JS C t f) (h2 : JS C u g) : JS C (tIfS tt t u) (fun δ => (ft δ).bind fun k δ1 => if k = true then f δ1 else g δ1) := fun δ σ G H S De p =>
  hc δ σ G H S _ (wantS_bind (rel' := relE Bool) p fun k δ1 k' G1 H1 a e p1 => by
    have e' : k' = k := e
    subst e'
    cases k' with
    | true =>
      simp only [if_true] at p1 ⊢
      exact h1 δ1 σ G1 H1 a.st De p1
    | false =>
      simp only [Bool.false_eq_true, if_false] at p1 ⊢
      exact h2 δ1 σ G1 H1 a.st De p1)
theorem js_retN : JS C tRetN (fun δ => .ok (.rt (.dat .none)) δ) := fun δ σ G H S De p => p .non σ G H (Aft.refl S) .non
/-- what is returned -/
theorem js_ret {te : TE} {fe : Env → IL.R Val} (h : JE (relV C.K) C te fe) : JS C (tRet te) (fun δ => (fe δ).bind fun v δ1 => IL.retV C.kp v δ1) := fun δ σ G H S De p => by
  refine h δ σ G H S De.rt ?_
  have p' : WantS C δ σ G H ((fe δ).bind fun v δ1 => IL.retV C.kp v δ1) De := p
  cases e : fe δ with
  | no => rw [e] at p'; exact p'
  | ex _ _ _ => rw [e] at p'; exact fun d G' H' b r => p' d σ G' H' b r
  | ok a δ1 =>
    rw [e] at p'
    simp only [IL.bind_ok] at p'
    intro v G1 H1 a1 r
    cases a with
    | dat d => exact p' v σ G1 H1 a1 r
    | new o =>
      obtain ⟨l, ho, rfl, h0, h1, h2, h3, h4⟩ := r
      exact p' l ho σ G1 H1 a1 (.inr h0) (fun i _ o => h3 ⟨i, o⟩) h1 h2 h4
    | own i =>
      have r' : σ[i]? = some (some v) := r
      simp only [IL.retV] at p'
      cases e' : δ1[i]? with
      | none => rw [e'] at p'; exact p'.elim
      | some s =>
        rw [e'] at p'
        cases s with
        | un => exact p'.elim
        | xc _ _ => exact p'.elim
        | im d =>
          obtain ⟨u, q1, q2⟩ := a1.st.env i _ e'
          rw [r'] at q1
          cases q1
          exact p' v σ G1 H1 a1 q2
        | ow o =>
          obtain ⟨l, ho, q1, q2, q3, q4⟩ := a1.st.env i _ e'
          rw [r'] at q1
          cases q1
          by_cases hk : C.kp ≤ i
          · simp only [if_pos hk] at p'
            have oi : OwnAt δ1 σ i l := ⟨⟨_, e'⟩, r'⟩
            exact p' l ho σ G1 H1 a1 (Loc.back a1 (.inl ⟨i, hk, oi⟩)) (fun j hj oj => by have := a1.st.dis i j l oi oj; omega) q2 q3 q4
          · simp only [if_neg hk] at p'
            exact p'.elim
open IL (setV setIR)
theorem js_set {i : Nat} {te : TE} {fe : Env → IL.R Val} (h : JE (relV C.K) C te fe) : JS C (tAsg te (gName i)) (fun δ => (fe δ).bind fun v δ1 => setV C.kp i v δ1) := fun δ σ G H S De p => by
  refine h δ σ G H S _ ?_
  have p' : WantS C δ σ G H ((fe δ).bind fun v δ1 => setV C.kp i v δ1) De := p
  cases e : fe δ with
  | no => rw [e] at p'; exact p'
  | ex _ _ _ => rw [e] at p'; exact fun d G' H' b r => p' d σ G' H' b r
  | ok a δ1 =>
    rw [e] at p'
    simp only [IL.bind_ok] at p'
    cases a with
    | dat d =>
      intro v G1 H1 a1 r
      simp only [IL.setV] at p'
      by_cases hf : IL.freeB C.kp δ1 i = true
      · rw [if_pos hf] at p'
        exact p' _ G1 H1 (a1.trans (aft_put a1.st (free_of rfl hf) r))
      · rw [if_neg hf] at p'
        exact p'.elim
    | new o =>
      intro v G1 H1 a1 r
      simp only [IL.setV] at p'
      by_cases hf : IL.freeB C.kp δ1 i = true
      · rw [if_pos hf] at p'
        obtain ⟨l, ho, rfl, h0, h1, h2, h3, h4⟩ := r
        have z := a1.st.putOwn (i := i) h1 h2 h4 h3
        refine p' _ G1 H1 ⟨z.1, a1.nx, fun x hx => ?_, fun j x hj ox => kp_set (free_of rfl hf) hj (a1.kp j x hj ox), by rw [List.length_set]; exact a1.ln⟩
        rcases z.2 x hx with y | y
        · exact a1.ow x y
        · exact .inr (y ▸ h0)
      · rw [if_neg hf] at p'
        exact p'.elim
    | own j =>
      simp only [IL.setV] at p'
      have key : Want (relD C.K) C δ σ G H (IL.dem C.kp (.own j) δ1) (fun v H1 => De.nx (σ.set i (some v)) H1) := by
        cases ed : IL.dem C.kp (.own j) δ1 with
        | no => rw [ed] at p'; exact p'
        | ex _ _ _ => exact absurd ed dem_noex
        | ok d δ2 =>
          rw [ed] at p'
          simp only [IL.bind_ok] at p'
          intro v G1 H1 a1 r
          by_cases hf : IL.freeB C.kp δ2 i = true
          · rw [if_pos hf] at p'
            exact p' _ G1 H1 (a1.trans (aft_put a1.st (free_of rfl hf) r))
          · rw [if_neg hf] at p'
            exact p'.elim
      exact want_dem key
theorem js_setT {is : List Nat} {g : TG} {te : TE} {fe : Env → IL.R Val} (hg : JG C is g (IL.bindT C.kp (.tup is))) (h : JE (relV C.K) C te fe) : JS C (tAsg te g) (fun δ => (fe δ).bind fun v δ1 => (IL.dem C.kp v δ1).bind fun d δ2 => (IL.optR δ2 (IL.bindT C.kp (.tup is) d δ2)).bind fun δ3 _ => .ok .nx δ3) := fun δ σ G H S De p =>
  h δ σ G H S _ (wantS_demR p fun d δ1 v G1 H1 a1 r p1 => by
    cases hb : IL.bindT C.kp (.tup is) d δ1 with
    | none => rw [hb] at p1; exact p1.elim
    | some δ3 =>
      rw [hb] at p1
      exact hg d δ1 σ G1 H1 v δ3 a1.st r hb _ fun σ' G' H' b _ => p1 σ' G' H' b)
theorem js_setI {i : Nat} {t1 t2 : TE} {f1 f2 : Env → IL.R Val} (h1 : JE (relV C.K) C t1 f1) (h2 : JE (relV C.K) C t2 f2) : JS C (tAsg t2 (gSub (tVar i) t1 rSetL)) (fun δ => (f2 δ).bind fun v δ1 => (IL.dem C.kp v δ1).bind fun d δ2 => match δ2[i]? with
    | some (.ow (.lst _)) => (f1 δ2).bind fun k δ3 => (IL.op1 IL.intD k δ3).bind fun n δ4 => setIR i d n δ4
    | _ => .no) := fun δ σ G H S De p =>
  h2 δ σ G H S _ (wantS_demR p fun d δ1 v G1 H1 a1 r p1 => by
    cases e : δ1[i]? with
    | none => simp only [e] at p1; exact p1.elim
    | some s =>
      cases s with
      | un => simp only [e] at p1; exact p1.elim
      | xc _ _ => simp only [e] at p1; exact p1.elim
      | im d => simp only [e] at p1; exact p1.elim
      | ow o =>
        cases o with
        | dct kvs => simp only [e] at p1; exact p1.elim
        | lst xs0 =>
          simp only [e] at p1
          obtain ⟨l, ho, hu, _⟩ := a1.st.env i _ e
          refine ⟨.ref l, hu, h1 δ1 σ G1 H1 a1.st _ (wantS_bind p1 fun x δ2 w G2 H2 a2 r2 p2 => ?_)⟩
          cases hc : IL.cur δ2 x with
          | none =>
            simp only [IL.op1, hc, Option.bind_none, IL.optR] at p2
            exact p2.elim
          | some dx =>
            cases dx with
            | int n =>
              have p3 : WantS C δ2 σ G2 H2 (setIR i d n δ2) De := by
                simp only [IL.op1, hc, Option.bind_some, IL.intD, IL.optR, IL.bind_ok] at p2
                exact p2
              have ew := (cur_tp a2.st r2 hc).int_of
              subst ew
              unfold IL.setIR at p3
              cases e' : δ2[i]? with
              | none => simp only [e'] at p3; exact p3.elim
              | some s =>
                cases s with
                | un => simp only [e'] at p3; exact p3.elim
                | xc _ _ => simp only [e'] at p3; exact p3.elim
                | im d => simp only [e'] at p3; exact p3.elim
                | ow o =>
                  cases o with
                  | dct kvs => simp only [e'] at p3; exact p3.elim
                  | lst xs =>
                    simp only [e'] at p3
                    obtain ⟨l', ho, q1, q2, q3, vs, rfl, q5⟩ := a2.st.env i _ e'
                    rw [hu] at q1
                    cases q1
                    cases hj : ixN xs.length n with
                    | none => simp only [hj] at p3; exact p3.elim
                    | some j =>
                      simp only [hj] at p3
                      refine ⟨l, vs, n, j, rfl, rfl, q3, by rw [DpAll.length q5]; exact hj, ?_⟩
                      exact p3 σ G2 _ (aft_mut a2.st ⟨⟨_, e'⟩, hu⟩ ⟨_, rfl, DpAll.set j (Dp.ex a2.nx.gg _ _ r) q5⟩)
            | _ =>
              simp only [IL.op1, hc, Option.bind_some, IL.intD, IL.optR, IL.bind_no] at p2
              exact p2.elim)
end
end J
end
section
set_option Elab.async false
set_option linter.all false
set_option maxRecDepth 100000
set_option maxHeartbeats 1000000
/-! J7: loops; calls. -/
namespace J
open PySem L2 PyProof.Rows
open IL (D Ow Slot Val CR RV Fl Bop Cop Tg wipeE ownIx putBack argSlot)
section
variable {C : Ctx} {δ δ' δ1 δ2 : Env} {σ σ' σ1 : St} {G H G' H' G1 H1 G2 H2 : Hp}
theorem js_for {wi : TI} {g : TG} {tb : TS} {tg : Tg} {is : List Nat} {fi : Env → IL.R (List D)} {fb : Env → IL.R Fl} (hi : JE (relI C.K) C wi fi) (hg : JG C is g (IL.bindT C.kp tg)) (hb : JS C tb fb) :
    JS C (tFor wi g tb) (fun δ => (fi δ).bind fun ds δ1 => IL.forGo C.kp tg fb ds δ1) := fun δ σ G H S De p =>
  hi δ σ G H S _ (wantS_bind p fun ds δ1 J G1 H1 a hw p1 => by
    refine ⟨fun i m σ' H' => m = ds.length - i ∧ i ≤ ds.length ∧ ∃ δ' G', Aft C δ1 σ G1 H1 δ' σ' G' H' ∧ WantS C δ1 σ G1 H1 (IL.forGo C.kp tg fb (ds.drop i) δ') De, ⟨_, rfl, Nat.zero_le _, δ1, G1, Aft.refl a.st, p1⟩, ?_⟩
    rintro i m σ' H' ⟨rfl, hi, δ', G', b, hI⟩
    have wk := hw i G' H' b.nx.gg b.st.gh
    rcases Nat.lt_or_ge i ds.length with hlt | hge
    · obtain ⟨w1, w2⟩ := wk.1 hlt
      refine .inr ⟨w1, fun σ2 H2 => ∃ δ2 G2, Aft C δ1 σ G1 H1 δ2 σ2 G2 H2 ∧ WantS C δ1 σ G1 H1 (IL.forGo C.kp tg fb (ds.drop (i + 1)) δ2) De, fun σ2 H2 ⟨δ2, G2, c, q⟩ => ⟨ds.length - (i + 1), by omega, rfl, hlt, δ2, G2, c, q⟩, fun x H2 y => ?_⟩
      obtain ⟨G2, d, pu, e, hx⟩ := w2 x H2 y
      have c := b.trans (pu.aft b.st)
      have hdr : ds.drop i = d :: ds.drop (i + 1) := by
        rw [List.drop_eq_getElem_cons hlt]
        congr 1
        rw [List.getElem?_eq_getElem hlt] at e
        exact Option.some.inj e
      rw [hdr] at hI
      simp only [IL.forGo] at hI
      cases hbt : IL.bindT C.kp tg d δ' with
      | none => simp only [hbt] at hI; exact hI.elim
      | some δ3 =>
        simp only [hbt] at hI
        refine hg d δ' σ' G2 H2 x δ3 c.st hx hbt _ fun σ3 G3 H3 f _ => hb δ3 σ3 G3 H3 f.st _ ?_
        cases ef : fb δ3 with
        | no => rw [ef] at hI; exact hI.elim
        | ex _ _ _ => rw [ef] at hI; exact fun d σ4 G4 H4 g4 r => hI d σ4 G4 H4 ((c.trans f).trans g4) r
        | ok fl δ4 =>
          rw [ef] at hI
          simp only [IL.bind_ok] at hI
          cases fl with
          | nx => exact fun σ4 G4 H4 g4 => ⟨δ4, G4, (c.trans f).trans g4, hI⟩
          | ct => exact fun σ4 G4 H4 g4 => ⟨δ4, G4, (c.trans f).trans g4, hI⟩
          | bk => exact fun σ4 G4 H4 g4 => hI σ4 G4 H4 ((c.trans f).trans g4)
          | rt v =>
            cases v with
            | dat d => exact fun v σ4 G4 H4 g4 r => hI v σ4 G4 H4 ((c.trans f).trans g4) r
            | new o => exact fun l ho σ4 G4 H4 g4 lc => hI l ho σ4 G4 H4 ((c.trans f).trans g4) (Loc.back (c.trans f) lc)
    · have e : i = ds.length := by omega
      subst e
      rw [List.drop_length] at hI
      exact .inl ⟨wk.2 rfl, hI σ' G' H' b⟩)
theorem js_while {tt : TT} {tb : TS} {ft : Env → IL.R Bool} {fb : Env → IL.R Fl} (n : Nat) (ht : JE (relE Bool) C tt ft) (hb : JS C tb fb) : JS C (tWhile tt tb) (fun δ => IL.whGo ft fb n δ) := fun δ σ G H S De p => by
  refine ⟨fun m σ' H' => ∃ δ' G', Aft C δ σ G H δ' σ' G' H' ∧ WantS C δ σ G H (IL.whGo ft fb m δ') De, ⟨n, δ, G, Aft.refl S, p⟩, ?_⟩
  rintro m σ' H' ⟨δ', G', a, hI⟩
  cases m with
  | zero => exact hI.elim
  | succ m =>
    simp only [IL.whGo] at hI
    refine ht δ' σ' G' H' a.st _ ?_
    cases et : ft δ' with
    | no => rw [et] at hI; exact hI.elim
    | ex _ _ _ => rw [et] at hI; exact fun d G3 H3 c r => hI d σ' G3 H3 (a.trans c) r
    | ok k δ3 =>
      rw [et] at hI
      simp only [IL.bind_ok] at hI
      intro k' G3 H3 c ek
      have ek' : k' = k := ek
      subst ek'
      cases k' with
      | false =>
        simp only [Bool.false_eq_true, if_false] at hI ⊢
        exact hI σ' G3 H3 (a.trans c)
      | true =>
        simp only [if_true] at hI ⊢
        refine ⟨fun σ4 H4 => ∃ m', m' < m + 1 ∧ ∃ δ4 G4, Aft C δ σ G H δ4 σ4 G4 H4 ∧ WantS C δ σ G H (IL.whGo ft fb m' δ4) De, fun σ4 H4 ⟨m', hm, q⟩ => ⟨m', hm, q⟩, ?_⟩
        refine hb δ3 σ' G3 H3 c.st _ ?_
        cases ef : fb δ3 with
        | no => rw [ef] at hI; exact hI.elim
        | ex _ _ _ => rw [ef] at hI; exact fun d σ4 G4 H4 g4 r => hI d σ4 G4 H4 ((a.trans c).trans g4) r
        | ok fl δ4 =>
          rw [ef] at hI
          simp only [IL.bind_ok] at hI
          cases fl with
          | nx => exact fun σ4 G4 H4 g4 => ⟨m, Nat.lt_succ_self m, δ4, G4, (a.trans c).trans g4, hI⟩
          | ct => exact fun σ4 G4 H4 g4 => ⟨m, Nat.lt_succ_self m, δ4, G4, (a.trans c).trans g4, hI⟩
          | bk => exact fun σ4 G4 H4 g4 => hI σ4 G4 H4 ((a.trans c).trans g4)
          | rt v =>
            cases v with
            | dat d => exact fun v σ4 G4 H4 g4 r => hI v σ4 G4 H4 ((a.trans c).trans g4) r
            | new o => exact fun l ho σ4 G4 H4 g4 lc => hI l ho σ4 G4 H4 ((a.trans c).trans g4) (Loc.back (a.trans c) lc)
/-! ### calls -/
abbrev AftF (K : KX) (vs : List V) (δ : Env) (G H : Hp) (δ' : Env) (G' H' : Hp) : Prop := Aft ⟨K, vs.length, fun _ => .none, fun _ => .non, fun _ _ _ _ => False⟩ δ (vs.map some) G H δ' (vs.map some) G' H'
/-- a def's promise: it does what F says -/
def spF (K : KX) (xv : Nat → Value) (n : Nat) (F : Env → CR) : Sp := fun vs H Q E => vs.length = n ∧ ∃ G δ, Stt K δ (vs.map some) G H ∧ match F δ with
  | .ret (.dat d) δ' => ∀ v G' H', AftF K vs δ G H δ' G' H' → Dp K G' v d → Q v H'
  | .ret (.new o) δ' => ∀ p ho G' H', AftF K vs δ G H δ' G' H' → H p = none → G' p = none → H' p = some ho → OwR K G' o ho → ¬ Own δ' (vs.map some) p → Q (.ref p) H'
  | .ex c fs δ' => ∀ d G' H', AftF K vs δ G H δ' G' H' → ExR K G' d fs → E (xv c) d H'
  | .no => False
theorem pb_other {j : Nat} : ∀ {as : List Val} {ss : Env} {δ : Env}, j ∉ ownIx as → (putBack δ as ss)[j]? = δ[j]?
  | [], _, _, _ => by simp [IL.putBack]
  | .dat _ :: as, [], _, _ => by simp [IL.putBack]
  | .new _ :: as, [], _, _ => by simp [IL.putBack]
  | .own _ :: as, [], _, _ => by simp [IL.putBack]
  | .dat _ :: as, s :: ss, δ, h => by
    simp only [IL.putBack]
    exact pb_other (by simpa [IL.ownIx] using h)
  | .new _ :: as, s :: ss, δ, h => by
    simp only [IL.putBack]
    exact pb_other (by simpa [IL.ownIx] using h)
  | .own i :: as, s :: ss, δ, h => by
    have h' : j ≠ i ∧ j ∉ ownIx as := by simpa [IL.ownIx] using h
    simp only [IL.putBack]
    rw [pb_other h'.2]
    split
    · rw [List.getElem?_set_ne (Ne.symm h'.1)]
    · rfl
theorem pb_len : ∀ {as : List Val} {ss : Env} {δ : Env}, (putBack δ as ss).length = δ.length
  | [], _, _ => by simp [IL.putBack]
  | .dat _ :: as, [], _ => by simp [IL.putBack]
  | .new _ :: as, [], _ => by simp [IL.putBack]
  | .own _ :: as, [], _ => by simp [IL.putBack]
  | .dat _ :: as, s :: ss, δ => by
    simp only [IL.putBack]
    exact pb_len
  | .new _ :: as, s :: ss, δ => by
    simp only [IL.putBack]
    exact pb_len
  | .own i :: as, s :: ss, δ => by
    simp only [IL.putBack]
    rw [pb_len]
    split
    · rw [List.length_set]
    · rfl
theorem ownIx_mem {j : Nat} : ∀ {as : List Val}, j ∈ ownIx as → ∃ k : Nat, as[k]? = some (Val.own j)
  | .dat _ :: as, h => by
    obtain ⟨k, e⟩ := ownIx_mem (as := as) (by simpa [IL.ownIx] using h)
    exact ⟨k + 1, by simpa using e⟩
  | .new _ :: as, h => by
    obtain ⟨k, e⟩ := ownIx_mem (as := as) (by simpa [IL.ownIx] using h)
    exact ⟨k + 1, by simpa using e⟩
  | .own i :: as, h => by
    rcases List.mem_cons.mp (show j ∈ i :: ownIx as from h) with e | e
    · exact ⟨0, by simp [e]⟩
    · obtain ⟨k, e⟩ := ownIx_mem e
      exact ⟨k + 1, by simpa using e⟩
theorem mem_ownIx {j : Nat} : ∀ {as : List Val} {k : Nat}, as[k]? = some (.own j) → j ∈ ownIx as
  | [], _, h => by simp at h
  | .dat _ :: as, 0, h => by simp at h
  | .new _ :: as, 0, h => by simp at h
  | .own i :: as, 0, h => by
    simp at h
    simp [IL.ownIx, h]
  | .dat _ :: as, k + 1, h => by
    simp only [IL.ownIx]
    exact mem_ownIx (k := k) (by simpa using h)
  | .new _ :: as, k + 1, h => by
    simp only [IL.ownIx]
    exact mem_ownIx (k := k) (by simpa using h)
  | .own i :: as, k + 1, h => by
    simp only [IL.ownIx]
    exact List.mem_cons_of_mem _ (mem_ownIx (k := k) (by simpa using h))
/-- what an owned slot is behind -/
theorem pb_own {j : Nat} {s : Slot} {o : Ow} : ∀ {as : List Val} {ss : Env} {δ : Env} {k : Nat}, (ownIx as).Nodup → as[k]? = some (.own j) → ss[k]? = some s → δ[j]? = some (.ow o) → (putBack δ as ss)[j]? = some s
  | [], _, _, _, _, h, _, _ => by simp at h
  | .dat _ :: as, [], _, _, _, _, h, _ => by simp at h
  | .new _ :: as, [], _, _, _, _, h, _ => by simp at h
  | .own _ :: as, [], _, _, _, _, h, _ => by simp at h
  | .dat _ :: as, s' :: ss, δ, 0, _, h, _, _ => by simp at h
  | .new _ :: as, s' :: ss, δ, 0, _, h, _, _ => by simp at h
  | .dat _ :: as, s' :: ss, δ, k + 1, hn, h, h2, hj => by
    simp only [IL.putBack]
    exact pb_own (by simpa [IL.ownIx] using hn) (by simpa using h) (by simpa using h2) hj
  | .new _ :: as, s' :: ss, δ, k + 1, hn, h, h2, hj => by
    simp only [IL.putBack]
    exact pb_own (by simpa [IL.ownIx] using hn) (by simpa using h) (by simpa using h2) hj
  | .own i :: as, s' :: ss, δ, 0, hn, h, h2, hj => by
    simp at h h2
    subst h h2
    have hn' : i ∉ ownIx as := (List.nodup_cons.mp (show (i :: ownIx as).Nodup from hn)).1
    simp only [IL.putBack, hj]
    rw [pb_other hn', List.getElem?_set_self (List.getElem?_eq_some_iff.mp hj).1]
  | .own i :: as, s' :: ss, δ, k + 1, hn, h, h2, hj => by
    have hn' := List.nodup_cons.mp (show (i :: ownIx as).Nodup from hn)
    have hij : i ≠ j := fun e => hn'.1 (e ▸ mem_ownIx (k := k) (by simpa using h))
    simp only [IL.putBack]
    refine pb_own (o := o) (k := k) hn'.2 (by simpa using h) (by simpa using h2) ?_
    split
    · rw [List.getElem?_set_ne hij]
      exact hj
    · exact hj
/-- a slot that is not owned stays -/
theorem pb_keep {j : Nat} : ∀ {as : List Val} {ss : Env} {δ : Env}, (∀ o, δ[j]? ≠ some (.ow o)) → (putBack δ as ss)[j]? = δ[j]?
  | [], _, _, _ => by simp [IL.putBack]
  | .dat _ :: as, [], _, _ => by simp [IL.putBack]
  | .new _ :: as, [], _, _ => by simp [IL.putBack]
  | .own _ :: as, [], _, _ => by simp [IL.putBack]
  | .dat _ :: as, s :: ss, δ, h => by
    simp only [IL.putBack]
    exact pb_keep h
  | .new _ :: as, s :: ss, δ, h => by
    simp only [IL.putBack]
    exact pb_keep h
  | .own i :: as, s :: ss, δ, h => by
    simp only [IL.putBack]
    split
    · rename_i o e
      have hij : i ≠ j := fun z => h o (z ▸ e)
      rw [pb_keep (fun o' z => h o' (by rw [List.getElem?_set_ne hij] at z; exact z)), List.getElem?_set_ne hij]
    · exact pb_keep h
theorem own_uniq {i : Nat} : ∀ {as : List Val} {a b : Nat}, (ownIx as).Nodup → as[a]? = some (.own i) → as[b]? = some (.own i) → a = b
  | [], _, _, _, h, _ => by simp at h
  | x :: as, 0, 0, _, _, _ => rfl
  | x :: as, 0, b + 1, hn, h1, h2 => by
    exfalso
    simp at h1
    subst h1
    exact (List.nodup_cons.mp (show (i :: ownIx as).Nodup from hn)).1 (mem_ownIx (k := b) (by simpa using h2))
  | x :: as, a + 1, 0, hn, h1, h2 => by
    exfalso
    simp at h2
    subst h2
    exact (List.nodup_cons.mp (show (i :: ownIx as).Nodup from hn)).1 (mem_ownIx (k := a) (by simpa using h1))
  | x :: as, a + 1, b + 1, hn, h1, h2 => by
    have hn' : (ownIx as).Nodup := by
      cases x with
      | dat _ => exact hn
      | new _ => exact hn
      | own _ => exact (List.nodup_cons.mp hn).2
    exact congrArg (· + 1) (own_uniq hn' (by simpa using h1) (by simpa using h2))
theorem new_uniq {K : PySem.W.Frag} {H0 : Hp} {v : V} {o o' : Ow} : ∀ {vs : List V} {as : List Val} {a b : Nat}, ValsR K σ δ H0 G H vs as → as[a]? = some (.new o) → as[b]? = some (.new o') → vs[a]? = some v → vs[b]? = some v → a = b
  | [], [], _, _, _, h, _, _, _ => by simp at h
  | [], _ :: _, _, _, hv, _, _, _, _ => hv.elim
  | _ :: _, [], _, _, hv, _, _, _, _ => hv.elim
  | u :: vs, x :: as, 0, 0, _, _, _, _, _ => rfl
  | u :: vs, x :: as, 0, b + 1, hv, h1, h2, h3, h4 => by
    exfalso
    simp at h1 h3
    subst h1 h3
    exact hv.2.2 o rfl b o' (by simpa using h2) (by simpa using h4)
  | u :: vs, x :: as, a + 1, 0, hv, h1, h2, h3, h4 => by
    exfalso
    simp at h2 h4
    subst h2 h4
    exact hv.2.2 o' rfl a o (by simpa using h1) (by simpa using h3)
  | u :: vs, x :: as, a + 1, b + 1, hv, h1, h2, h3, h4 => congrArg (· + 1) (new_uniq hv.2.1 (by simpa using h1) (by simpa using h2) (by simpa using h3) (by simpa using h4))
/-- the callee's state -/
theorem stt_args {H0 : Hp} {as : List Val} {vs : List V} (S : Stt C.K δ σ G H) (hv : ValsR C.K σ δ H0 G H vs as) (hn : (ownIx as).Nodup) :
    Stt C.K (as.map (argSlot δ)) (vs.map some) G H ∧ ∀ k l, OwnAt (as.map (argSlot δ)) (vs.map some) k l → (∃ i, as[k]? = some (.own i) ∧ OwnAt δ σ i l) ∨ (∃ o, as[k]? = some (.new o) ∧ vs[k]? = some (.ref l) ∧ ¬ Own δ σ l ∧ H0 l = none) := by
  have hl : vs.length = as.length := ValsR.len hv
  have ow : ∀ k l, OwnAt (as.map (argSlot δ)) (vs.map some) k l → (∃ i, as[k]? = some (.own i) ∧ OwnAt δ σ i l) ∨ (∃ o, as[k]? = some (.new o) ∧ vs[k]? = some (.ref l) ∧ ¬ Own δ σ l ∧ H0 l = none) := fun k l ⟨⟨o, e⟩, e2⟩ => by
    rw [List.getElem?_map] at e e2
    cases ea : as[k]? with
    | none => rw [ea] at e; cases e
    | some a =>
      rw [ea] at e
      obtain ⟨v, q2, r⟩ := ValsR.get hv ea
      rw [q2] at e2
      have e3 : v = .ref l := by simpa using e2
      subst e3
      cases a with
      | dat d => cases e
      | own i =>
        have e4 : IL.get δ i = .ow o := by
          exact Option.some.inj e
        have e5 : δ[i]? = some (.ow o) := by
          unfold IL.get at e4
          rw [List.getD_eq_getElem?_getD] at e4
          cases h : δ[i]? with
          | none => rw [h] at e4; cases e4
          | some s => rw [h] at e4; cases e4; rfl
        exact .inl ⟨i, rfl, ⟨o, e5⟩, r⟩
      | new o' =>
        obtain ⟨l', ho, z1, z2, z3, z4, z5, z6⟩ := r
        cases z1
        exact .inr ⟨o', rfl, q2, z5, z2⟩
  refine ⟨⟨S.gh, fun k s e => ?_, fun a b l h1 h2 => ?_, by rw [List.length_map, List.length_map, hl], S.xd⟩, ow⟩
  · rw [List.getElem?_map] at e ⊢
    cases ea : as[k]? with
    | none => rw [ea] at e; cases e
    | some a =>
      rw [ea] at e
      obtain ⟨v, q2, r⟩ := ValsR.get hv ea
      rw [q2]
      have es : argSlot δ a = s := Option.some.inj e
      subst es
      cases a with
      | dat d => exact ⟨v, rfl, r⟩
      | own i =>
        have r' : σ[i]? = some (some v) := r
        show SlotR C.K G H (IL.get δ i) (some (some v))
        unfold IL.get
        rw [List.getD_eq_getElem?_getD]
        cases h : δ[i]? with
        | none => trivial
        | some s =>
          have q := S.env i s h
          rw [r'] at q
          cases s with
          | un => trivial
          | im d => exact q
          | ow o => exact q
          | xc _ _ => exact q
      | new o =>
        obtain ⟨l', ho, z1, z2, z3, z4, z5, z6⟩ := r
        exact ⟨l', ho, by rw [z1]; rfl, z3, z4, z6⟩
  · rcases ow a l h1 with ⟨i, q1, o1⟩ | ⟨o1, q1, v1, n1, z1⟩
    · rcases ow b l h2 with ⟨j, q2, o2⟩ | ⟨o2, q2, v2, n2, z2⟩
      · have e := S.dis i j l o1 o2
        subst e
        exact own_uniq hn q1 q2
      · exact absurd ⟨i, o1⟩ n2
    · rcases ow b l h2 with ⟨j, q2, o2⟩ | ⟨o2, q2, v2, n2, z2⟩
      · exact absurd ⟨j, o2⟩ n1
      · exact new_uniq hv q1 q2 v1 v2
/-- the caller's state behind the call -/
theorem aft_call {as : List Val} {vs : List V} {δa' : Env} (a0 : Aft C δ σ G H δ1 σ G1 H1) (hv : ValsR C.K σ δ1 H G1 H1 vs as) (hn : (ownIx as).Nodup) (a : AftF C.K vs (as.map (argSlot δ1)) G1 H1 δa' G' H') :
    Aft C δ σ G H (putBack δ1 as δa') σ G' H' ∧ ∀ l, Own (putBack δ1 as δa') σ l → Own δ1 σ l := by
  have S := a0.st
  obtain ⟨Sa, ow⟩ := stt_args S hv hn
  have hl : vs.length = as.length := ValsR.len hv
  have hlen : δa'.length = as.length := by rw [a.ln, List.length_map]
  -- an owned argument, behind
  have arg : ∀ k i o', as[k]? = some (.own i) → δ1[i]? = some (.ow o') → ∃ l o, OwnAt δ1 σ i l ∧ δa'[k]? = some (.ow o) ∧ (putBack δ1 as δa')[i]? = some (.ow o) ∧ OwnAt δa' (vs.map some) k l := fun k i o' q e' => by
    obtain ⟨v, q2, r⟩ := ValsR.get hv q
    obtain ⟨l, x, e1, e2, e3, e4⟩ := S.env i _ e'
    have r' : σ[i]? = some (some v) := r
    rw [e1] at r'
    have ev : v = .ref l := (Option.some.inj (Option.some.inj r')).symm
    subst ev
    have hk : k < as.length := (List.getElem?_eq_some_iff.mp q).1
    have oa : OwnAt (as.map (argSlot δ1)) (vs.map some) k l := by
      refine ⟨⟨o', ?_⟩, by rw [List.getElem?_map, q2]; rfl⟩
      rw [List.getElem?_map, q]
      show some (IL.get δ1 i) = _
      unfold IL.get
      rw [List.getD_eq_getElem?_getD, e']
      rfl
    have ka := a.kp k l (by show k < vs.length; omega) oa
    obtain ⟨⟨o, e5⟩, e6⟩ := id ka
    exact ⟨l, o, ⟨⟨o', e'⟩, e1⟩, e5, pb_own hn q e5 e', ka⟩
  -- what is owned behind was owned
  have own2 : ∀ j l, OwnAt (putBack δ1 as δa') σ j l → OwnAt δ1 σ j l := fun j l ⟨⟨o, e⟩, e2⟩ => by
    by_cases ho : ∃ o', δ1[j]? = some (.ow o')
    · exact ⟨ho, e2⟩
    · rw [pb_keep (fun o' z => ho ⟨o', z⟩)] at e
      exact absurd ⟨o, e⟩ ho
  have nown : ∀ j l, j ∉ ownIx as → OwnAt δ1 σ j l → ¬ Own (as.map (argSlot δ1)) (vs.map some) l := fun j l hj h ⟨k, h2⟩ => by
    rcases ow k l h2 with ⟨i, q, h3⟩ | ⟨o, _, _, n, _⟩
    · have e := S.dis j i l h h3
      subst e
      exact hj (mem_ownIx q)
    · exact n ⟨j, h⟩
  refine ⟨⟨⟨a.st.gh, fun i s e => ?_, fun i j l h1 h2 => S.dis i j l (own2 _ _ h1) (own2 _ _ h2), by rw [pb_len]; exact S.len, S.xd.ex a.nx.gg⟩, a0.nx.trans a.nx fun l ⟨k, h⟩ => ?_, fun l ⟨j, h⟩ => a0.ow l ⟨j, own2 j l h⟩, fun i l hi h => ?_, pb_len.trans a0.ln⟩, fun l ⟨j, h⟩ => ⟨j, own2 j l h⟩⟩
  · by_cases ho : ∃ o', δ1[i]? = some (.ow o')
    · obtain ⟨o', e'⟩ := ho
      by_cases hj : i ∈ ownIx as
      · obtain ⟨k, q⟩ := ownIx_mem hj
        obtain ⟨l, o, o1, o3, o4, o5⟩ := arg k i o' q e'
        rw [o4] at e
        cases e
        obtain ⟨l', x, z1, z2, z3, z4⟩ := a.st.env k _ o3
        have e6 := o5.2
        rw [e6] at z1
        cases z1
        exact ⟨l, x, o1.2, z2, z3, z4⟩
      · rw [pb_other hj, e'] at e
        cases e
        obtain ⟨l, x, z1, z2, z3, z4⟩ := S.env i _ e'
        have n := nown i l hj ⟨⟨o', e'⟩, z1⟩
        exact ⟨l, x, z1, (a.nx.fr l x n z3).trans z2, a.nx.hh l x n z3, z4.ex a.nx.gg⟩
    · rw [pb_keep (fun o' z => ho ⟨o', z⟩)] at e
      have z := S.env i s e
      cases s with
      | un => trivial
      | im d =>
        obtain ⟨u, z1, z2⟩ := z
        exact ⟨u, z1, Dp.ex a.nx.gg _ _ z2⟩
      | ow o => exact absurd ⟨o, e⟩ ho
      | xc _ _ => exact z
  · rcases ow k l h with ⟨i, _, h2⟩ | ⟨o, _, _, _, z⟩
    · exact a0.ow l ⟨i, h2⟩
    · exact .inr z
  · have h1 := a0.kp i l hi h
    obtain ⟨⟨o', e'⟩, e2⟩ := h1
    by_cases hj : i ∈ ownIx as
    · obtain ⟨k, q⟩ := ownIx_mem hj
      obtain ⟨l', o, o1, o3, o4, o5⟩ := arg k i o' q e'
      exact ⟨⟨o, o4⟩, e2⟩
    · exact ⟨⟨o', by rw [pb_other hj]; exact e'⟩, e2⟩
theorem je_call {n : Nat} {F : Env → CR} {ta : TA} {fa : Env → IL.R (List Val)} (hF : ∀ δ, F δ ≠ .no → δ.length = n) (ha : JE (relVs C.K) C ta fa) :
    JE (relV C.K) C (tCallS (spF C.K C.xv n F) C.es ta) (fun δ => (fa δ).bind fun as δ1 => if (ownIx as).Nodup then IL.callR (F (as.map (argSlot δ1))) as δ1 else .no) := fun δ σ G H S Q w => by
  have w' : Want (relV C.K) C δ σ G H ((fa δ).bind fun as δ1 => if (ownIx as).Nodup then IL.callR (F (as.map (argSlot δ1))) as δ1 else .no) Q := w
  refine ha δ σ G H S _ ?_
  cases e : fa δ with
  | no => rw [e] at w'; exact w'
  | ex _ _ _ => rw [e] at w'; exact w'
  | ok as δ1 =>
    rw [e] at w'
    simp only [IL.bind_ok] at w'
    by_cases hn : (ownIx as).Nodup
    case neg =>
      rw [if_neg hn] at w'
      exact w'.elim
    rw [if_pos hn] at w'
    intro vs G1 H1 a1 r1
    have Sa := stt_args a1.st r1 hn
    have hl : vs.length = as.length := ValsR.len r1
    show spF C.K C.xv n F vs H1 Q (C.es σ)
    cases ef : F (as.map (argSlot δ1)) with
    | no => rw [ef] at w'; exact w'.elim
    | ex c fs ss =>
      rw [ef] at w'
      have hlen := hF (as.map (argSlot δ1)) (by rw [ef]; intro z; cases z)
      rw [List.length_map] at hlen
      refine ⟨by omega, G1, _, Sa.1, ?_⟩
      rw [ef]
      exact fun d G' H' b r => w' d G' H' (aft_call a1 r1 hn b).1 r
    | ret v ss =>
      rw [ef] at w'
      have hlen := hF (as.map (argSlot δ1)) (by rw [ef]; intro z; cases z)
      rw [List.length_map] at hlen
      cases v with
      | dat d =>
        refine ⟨by omega, G1, _, Sa.1, ?_⟩
        rw [ef]
        exact fun v G' H' b r => w' v G' H' (aft_call a1 r1 hn b).1 r
      | new o =>
        refine ⟨by omega, G1, _, Sa.1, ?_⟩
        rw [ef]
        intro p ho G' H' b h0 g0 h1 r nw
        have z := aft_call a1 r1 hn b
        refine w' (.ref p) G' H' z.1 ⟨p, ho, rfl, a1.nx.noneOf h0, g0, h1, fun hp => ?_, r⟩
        obtain ⟨_, x, e'⟩ := a1.st.own (z.2 p hp)
        rw [h0] at e'; cases e'
end
end J
end
section
set_option Elab.async false
set_option linter.all false
set_option autoImplicit false
set_option maxRecDepth 100000
set_option maxHeartbeats 4000000
/-! X1: the promise of an exception's __init__: super().__init__(a text), then self.f = its argument. -/
namespace XI
open PySem PySem.Spec PyProof.Rows L2 PySem.W PySem.Calls
/-- what is promised: one field -/
def spXi (C : Addr) (f : Str) : Sp := fun vs H Q _ => ∃ (a : Addr) (y : V), vs = [.ref a, y] ∧ H a = some (exo a C none) ∧ ∀ dx, H dx = none → dx ≠ a → Q .non (upd (upd H dx (exd dx [(f, y)])) a (exo a C (some dx)))
def bodyXi (txt f pn : Str) (p0 p1 p2 p3 p4 p5 q0 q1 q2 q3 : Pos) (kd : Nat) : List Stmt := [.Expr (.Call (.Attribute (.Call (.Name "super" p0) [] [] p1) "__init__" p2) [.Constant (.str txt) kd p3] [] p4) p5, .Assign [.Attribute (.Name "self" q0) f q1] (.Name pn q2) q3]
/-- what is asked of the class at C and of its __init__ at fI -/
structure Facts (P : Program) (K : Frag) (mg : Str → Option Value) (C fI cc cda : Addr) (f pn : Str) (scope : Scope) : Prop where
  oex : OexC K C
  fld : findIn K (.ref C) f = some none
  kop : nsIn K cStatics "thirdparty.any" = some none
  sup : ks_superIn K C C "__init__" = some (some (.builtin "ValueError.__init__"))
  sub : subIn K (.ref C) (.type "ValueError") = some true
  mro : mroIn K C (.ref C) = some true
  code : ∃ ccl cdd vs ccs file tf, K.lookup cda = some ⟨ccl, cdd, .fields vs, ccs⟩ ∧ vs[2]? = some (.str file tf) ∧ ((P.main.file : Str) == file) = true
  cell : ∃ cl cld csl, K.lookup cc = some ⟨cl, cld, .cell (some (.ref C)), csl⟩
  top : (P.main.scope.names.lookup ("super" : Str)).isSome = false
  mgs : mg "super" = none
  s1 : scope.names.lookup ("super" : Str) = some .globalImplicit
  s2 : scope.names.lookup ("__class__" : Str) = some .free
  s3 : scope.names.lookup ("self" : Str) = some .local
  s4 : scope.names.lookup pn = some .local
  s5 : scope.kind = .function
  s6 : ∀ x ∈ scope.names, x.2 ≠ .cell
  s7 : scope.isCoroutine = false
  s8 : scope.isGenerator = false
  pn1 : pn ≠ "self"
  pn2 : (pn == ("__debug__" : Str)) = false
section
variable {prog : Program} {w : World} {A : Around} {E : Value → Shared → Prop} {h : Heap} {g : Array GenState} {d : Drawn} {t : Nat} {os : OsState}
variable {nm qn : Str} {C N : Addr} {bs bm : List Value} {hdct : Bool} {sn : List Str} {sb : List Value} {ab : Bool} {col : Option Bool} {dd : Option Addr} {k0 k1 k2 k3 k5 : Option Value}
/-- the bound ValueError.__init__, called -/
theorem call_mw {u a t1 : Addr} {xs : List Value} {Q : Value → Shared → Prop} (hbm : PySem.HandSPX.refsVE bm = true)
    (hC : h.get? C = some (excClassObj nm qn C N bs bm hdct sn sb ab col dd k0 k1 k2 k3 k5 "ValueError.__new__")) (ha : h.get? a = some (excObj C t1 none .none)) (hu : h.get? u = some (kxs_mw "ValueError.__init__" a)) (hl : xs.length ≤ sizeLine)
    (hq : ∀ h', (∀ b o, b ≠ a → h.get? b = some o → h'.get? b = some o) → h'.get? a = some (excObj C h.objs.size none .none) → Q .none ⟨h', g, d, t, os⟩) :
    wpAny (model prog w) A (call (.ref u) xs) Q E ⟨h, g, d, t, os⟩ := by
  have VE := _root_.PySem.F.excBase_ValueError
  refine wpAny_call (codeAny_of_tree ?_)
  show wpAny _ A.in1 (callAny (.ref u) ⟨xs, []⟩) _ _ _
  simp only [callAny]
  refine wpAny_bind (wpAny_load hu ?_)
  simp only [kxs_mw, show (Value.type "method-wrapper" == Value.type "method" || Value.type "method-wrapper" == Value.type "builtin_function_or_method" || Value.type "method-wrapper" == Value.type "method-wrapper") = true from by decide, if_true]
  refine KFB.if_so (by decide) ?_
  refine wpAny_bind (check_bound_init VE.toExcCallFacts hC ha rfl ?_)
  refine wpAny_bind (wpAny_pure (wpAny_pure ?_))
  refine ⟨plainId_quiet VE.init.plain _, codeAny_builtin VE.initEntry ?_⟩
  exact exc_init_tree (cls := .ref C) (t0 := t1) (dv := none) (c2 := .none) (c3 := .none) (b4 := .bool false) ha hl fun h' k' e' _ => hq h' k' e'
end
section
variable {P : Program} {w : World} {K : Frag} {mg : Str → Option Value} {base : Heap} {CX : CXT} {k : Nat} {C fI cc cda : Addr} {f pn txt : Str} {scope : Scope} {name qual : Str} {params : Arguments} {dV kV doc pm ct oc : Value} {an od : Option Addr} {osl : Array (Option Value)} {p0 p1 p2 p3 p4 p5 q0 q1 q2 q3 : Pos} {kd : Nat} {fd : FuncData}
/-- how the text's two statements are read -/
structure Form (scope : Scope) (txt f pn : Str) (p0 p1 p2 p3 p4 p5 q0 q1 q2 q3 : Pos) (kd : Nat) : Prop where
  call : ∃ pl : Sem Bool, ∀ env : Env, env.scope = scope → eval (.Call (.Attribute (.Call (.Name "super" p0) [] [] p1) "__init__" p2) [.Constant (.str txt) kd p3] [] p4) env = (do
      let ov ← attributeBase (.Call (.Name "super" p0) [] [] p1) "__init__" env (eval (.Call (.Name "super" p0) [] [] p1) env)
      standAt p2.atName
      let (f, first) ← holding [ov] (getMethod ov "__init__" pl)
      callWith p4 f first (backTo p4 (starEach [.Constant (.str txt) kd p3] env)) [])
  inter : ∀ env : Env, env.scope = scope → interactive env = false
  sw1 : ∀ env : Env, env.scope = scope → swapsWith (.Call (.Attribute (.Call (.Name "super" p0) [] [] p1) "__init__" p2) [.Constant (.str txt) kd p3] [] p4) none p5.line env = pure false
  sw2 : ∀ env : Env, env.scope = scope → swapsWith (.Name pn q2) (some (.Attribute (.Name "self" q0) f q1)) q3.line env = pure false
theorem xi_ok (FM : Form scope txt f pn p0 p1 p2 p3 p4 p5 q0 q1 q2 q3 kd) (F : Facts P K mg C fI cc cda f pn scope) (hfd : fd = ksFn name qual params (bodyXi txt f pn p0 p1 p2 p3 p4 p5 q0 q1 q2 q3 kd) scope dV kV doc pm an (.ref cda) ct cc) (hf : K.lookup fI = some ⟨oc, od, .func fd, osl⟩) (hcd : codeIn K (.ref cda) qual = true)
    (hps : (params.posonlyargs ++ params.args).head?.map (·.arg) = some "self") : FnOk P w K mg base CX (k + 1) fI fd ["self", pn] (spXi C f) := by
  refine ⟨fun vs H Q E ⟨a, y, e, _⟩ => by rw [e]; rfl, fun A outer s H args us vs Q E hr e0 hb rv hs => ?_⟩
  obtain ⟨a, y, rfl, ha, hq⟩ := hs
  obtain ⟨u0, u, rfl, r0, ru⟩ : ∃ u0 u, us = [u0, u] ∧ RelV (.ref a) u0 ∧ RelV y u := by
    cases rv with
    | cons r0 rr =>
      cases rr with
      | cons r1 rr =>
        cases rr
        exact ⟨_, _, rfl, r0, r1⟩
  obtain rfl : u0 = Value.ref a := r0
  have kin : K.In s.heap := e0.mod.kin.keeps fun b q e => (e0.bs b q e).1
  subst hfd
  obtain ⟨ccl, cdd, vs, ccs, file, tf, hcda, hvs, hfile⟩ := F.code
  obtain ⟨cl, cld, csl, hcc⟩ := F.cell
  obtain ⟨t1, hea⟩ := exo_at e0.hok ha
  have lim := e0.mod.nolimit.keeps fun b q e => (e0.bs b q e).1
  obtain ⟨mb, hmb, hbb⟩ := e0.mod.blt
  refine ks_codeAny_call_defAt (body := bodyXi txt f pn p0 p1 p2 p3 p4 p5 q0 q1 q2 q3 kd) hr.depth (kin _ _ hf) rfl lim (codeRec_of kin hcd) rfl hb F.s6 (fun x hx => ?_) (fun h1 hns hk1 => ?_) F.s7 F.s8 F.s5
  · have hx' : x = ((Str.ofString "self", Value.ref a) : Str × Value) ∨ x = (pn, u) := by
      rcases List.mem_cons.mp hx with z | z
      · exact .inl z
      · rcases List.mem_cons.mp z with z | z
        · exact .inr z
        · cases z
    rcases hx' with rfl | rfl
    · exact F.s3
    · exact F.s4
  obtain ⟨env, henv⟩ : ∃ env, env = callEnv (ksFn name qual params (bodyXi txt f pn p0 p1 p2 p3 p4 p5 q0 q1 q2 q3 kd) scope dV kV doc pm an (.ref cda) ct cc) s.heap.objs.size fI := ⟨_, rfl⟩
  rw [← henv]
  have kk : ∀ x, env.kindOf x = scope.names.lookup x := by intro x; rw [henv]; rfl
  have ksc : env.scope = scope := by rw [henv]; rfl
  have kin1 : K.In h1 := kin.keeps hk1
  have hself : (fun x => ((["self", pn] : List Str).zip [Value.ref a, u]).reverse.lookup x) "self" = some (.ref a) := by
    have e : (Str.ofString "self" == pn) = false := by
      cases z : (Str.ofString "self" == pn) with
      | false => rfl
      | true => exact absurd (beq_iff_eq.mp z).symm F.pn1
    show List.lookup (Str.ofString "self") [(pn, u), (Str.ofString "self", Value.ref a)] = _
    rw [List.lookup_cons, e, List.lookup_cons, beq_self_eq_true]
  have harg : (fun x => ((["self", pn] : List Str).zip [Value.ref a, u]).reverse.lookup x) pn = some u := by
    show List.lookup pn [(pn, u), (Str.ofString "self", Value.ref a)] = _
    rw [List.lookup_cons, beq_self_eq_true]
  obtain ⟨ar, har, harn⟩ : ∃ ar, (params.posonlyargs ++ params.args).head? = some ar ∧ ar.arg = "self" := by
    cases z : (params.posonlyargs ++ params.args).head? with
    | none => rw [z] at hps; cases hps
    | some ar =>
      rw [z] at hps
      exact ⟨ar, rfl, Option.some.inj hps⟩
  obtain ⟨pl, hcall⟩ := FM.call
  refine ks_wpAt_execs_cons (ks_wpAt_Expr_any (ks_wpAt_MethodCall ?_ (hcall env ksc)) (FM.inter env ksc) (FM.sw1 env ksc))
  refine ks_wpAt_super_base (f := fI) (cc := cda) (by rw [kk]; exact F.s1) (by rw [kk]; exact F.s2) (by decide) (by rw [henv]; rfl) (kin1 _ _ hf) rfl har (by rw [henv]; rfl) (kin1 _ _ hcda) rfl hvs hfile F.top ?_
  have up0 : ∀ b o, base.get? b = some o → h1.get? b = some o := fun b o e => hk1 b o (e0.bs b o e).1
  refine ks_loadName_global (by rw [ksc]; exact F.s5) (by rw [kk]; exact F.s1) (loadGlobal_builtin (mg := mg) (mb := mb) (by rw [henv]; exact e0.mod.glob.keeps up0) F.mgs (by rw [henv]; exact hmb.keeps up0) ((hbb _ (by decide +kernel)).trans PyProof.Rows.Boot.«super») ⟨rfl, ?_⟩)
  refine wpAny_loadName_free (by rw [ksc]; exact F.s5) (by rw [kk]; exact F.s2) (c := cc) (by rw [henv]; rfl) ⟨_, kin1 _ _ hcc, rfl⟩ ?_
  rw [harn]
  refine wpAny_loadName_local (by rw [ksc]; exact F.s5) (by rw [kk]; exact F.s3) (by rw [henv]; exact hns) hself ?_
  obtain ⟨nm, qn, N, bs, bm, sn, sb, ab, col, dd, k0, k1, k2, k3, k5, hC, hbm⟩ := F.oex.cls
  have hC1 := kin1 _ _ hC
  have hea1 := hk1 _ _ hea
  have hcl : clsIn K C = some { name := nm, bases := bs, mro := .ref C :: bm, ns := N, qualname := qn, hasDict := true, slotNames := sn, subclasses := sb, abstract := ab, collection := col, hasDel := false } := by unfold clsIn; rw [hC] <;> rfl
  refine ks_wpAny_isType_cls hC1 rfl ⟨rfl, ?_⟩
  refine ks_wpAny_call_super hC1 rfl hea1 rfl (fun c e => by cases e) (looks_mroIn kin1 F.mro) (fun h2 e2 k2 => ?_)
  have kin2 : K.In h2 := kin1.keeps k2
  have hea2 := k2 _ _ hea1
  have I2 : W.InstAt h2 a { cls := .ref C, data := .fields #[.ref t1, .none, .none, .none, .bool false, .none] } C none := ⟨hea2, rfl, rfl, trivial⟩
  have hsup := F.sup
  unfold ks_superIn at hsup
  rw [hcl] at hsup
  refine kxs_getMethod kxs_ValueError (l₀ := .ref C :: bm) e2 (looks_opaque kin2 F.kop) ?_ rfl kin2 hsup (I2.type.andThen (looks_subIn kin2 F.sub)) (ks_ne kin2 I2 hcl) (by decide) ?_
  · exact fun A Q E s k q => wpAny_bind ((looks_clsIn kin2 hcl) A _ E s k (wpAny_pure q))
  have hu3 : (h2.push (kxs_mw "ValueError.__init__" a)).get? h2.objs.size = some (kxs_mw "ValueError.__init__" a) := Heap.get?_push_at rfl rfl
  have k3 : ∀ b o, h2.get? b = some o → (h2.push (kxs_mw "ValueError.__init__" a)).get? b = some o := fun b o e => Heap.get?_push_of_some _ e
  have hea3 := k3 _ _ hea2
  have hC3 := k3 _ _ (k2 _ _ hC1)
  refine kxs_callWith (i := "ValueError.__init__") (x := a) rfl (evalArgs_plain ?_)
  refine spliced_more (wpAny_Constant_str (spliced_none ⟨hu3, ?_⟩))
  refine call_mw hbm hC3 hea3 hu3 (by rw [sizeLine_eq]; simp) fun h4 k4 e4 => ?_
  show PySem.wpAt _ _ _ _ _ _ ⟨h4, s.gens, s.drawn, _, s.os⟩
  generalize s.toks + (([Str.ofString "self", pn] : List Str).zip [Value.ref a, u]).length + 1 + 1 = tk4
  have alt : a < s.heap.objs.size := Heap.lt_size hea
  have kAll : ∀ b o, b ≠ a → s.heap.get? b = some o → h4.get? b = some o := fun b o hb e => k4 b o hb (k3 _ _ (k2 _ _ (hk1 _ _ e)))
  have notA : ∀ b, K.lookup b ≠ none → b ≠ a := fun b hb z => by
    cases e : K.lookup b with
    | none => exact hb e
    | some o =>
      have q := (e0.bs b o (e0.mod.kin b o e)).2
      rw [z, ha] at q
      cases q
  have kin4 : K.In h4 := fun b o e => kAll b o (notA b (by rw [e]; simp)) (kin b o e)
  have hns4 : h4.Ns s.heap.objs.size fun x => (([Str.ofString "self", pn] : List Str).zip [Value.ref a, u]).reverse.lookup x := hns.at fun o e => k4 _ o (Nat.ne_of_gt alt) (k3 _ _ (k2 _ _ e))
  have hnsE : h4.Ns env.locals fun x => (([Str.ofString "self", pn] : List Str).zip [Value.ref a, u]).reverse.lookup x := by rw [henv]; exact hns4
  refine ks_wpAt_execs_cons (wpAt_of_wpAny (plainObj_wpAny_Assign_Attribute ?_ (FM.sw2 env ksc)))
  refine wpAny_Name (wpAny_loadName_local (by rw [ksc]; exact F.s5) (by rw [kk]; exact F.s4) hnsE harg ?_) F.pn2
  refine wpAny_Name (wpAny_loadName_local (by rw [ksc]; exact F.s5) (by rw [kk]; exact F.s3) hnsE hself ?_) (by decide)
  have I4 : W.InstAt h4 a { cls := .ref C, data := .fields #[.ref (h2.push (kxs_mw "ValueError.__init__" a)).objs.size, .none, .none, .none, .bool false, .none] } C none := ⟨e4, rfl, rfl, trivial⟩
  refine PySem.W.set_plain kin4 I4 F.oex.sa ?_
  refine PySem.HandSPX.exc_osa kin4 e4 hcl (show PySem.HandSPX.refsVE (.ref C :: bm) = true from hbm) rfl F.fld fun h5 tk5 dx k5' dn dne hx hn5 => ?_
  refine wpAt_of_wpAny (wpAny_execs_nil ?_)
  have old : ∀ {b : Addr} {o : Obj}, s.heap.get? b = some o → b ≠ dx := fun {b o} e z => by
    by_cases hb : b = a
    · exact dne (z.symm.trans hb)
    · have y := Heap.lt_size (kAll b o hb e)
      rw [z] at y
      exact absurd y (Nat.not_lt.mpr dn)
  have hdx : H dx = none := by
    cases z : H dx with
    | none => rfl
    | some o =>
      obtain ⟨o', q⟩ := objOk_get (e0.hok dx o z)
      exact absurd rfl (old q)
  have off : ∀ {b : Addr}, H b = none → b ≠ a := fun {b} n z => by
    rw [z, ha] at n
    cases n
  have kEnd : ∀ b o, b ≠ a → s.heap.get? b = some o → h5.get? b = some o := fun b o hb e => k5' b o hb (kAll b o hb e)
  refine ⟨.non, _, rfl, e0.bare, ?_, fun b o q => ?_, rfl, hq dx hdx dne⟩
  · exact {
      keep := fun b o e n _ _ => kEnd b o (off n) e
      slot := fun b o e n _ _ => ⟨o.slots, kEnd b o (off n) e⟩
      free := fun b o e n _ => (upd_ne (off n)).trans ((upd_ne (old e)).trans n)
      there := fun b o e _ => if hb : b = a then ⟨_, hb ▸ hx⟩ else ⟨o, kEnd b o hb e⟩
      tups := fun b xs e => (upd_ne (at_ne ha e exo_tup)).trans ((upd_ne (ne_of_none e hdx)).trans e)
      frzs := fun b o v e => (upd_ne (at_ne ha e exo_frz)).trans ((upd_ne (ne_of_none e hdx)).trans e)
      tbls := fun b ps e => ⟨#[], by rw [upd_ne (at_ne ha e exo_tbl), upd_ne (ne_of_none e hdx), e]; simp⟩ }
  · by_cases hb : b = a
    · rw [hb, upd_same] at q
      cases q
      rw [hb]
      exact exo_ok hx
    · rw [upd_ne hb] at q
      by_cases hd : b = dx
      · rw [hd, upd_same] at q
        cases q
        rw [hd]
        exact exd_ok hn5 (relO_put (fs := []) ru fun g => True.intro)
      · rw [upd_ne hd] at q
        refine (e0.hok b o q).stay (fun c v hc z => kEnd c v ?_ z) (fun c hc => ?_) fun c xs hc => ?_
        · rcases hc with hc | hc
          · exact hc ▸ hb
          · exact at_ne ha hc exo_own
        · exact (upd_ne (at_ne ha hc exo_own)).trans ((upd_ne (ne_of_none hc hdx)).trans hc)
        · exact (upd_ne (at_ne ha hc exo_tup)).trans ((upd_ne (ne_of_none hc hdx)).trans hc)
end
end XI
end
section
set_option Elab.async false
set_option linter.all false
set_option autoImplicit false
set_option maxRecDepth 100000
set_option maxHeartbeats 1000000
/-! JX: isinstance, dicts, exceptions: what they do. -/
namespace J
open PySem L2 PyProof.Rows
open IL (D Ow Slot Val CR RV Fl Bop Cop Tg wipeE Kd)
section
variable {C : Ctx} {δ δ' δ1 δ2 : Env} {σ σ' σ1 : St} {G H G' H' G1 H1 G2 H2 : Hp}
/-! ### isinstance of data -/
def tyD : D → String
  | .none => "NoneType"
  | .bool _ => "bool"
  | .int _ => "int"
  | .str _ => "str"
  | .list _ => "list"
  | .tuple _ => "tuple"
  | .dict _ => "dict"
def kdTy : Kd → String
  | .int => "int"
  | .bool => "bool"
  | .str => "str"
  | .list => "list"
  | .tuple => "tuple"
theorem kit_one (K : PySem.W.Frag) (d : D) (k : Kd) : PySem.W.kitOne K (.type (tyD d)) (.type (kdTy k)) = some (IL.kitD d k) := by
  cases d <;> cases k <;> (simp only [tyD, kdTy, IL.kitD]; exact kit_ty (by decide +kernel))
theorem kit_any (K : PySem.W.Frag) (d : D) : ∀ ks : List Kd, PySem.W.kitAny K (.type (tyD d)) (ks.map fun k => .type (kdTy k)) = some (IL.isaD ks d)
  | [] => rfl
  | k :: ks => by
    refine kitAny_cons (kit_one K d k) (fun hb => ?_) (fun hb => ?_)
    · rw [kit_any K d ks]
      show _ = some (IL.kitD d k || IL.isaD ks d)
      rw [hb]
      rfl
    · show (IL.kitD d k || IL.isaD ks d) = true
      rw [hb]
      rfl
theorem tyx_l {K : PySem.W.Frag} {a : Addr} {vs : List V} (h : SqL K H a vs) : TyX K H (.ref a) (.type "list") := by
  rcases h with (h | ⟨o, h⟩) | ⟨o, its, n, h, c, _⟩
  · exact .base (.lst h)
  · exact .base (.frz h)
  · exact .kList h c
theorem tyx_t {K : PySem.W.Frag} {a : Addr} {vs : List V} (h : SqT K H a vs) : TyX K H (.ref a) (.type "tuple") := by
  rcases h with (h | ⟨o, h⟩) | ⟨o, its, n, h, c, _⟩
  · exact .base (.tup h)
  · exact .fTuple h
  · exact .kTuple h c
theorem tyx_of {K : PySem.W.Frag} (e : Ex G H) {v : V} {d : D} (h : Tp K G H v d) : TyX K H v (.type (tyD d)) := by
  cases d with
  | none => rw [h.none_of]; exact .base .non
  | bool b => rw [h.bool_of]; exact .base (.bl b)
  | int i => rw [h.int_of]; exact .base (.int i)
  | str s => rw [h.str_of]; exact .base (.str s)
  | list ds =>
    obtain ⟨a, vs, rfl, hs, _⟩ := h.list_of e
    exact tyx_l hs
  | tuple ds =>
    obtain ⟨a, vs, rfl, hs, _⟩ := h.tuple_of e
    exact tyx_t hs
  | dict kvs =>
    cases h with
    | im h => cases h
theorem je_isa1 {te : TE} {fe : Env → IL.R Val} (k : Kd) (he : JE (relV C.K) C te fe) : JE (relV C.K) C (tCB (rIsi C.K) (tCons te (tCons (tC (.ty (kdTy k))) tNil))) (fun δ => (fe δ).bind fun x δ1 => IL.op1 (fun d => some (.dat (.bool (IL.isaD [k] d)))) x δ1) := fun δ σ G H S Q w =>
  he δ σ G H S _ (want_bind back_V w fun x δ1 u G1 H1 a r w1 => want_op1 w1 fun d y h1 h2 w2 => by
    cases h2
    refine ⟨u, _, _, _, IL.kitD d k, rfl, .ty _, tyx_of a.st.gh (cur_tp a.st r h1), kit_one C.K d k, ?_⟩
    have e : IL.isaD [k] d = IL.kitD d k := by simp [IL.isaD]
    rw [e] at w2
    exact w2.now a.st (.bl _))
def tTys : List Kd → TA
  | [] => tNil
  | k :: ks => tCons (tC (.ty (kdTy k))) (tTys ks)
theorem tys_run : ∀ (ks : List Kd) (σ : St) (H : Hp) (Q : List V → Hp → Prop), Q (ks.map fun k => .ty (kdTy k)) H → tTys ks σ H Q
  | [], _, _, _, h => h
  | k :: ks, σ, H, Q, h => tys_run ks σ H (fun xs H2 => Q (.ty (kdTy k) :: xs) H2) h
theorem tys_cls : ∀ ks : List Kd, Paired ClsV (ks.map fun k => V.ty (kdTy k)) (ks.map fun k => Value.type (kdTy k))
  | [] => .nil
  | k :: ks => .cons (.ty _) (tys_cls ks)
theorem je_isaN {te : TE} {fe : Env → IL.R Val} (ks : List Kd) (hk : ks.length ≤ 100) (he : JE (relV C.K) C te fe) : JE (relV C.K) C (tCB (rIsiT C.K) (tCons te (tCons (tTup (tTys ks)) tNil))) (fun δ => (fe δ).bind fun x δ1 => IL.op1 (fun d => some (.dat (.bool (IL.isaD ks d)))) x δ1) := fun δ σ G H S Q w =>
  he δ σ G H S _ (want_bind back_V w fun x δ1 u G1 H1 a r w1 => want_op1 w1 fun d y h1 h2 w2 => by
    cases h2
    refine tys_run ks σ H1 _ ⟨by rw [List.length_map, sizeLine_eq]; omega, fun p hp => ?_⟩
    have a1 := Aft.alloc (C := C) (o := .tup (ks.map fun k => V.ty (kdTy k))) a.st hp
    have tx := tyx_of a1.st.gh (cur_tp a1.st (r.later a1) h1)
    exact ⟨u, p, _, _, _, IL.isaD ks d, rfl, upd_same, tys_cls ks, tx, kit_any C.K d ks, (Want.step back_V w2 a1).now a1.st (.bl _)⟩)
/-! ### dicts -/
theorem je_dnew : JE (relV C.K) C tDNewK (fun δ => .ok (.new (.dct [])) δ) := fun δ σ G H S Q w p hp =>
  w _ _ _ (Aft.fresh S hp) ⟨p, .dK [], rfl, hp, S.gnone hp, upd_same, notOwn S hp, [], rfl, .nil⟩
theorem atD_of {K : PySem.W.Frag} : ∀ {ws : List (Key × V)} {kvs : List (Key × D)} (k : Key), Paired (fun (p : Key × V) (q : Key × D) => p.1 = q.1 ∧ Dp K G p.2 q.2) ws kvs → (∀ d, IL.atD kvs k = some d → ∃ v, valV ws k = some v ∧ Dp K G v d) ∧ (valV ws k).isSome = (IL.atD kvs k).isSome
  | _, _, k, .nil => ⟨fun d h => (by cases h), rfl⟩
  | p :: ws, q :: kvs, k, .cons h t => by
    obtain ⟨i1, i2⟩ := atD_of k t
    by_cases e : q.1 = k
    · have e' : p.1 = k := h.1.trans e
      have a1 : IL.atD (q :: kvs) k = some q.2 := by simp [IL.atD, List.find?_cons, e]
      rw [a1, valV_pos e']
      exact ⟨fun d z => by cases z; exact ⟨_, rfl, h.2⟩, rfl⟩
    · have e' : ¬ p.1 = k := fun z => e (h.1.symm.trans z)
      have a1 : IL.atD (q :: kvs) k = IL.atD kvs k := by simp [IL.atD, List.find?_cons, e]
      rw [a1, valV_neg e']
      exact ⟨i1, i2⟩
theorem any_of_pair {K : PySem.W.Frag} (k : Key) : ∀ {ws : List (Key × V)} {kvs : List (Key × D)}, Paired (fun (p : Key × V) (q : Key × D) => p.1 = q.1 ∧ Dp K G p.2 q.2) ws kvs → (ws.any fun kv => decide (kv.1 = k)) = kvs.any fun kv => decide (kv.1 = k)
  | _, _, .nil => rfl
  | p :: ws, q :: kvs, .cons h t => by
    rw [List.any_cons, List.any_cons, any_of_pair k t, h.1]
theorem pair_len {K : PySem.W.Frag} : ∀ {ws : List (Key × V)} {kvs : List (Key × D)}, Paired (fun (p : Key × V) (q : Key × D) => p.1 = q.1 ∧ Dp K G p.2 q.2) ws kvs → ws.length = kvs.length
  | _, _, .nil => rfl
  | _ :: ws, _ :: kvs, .cons _ t => congrArg (· + 1) (pair_len t)
theorem pair_map {K : PySem.W.Frag} (k : Key) {v : V} {d : D} (hd : Dp K G v d) : ∀ {ws : List (Key × V)} {kvs : List (Key × D)}, Paired (fun (p : Key × V) (q : Key × D) => p.1 = q.1 ∧ Dp K G p.2 q.2) ws kvs →
    Paired (fun (p : Key × V) (q : Key × D) => p.1 = q.1 ∧ Dp K G p.2 q.2) (ws.map fun kv => if kv.1 = k then (kv.1, v) else kv) (kvs.map fun kv => if kv.1 = k then (kv.1, d) else kv)
  | _, _, .nil => .nil
  | p :: ws, q :: kvs, .cons h t => by
    refine .cons ?_ (pair_map k hd t)
    by_cases e : q.1 = k
    · have e' : p.1 = k := h.1.trans e
      simp only [if_pos e, if_pos e']
      exact ⟨h.1, hd⟩
    · have e' : ¬ p.1 = k := fun z => e (h.1.symm.trans z)
      simp only [if_neg e, if_neg e']
      exact h
theorem pair_snoc {K : PySem.W.Frag} {k : Key} {v : V} {d : D} (hd : Dp K G v d) : ∀ {ws : List (Key × V)} {kvs : List (Key × D)}, Paired (fun (p : Key × V) (q : Key × D) => p.1 = q.1 ∧ Dp K G p.2 q.2) ws kvs → Paired (fun (p : Key × V) (q : Key × D) => p.1 = q.1 ∧ Dp K G p.2 q.2) (ws ++ [(k, v)]) (kvs ++ [(k, d)])
  | _, _, .nil => .cons ⟨rfl, hd⟩ .nil
  | _ :: ws, _ :: kvs, .cons h t => .cons h (pair_snoc hd t)
theorem pair_put {K : PySem.W.Frag} (k : Key) {v : V} {d : D} (hd : Dp K G v d) {ws : List (Key × V)} {kvs : List (Key × D)} (h : Paired (fun (p : Key × V) (q : Key × D) => p.1 = q.1 ∧ Dp K G p.2 q.2) ws kvs) :
    Paired (fun (p : Key × V) (q : Key × D) => p.1 = q.1 ∧ Dp K G p.2 q.2) (putK ws k v) (IL.putD kvs k d) := by
  unfold putK IL.putD
  rw [any_of_pair k h]
  by_cases e : (kvs.any fun kv => decide (kv.1 = k)) = true
  · rw [if_pos e, if_pos e]
    exact pair_map k hd h
  · rw [if_neg e, if_neg e]
    exact pair_snoc hd h
theorem keyD_of {d : D} {k : Key} (h : IL.keyD d = some k) : ∃ s, d = .str s ∧ k = .inr s := by
  cases d <;> cases h
  exact ⟨_, rfl, rfl⟩
theorem dct_at {i : Nat} {kvs : List (Key × D)} (S : Stt C.K δ σ G H) (h : δ[i]? = some (.ow (.dct kvs))) : ∃ l ws, σ[i]? = some (some (.ref l)) ∧ H l = some (.dK ws) ∧ Paired (fun (p : Key × V) (q : Key × D) => p.1 = q.1 ∧ Dp C.K G p.2 q.2) ws kvs ∧ OwnAt δ σ i l := by
  obtain ⟨l, ho, e1, _, e2, ws, rfl, e3⟩ := S.env i _ h
  exact ⟨l, ws, e1, e2, e3, ⟨_, h⟩, e1⟩
theorem dctAt_of {i : Nat} {kvs : List (Key × D)} (h : IL.dctAt δ i = some kvs) : δ[i]? = some (.ow (.dct kvs)) := by
  unfold IL.dctAt at h
  split at h
  · rename_i e
    cases h
    exact e
  · cases h
theorem je_dget (i : Nat) {te : TE} {fe : Env → IL.R Val} (he : JE (relV C.K) C te fe) : JE (relV C.K) C (tDGet (tVar i) te) (fun δ => match δ[i]? with
    | some (.ow (.dct _)) => (fe δ).bind fun v δ1 => IL.getDR i v δ1
    | _ => .no) := fun δ σ G H S Q w => by
  cases e : δ[i]? with
  | none => simp only [e] at w; exact w.elim
  | some s =>
    cases s with
    | un => simp only [e] at w; exact w.elim
    | xc _ _ => simp only [e] at w; exact w.elim
    | im d => simp only [e] at w; exact w.elim
    | ow o =>
      cases o with
      | lst ds => simp only [e] at w; exact w.elim
      | dct kvs0 =>
        simp only [e] at w
        obtain ⟨l, ws0, e1, _⟩ := dct_at S e
        refine ⟨.ref l, e1, he δ σ G H S _ (want_bind back_V w fun x δ1 u G1 H1 a r w1 => want_op1 w1 fun d y h1 h2 w2 => ?_)⟩
        cases h3 : IL.dctAt δ1 i with
        | none => rw [h3] at h2; cases h2
        | some kvs =>
          rw [h3] at h2
          cases h4 : IL.keyD d with
          | none => simp only [Option.bind_some, h4, Option.bind_none] at h2; cases h2
          | some k =>
            cases h5 : IL.atD kvs k with
            | none => simp only [Option.bind_some, h4, h5, Option.map_none] at h2; cases h2
            | some z =>
              simp only [Option.bind_some, h4, h5, Option.map_some] at h2
              cases h2
              obtain ⟨l', ws, q1, q2, q3, _⟩ := dct_at a.st (dctAt_of h3)
              rw [e1] at q1
              cases q1
              obtain ⟨s, rfl, rfl⟩ := keyD_of h4
              have eu := (cur_tp a.st r h1).str_of
              subst eu
              obtain ⟨v, g1, g2⟩ := (atD_of (.inr s) q3).1 z h5
              refine ⟨l, v, rfl, ?_, w2.now a.st g2⟩
              rw [← g1]
              exact DGet.k (k := .inr s) q2
theorem je_dhas (i : Nat) {te : TE} {fe : Env → IL.R Val} (he : JE (relV C.K) C te fe) : JE (relV C.K) C (tDIn te (tVar i)) (fun δ => (fe δ).bind fun v δ1 => IL.hasDR i v δ1) := fun δ σ G H S Q w =>
  he δ σ G H S _ (want_bind back_V w fun x δ1 u G1 H1 a r w1 => want_op1 w1 fun d y h1 h2 w2 => by
    cases h3 : IL.dctAt δ1 i with
    | none => rw [h3] at h2; cases h2
    | some kvs =>
      rw [h3] at h2
      cases h4 : IL.keyD d with
      | none => simp only [Option.bind_some, h4, Option.map_none] at h2; cases h2
      | some k =>
        simp only [Option.bind_some, h4, Option.map_some] at h2
        cases h2
        obtain ⟨l, ws, q1, q2, q3, _⟩ := dct_at a.st (dctAt_of h3)
        obtain ⟨s, rfl, rfl⟩ := keyD_of h4
        have eu := (cur_tp a.st r h1).str_of
        subst eu
        refine ⟨.ref l, q1, l, _, rfl, DGet.k (k := .inr s) q2, ?_⟩
        rw [(atD_of (.inr s) q3).2]
        exact w2.now a.st (.bl _))
theorem js_dset (i : Nat) {tk te : TE} {fk fe : Env → IL.R Val} (hk : JE (relV C.K) C tk fk) (he : JE (relV C.K) C te fe) : JS C (sDPut (tVar i) tk te) (fun δ => (fe δ).bind fun v δ1 => (IL.dem C.kp v δ1).bind fun d δ2 => match δ2[i]? with
    | some (.ow (.dct _)) => (fk δ2).bind fun u δ3 => IL.setDR i d u δ3
    | _ => .no) := fun δ σ G H S De p =>
  he δ σ G H S _ (wantS_demR p fun d δ1 v G1 H1 a1 r p1 => by
    cases e : δ1[i]? with
    | none => simp only [e] at p1; exact p1.elim
    | some s =>
      cases s with
      | un => simp only [e] at p1; exact p1.elim
      | xc _ _ => simp only [e] at p1; exact p1.elim
      | im d => simp only [e] at p1; exact p1.elim
      | ow o =>
        cases o with
        | lst ds => simp only [e] at p1; exact p1.elim
        | dct kvs0 =>
          simp only [e] at p1
          obtain ⟨l, ws0, e1, _⟩ := dct_at a1.st e
          refine ⟨.ref l, e1, hk δ1 σ G1 H1 a1.st _ (wantS_bind p1 fun x δ2 u G2 H2 a2 r2 p2 => ?_)⟩
          unfold IL.setDR at p2
          cases e' : δ2[i]? with
          | none => simp only [e'] at p2; exact p2.elim
          | some s =>
            cases s with
            | un => simp only [e'] at p2; exact p2.elim
            | xc _ _ => simp only [e'] at p2; exact p2.elim
            | im d => simp only [e'] at p2; exact p2.elim
            | ow o =>
              cases o with
              | lst ds => simp only [e'] at p2; exact p2.elim
              | dct kvs =>
                simp only [e'] at p2
                obtain ⟨l', ws, q1, q2, q3, q4⟩ := dct_at a2.st e'
                rw [e1] at q1
                cases q1
                unfold IL.op1 at p2
                cases h1 : IL.cur δ2 x with
                | none => rw [h1] at p2; exact p2.elim
                | some dx =>
                  rw [h1] at p2
                  cases h4 : IL.keyD dx with
                  | none => simp only [Option.bind_some, h4] at p2; exact p2.elim
                  | some k =>
                    simp only [Option.bind_some, h4, IL.optR, IL.bind_ok] at p2
                    obtain ⟨s, rfl, rfl⟩ := keyD_of h4
                    have eu := (cur_tp a2.st r2 h1).str_of
                    subst eu
                    by_cases hz : kvs.length < sizeLine
                    · rw [if_pos hz] at p2
                      refine ⟨l, _, rfl, DPut.k (k := .inr s) q2 (by rw [pair_len q3]; exact hz), ?_⟩
                      exact p2 σ G2 _ (aft_mut a2.st q4 ⟨_, rfl, pair_put (.inr s) (Dp.ex a2.nx.gg _ _ r) q3⟩)
                    · rw [if_neg hz] at p2
                      exact p2.elim)
end
end J
end
section
set_option Elab.async false
set_option linter.all false
set_option maxRecDepth 100000
set_option maxHeartbeats 2000000
/-! JH: defs called while an exception is handled; own exceptions made where their context is told. -/
namespace DG
open PySem PySem.Spec PyProof.Rows L2
open L2H (RoomH Hot1 PinOk cxH inv_startH roomH_of)
/-- the def at f keeps the promise sp where p is handled and no repr is under way -/
structure FnX (P : Program) (w : World) (K : PySem.W.Frag) (mg : Str → Option Value) (base : Heap) (CX : CXT) (k : Nat) (f : Addr) (fd : FuncData) (ps : List Str) (sp : Addr × Obj → Sp) : Prop where
  arity : ∀ p vs H Q E, sp p vs H Q E → vs.length = ps.length
  goes : ∀ (A : Around) (o : List Env) (s : Shared) (H : Hp) (as : Args) (us : List Value) (vs : List V) (Q : VK) (E : XK) (p : Addr × Obj),
    Clr A → RoomH k A → Hot1 A p → PinOk o H s p → Env0 P w K mg base A o s H → BindsTo s fd as (ps.zip us) → Vals vs us → sp p vs H Q E → codeAny (model P w) A (.call (.ref f) as) (CR CX o P w H s Q E) s
section
variable {X : Cx} {CX : CXT} {k : Nat} {f : Addr} {fd : FuncData} {ps : List Str} {sp : Addr × Obj → Sp} {sp0 : Sp} {E : XK} {ES : L2.St → XK} {x : Str} {p pos : Pos} {e : Expr} {es : List Expr} {t : TA} {q : Addr × Obj}
theorem fnX_runs {pins : List (Addr × Obj)} {σ : L2.St} {H : Hp} {s : Shared} {Q : VK} {us : List Value} {vs : List V} (F : FnX X.prog X.w X.K X.mg X.base CX k f fd ps sp) (c : Clr X.A) (hr : RoomH k X.A) (hot : Hot1 X.A q) (hq : q ∈ X.pn) (hb : Binds X.K fd ps [])
    (E : XK) (hx : PassesAt CX X σ E) (I : Inv X pins σ H s) (r : Vals vs us) (h : sp q vs H Q E) : wpAny (model X.prog X.w) X.A (call (.ref f) us) (EP X pins σ Q) X.xe s := by
  have len : us.length = ps.length := (r.length.symm).trans (F.arity _ _ _ _ _ h)
  have bd := hb s us I.kIn (by rw [List.append_nil]; exact len)
  rw [List.append_nil] at bd
  obtain ⟨g1, g2, g3, g4, g5⟩ := I.pin q (List.mem_append_left _ hq)
  have pk : PinOk X.stack H s q := ⟨g1, g2, fun m => (List.mem_cons.mp (I.stkSub q.1 m)).elim g3 g4, g5⟩
  have go := F.goes X.A X.stack s H ⟨us, []⟩ us vs Q E q c hr hot pk I.env0 bd r h
  refine wpAny_call (codeAny_mono go fun r s' z => ?_)
  rcases r with e | fl
  · exact hx pins H s e s' I z
  · cases fl <;> first | exact I.after z | exact False.elim z
theorem pe_callX (F : FnX X.prog X.w X.K X.mg X.base CX k f fd ps sp) (hs : ∀ vs H Q E, sp0 vs H Q E → sp q vs H Q E) (c : Clr X.A) (hr : RoomH k X.A) (hot : Hot1 X.A q) (hq : q ∈ X.pn) (hg : Gl X x) (hm : X.mg x = some (.ref f)) (hk : PySem.W.keepIn X.K (.ref f) = true) (hb : Binds X.K fd ps [])
    (hx : ∀ σ, PassesAt CX X σ (ES σ)) (ha : PA X (e :: es) t) (hdb : (x == ("__debug__" : Str)) = false := by decide)
    (he : starEach (e :: es) X.env = (false, eval e X.env) :: starEach es X.env := by rfl) (hpl : (backTo pos (starEach es X.env)).any (·.1) = false := by rfl) : PE X (.Call (.Name x p) (e :: es) [] pos) (tCallS sp0 ES t) :=
  ⟨fun pins s σ H Q I h => wpAny_Call_Name_kw (ld_glob I hg hm (PySem.W.callWith_K (h₀ := X.base) I.ok.mod.kin hk
    (thn (ha.run pos pins s σ H _ I h) fun us s1 ⟨vs, H1, I1, r, z⟩ => ⟨I1.kIn, fnX_runs F c hr hot hq hb (ES σ) (hx σ) I1 r (hs _ _ _ _ z)⟩) he hpl) hdb)⟩
theorem pe_callX0 (F : FnX X.prog X.w X.K X.mg X.base CX k f fd ps sp) (hs : ∀ vs H Q E, sp0 vs H Q E → sp q vs H Q E) (c : Clr X.A) (hr : RoomH k X.A) (hot : Hot1 X.A q) (hq : q ∈ X.pn) (hg : Gl X x) (hm : X.mg x = some (.ref f)) (hk : PySem.W.keepIn X.K (.ref f) = true) (hb : Binds X.K fd ps [])
    (hx : ∀ σ, PassesAt CX X σ (ES σ)) (hdb : (x == ("__debug__" : Str)) = false := by decide) : PE X (.Call (.Name x p) [] [] pos) (tCallS sp0 ES tNil) :=
  ⟨fun pins s σ H Q I h => wpAny_Call_Name_kw (ld_glob I hg hm (PySem.W.callWith_K0 I.kIn hk (fnX_runs (us := []) F c hr hot hq hb (ES σ) (hx σ) I .nil (hs _ _ _ _ h))) hdb)⟩
end
section
variable {P : Program} {w : World} {K : PySem.W.Frag} {mg : Str → Option Value} {base : Heap} {CX : CXT} {k : Nat} {f : Addr} {fd : FuncData} {N ps : List Str} {sp : Addr × Obj → Sp}
/-- such a promise from the walk of the body -/
theorem fnX_mk {x qual : Str} {st : Stmt} (F : Fun K x qual st f fd) (S : FnScope N ps (defScope st)) (len : ∀ p vs H Q E, sp p vs H Q E → vs.length = ps.length)
    (body : ∀ (cdv : Value) (A : Around) (o : List Env) (s : Shared) (H : Hp) (vs : List V) (Q : VK) (E : XK) (p : Addr × Obj), Hot1 A p → Clr (A.deeper (envOfC qual (defScope st) s.heap.objs.size f cdv)) → RoomH k (A.deeper (envOfC qual (defScope st) s.heap.objs.size f cdv)) → sp p vs H Q E →
      ∃ t, PSs (cxH CX P w K mg base N qual (defScope st) f cdv A o s H E p) (defBody st) t ∧ t { nx := fun _ H' => Q .non H', rt := Q } (L2.start N vs) H) : FnX P w K mg base CX (k + 1) f fd ps sp := by
  obtain ⟨oc, od, kV, doc, pm, an, cdv, ct, osl, rfl, lk, hcd⟩ := F.ex
  refine ⟨len, fun A o s H as us vs Q E p c hr hot pk e0 hb r hsp => ?_⟩
  have inK : K.In s.heap := e0.mod.kin.keeps fun b q e => (e0.bs b q e).1
  have places : ∀ y ∈ ps.zip us, (defScope st).names.lookup y.1 = some .local ∨ ((defScope st).names.lookup y.1 = some .cell ∧ ((cellsFrom (s.heap.objs.size + 1) (defScope st).names []).lookup y.1).isSome = true) := by
    rintro ⟨n, v⟩ hy
    have z := S.par n (List.of_mem_zip hy).1
    exact z.imp id fun q => ⟨q, PySem.W.cellsFrom_some _ _ _ (.inl q)⟩
  refine codeAny_call_function hr.depth (inK _ _ lk) rfl S.co S.gen rfl (PySem.W.codeRec_of inK hcd) (hb _ _ _ _ ?_)
  refine wpAny_newFunctionEnv_cells S.kind places fun env he s1 x => ?_
  subst he
  refine ⟨(e0.mod.nolimit.keeps fun b q e => (e0.bs b q e).1).keeps x.toInCall.keep, codeAny_func ?_⟩
  obtain ⟨t, walk, reads⟩ := body cdv A o s H vs Q E p hot c (hr.deeper _) hsp
  have I := inv_startH (CX := CX) (P := P) (E := E) S pk e0 (len _ _ _ _ _ hsp) r x
  refine wpAny_mono (walk.run [] s1 (L2.start N vs) H _ I reads) (fun fl s' hs => ?_) fun e s' hs => hs
  match fl, hs with
  | .ret u, ⟨v, σ', H', J, rv, q⟩ => exact ⟨v, H', J.os, J.bare, J.base, J.hok, rv, q⟩
  | .next, ⟨σ', H', J, q⟩ => exact ⟨V.non, H', J.os, J.bare, J.base, J.hok, rfl, q⟩
  | .brk, ⟨_, _, _, q⟩ => exact q.elim
  | .cont, ⟨_, _, _, q⟩ => exact q.elim
end
end DG
namespace J
open PySem L2 PyProof.Rows
section
variable {X : Cx} {x : Str} {e : Expr} {es : List Expr} {ta : TA} {p pos : Pos}
/-- C(e, ..): the exception's context is None -/
theorem pmk_oexN {CX : CXT} {C fI : Addr} {k : Nat} {fd : FuncData} {ps : List Str} {sp : Sp} (T : OexC X.K C) (iC : PySem.W.findIn X.K (.ref C) "__init__" = some (some (.ref fI))) (tI : PySem.W.typeIn X.K (.ref fI) = some (.type "function"))
    (F1 : FnOk X.prog X.w X.K X.mg X.base CX k fI fd ps sp) (hr : Room (k + 1) X.A) (hb : Binds X.K fd ps []) (hx : Passes CX X (fun _ _ _ => False)) (hg : Gl X x) (hm : X.mg x = some (.ref C)) (ha : PA X (e :: es) ta)
    (hdb : (x == ("__debug__" : Str)) = false := by decide) (he : starEach (e :: es) X.env = (false, eval e X.env) :: starEach es X.env := by rfl) (hpl : (backTo pos (starEach es X.env)).any (·.1) = false := by rfl) :
    L2N.PMk X (.Call (.Name x p) (e :: es) [] pos) (tMkO C sp [] ta) := by
  intro pins s σ H Q I h
  obtain ⟨nm, q, N, bs, bm, sn, sub, ab, col, dd, k0, k1, k2, k3, k5, kC, vB⟩ := T.cls
  refine wpAny_Call_Name_kw (ld_glob I hg hm (PySem.W.callWith_K (h₀ := X.base) I.ok.mod.kin T.kC (thn (ha.run pos pins s σ H _ I h) fun us s1 w1 => ?_) he hpl) hdb)
  obtain ⟨vs, H1, I1, r1, hz, q1⟩ := w1
  refine ⟨I1.kIn, ?_⟩
  obtain ⟨hp, g, dr, tk, os⟩ := s1
  -- the place of the exception, of its arguments' tuple below it
  generalize hA : hp.objs.size + 1 = a
  have fresh : H1 a = none := I1.hok.fresh (by rw [← hA]; exact Nat.le_succ _)
  have sp1 := q1 a fresh
  rw [List.append_nil] at sp1
  generalize hP : (hp.push (PySem.W.kdv_tup us)).push (PySem.HandSPX.excO C hp.objs.size) = hp2
  have old : ∀ b o, hp.get? b = some o → hp2.get? b = some o := by
    intro b o z
    rw [← hP]
    exact Heap.get?_push_of_some _ (Heap.get?_push_of_some _ z)
  have here : hp2.get? a = some (PySem.HandSPX.excO C hp.objs.size) := by
    rw [← hP, ← hA]
    heap_get
  have up : hp.objs.size ≤ a := by omega
  have I2 : Inv X pins σ (upd H1 a (exo a C none)) ⟨hp2, g, dr, tk, os⟩ := I1.laid (t' := tk) (a := a) (o := exo a C none) (h' := hp2) old up (exo_ok here)
  have r2 : Vals (V.ref a :: vs) (Value.ref a :: us) := .cons rfl r1
  have few : us.length ≤ sizeLine := by
    have z := r1.length
    have y := sizeLine_eq
    omega
  have bd := hb ⟨hp2, g, dr, tk, os⟩ (Value.ref a :: us) I2.kIn (by rw [List.append_nil]; exact r2.length.symm.trans (F1.len _ _ _ _ sp1))
  rw [List.append_nil] at bd
  have went := F1.run _ X.stack _ _ ⟨Value.ref a :: us, []⟩ (Value.ref a :: us) _ _ (fun _ _ _ => False) (hr.make C us []) (I2.env0.make C us []) bd r2 sp1
  subst hA
  subst hP
  refine wpAny_call (PySem.HandSPX.call_own F.excBase_ValueError (fun Y => PySem.HandSPX.refsVE_contains Y bm vB) (I1.kIn _ _ kC) (PySem.W.looks_findIn I1.kIn iC) (fun self => PySem.W.bind_fn I1.kIn self tI) few (codeAny_mono went fun r s' z => ?_))
  match r, z with
  | .error er, z => exact hx pins σ _ _ er s' I2 z
  | .ok (.ret u), ⟨v, H2, o2, b2, un2, ok2, rv, ev, d, fs, ea, ed, fr, q2⟩ =>
    subst ev
    obtain ⟨h2, g2, d2, t2, os'⟩ := s'
    obtain ⟨t0, G, J, kG, ge, oe, na⟩ := mk_end0 (d2 := d2) (t2 := t2) I1 up old un2 ok2 o2 b2 ea ed fr
    exact ⟨rv, ⟨hp.objs.size + 1, _, _, ⟨G, g2, d2, t2, os'⟩, _, .ref C, some d, rfl, J, kG, ge, oe, ⟨rfl, rfl, fun vs e => by cases e; rfl⟩, rfl, rfl, na, rfl, b2, raises_own T.exC T.tyC, q2⟩⟩
  | .ok .next, z => exact z.elim
  | .ok .brk, z => exact z.elim
  | .ok .cont, z => exact z.elim
end
/-! ### the exception in hand, by its pin -/
section
variable {X : Cx} {a C : Addr} {oe : Obj} {d : Option Addr}
theorem pe_xfP {cls : Value} {e : Expr} {te : TE} {pos : Pos} {n : Str} (T : XfC X.K C) (hno : PySem.W.findIn X.K (.ref C) n = some none) (hp : (a, oe) ∈ X.pn) (hz : Zc cls d oe) (hf : ∃ vs, oe.data = .fields vs) (he : PE X e te)
    (hb : attributeBase e n X.env (eval e X.env) = eval e X.env := by rfl) : PE X (.Attribute e n pos) (tXf a cls d C n te) := by
  refine ⟨fun pins s σ H Q I h => attr_of hb (thn (he.run pins s σ H _ I h) fun u s1 w => ?_)⟩
  obtain ⟨x, H1, I1, rx, rfl, rfl, dd, fs, v, rfl, ea, l, q⟩ := w
  have eu : u = Value.ref a := rx
  subst eu
  obtain ⟨vs, hd⟩ := hf
  have at_ := (I1.pin (a, oe) (List.mem_append_left _ hp)).1
  obtain ⟨mA, hns, hr⟩ := (show ObjOk X.prog X.w H1 s1.heap dd (.xd fs) from I1.hok dd _ ea)
  obtain ⟨od, ho, hl⟩ := lookIn_ns hns
  obtain ⟨u, hu, ru⟩ := RelO.some_of (v := v) (o := mA n) (by rw [← l]; exact hr n)
  have inst : PySem.W.InstAt s1.heap a oe C (some od) := ⟨at_, hz.1, by unfold PySem.W.notCls; rw [hd] <;> rfl, by rw [hz.2]; exact ho⟩
  exact HandSPX.exc_get I1.kIn inst T.ga T.gg T.exC (PySem.W.findObj_own T.hdC hno rfl (by rw [hl, hu])) (handed_of ru) ⟨v, H1, I1.tok _, ru, q⟩
end
end J
end
section
set_option Elab.async false
set_option linter.all false
set_option autoImplicit false
set_option maxRecDepth 100000
set_option maxHeartbeats 1000000
/-! JY: exceptions: raised, caught, read. -/
namespace J
open PySem L2 PyProof.Rows
open IL (D Ow Slot Val CR RV Fl Bop Cop Tg wipeE Kd)
section
variable {C : Ctx} {δ δ' δ1 δ2 : Env} {σ σ' σ1 : St} {G H G' H' G1 H1 G2 H2 : Hp}
/-! ### raise -/
theorem js_raise {te : TE} {fe : Env → IL.R Val} {A : Addr} {f : Str} (c : Nat) (hx : C.xv c = .ref A) (he : JE (relV C.K) C te fe) :
    JS C (fun _ σ H => tMkO A (XI.spXi A f) [] (tCons te tNil) σ H fun cls d H' => C.es σ cls d H') (fun δ => (fe δ).bind fun v δ1 => (IL.dem C.kp v δ1).bind fun d δ2 => .ex c [(f, d)] δ2) := fun δ σ G H S De p =>
  he δ σ G H S _ (wantS_demR p fun d δ1 v G1 H1 a r p1 => by
    refine ⟨by simp, fun e hn => ⟨e, v, rfl, upd_same, fun dx hd ne => ?_⟩⟩
    have hd1 : H1 dx = none := by rw [upd_ne ne] at hd; exact hd
    refine ⟨rfl, dx, [(f, v)], upd_same, by rw [upd_ne ne, upd_same], hd1, ?_⟩
    have eh : upd (del (upd (upd (upd H1 e (exo e A none)) dx (exd dx [(f, v)])) e (exo e A (some dx))) e) dx (.xd [(f, v)]) = upd H1 dx (.xd [(f, v)]) := by
      funext b
      by_cases h1 : b = dx
      · rw [h1, upd_same, upd_same]
      · rw [upd_ne h1, upd_ne h1]
        by_cases h2 : b = e
        · rw [h2, del_same, hn]
        · rw [del_ne h2, upd_ne h2, upd_ne h1, upd_ne h2]
    rw [eh, ← hx]
    have a1 := Aft.alloc (C := C) (o := .xd [(f, v)]) a.st hd1
    refine p1 (some dx) σ _ _ a1 ⟨dx, _, rfl, upd_same, fun g x hg => ?_⟩
    simp only [List.lookup_cons] at hg ⊢
    cases z : (g == f) with
    | true =>
      rw [z] at hg
      cases hg
      exact ⟨v, rfl, Dp.ex a1.nx.gg _ _ r⟩
    | false =>
      rw [z] at hg
      cases hg)
/-! ### the exception in hand -/
theorem je_xf (i : Nat) (f : Str) {x : XC} {A : Addr} (hx : C.K.xc = some x) (hA : C.xv x.c = .ref A) : JE (relV C.K) C (tXf x.a (C.xv x.c) (some x.dd) A f (tVar i)) (fun δ => match δ[i]? with
    | some (.xc _ fs) => IL.optR δ ((fs.lookup f).map .dat)
    | _ => .no) := fun δ σ G H S Q w => by
  cases e : δ[i]? with
  | none => simp only [e] at w; exact w.elim
  | some s =>
    cases s with
    | un => simp only [e] at w; exact w.elim
    | im _ => simp only [e] at w; exact w.elim
    | ow _ => simp only [e] at w; exact w.elim
    | xc c fs =>
      simp only [e] at w
      obtain ⟨x', h1, h2, h3, h4⟩ := S.env i _ e
      rw [hx] at h1
      cases h1
      subst h4
      cases hl : x.fs.lookup f with
      | none => rw [hl] at w; exact w.elim
      | some d =>
        rw [hl] at w
        obtain ⟨g1, g2⟩ := S.xd x hx
        obtain ⟨v, g3, g4⟩ := g2 f d hl
        exact ⟨.ref x.a, h2, rfl, hA, x.dd, x.ws, v, rfl, S.gh _ _ g1, g3, w.now S g4⟩
/-- isinstance(e, c), e the exception in hand, which has a dict -/
def rIsD (K : PySem.W.Frag) (A a dd : Addr) : List V → Hp → VK → Prop := fun xs H Q => ∃ (c : V) (cv : Value) (b : Bool) (fs : List (Str × V)), xs = [.ref a, c] ∧ (∀ u, RelV c u → u = cv) ∧ H dd = some (.xd fs) ∧ PySem.W.kitOne K (.ref A) cv = some b ∧ Q (.bl b) H
/-- what the class must say -/
structure ExcX (K : PySem.W.Frag) (A : Addr) : Prop where
  cl : (PySem.W.clsIn K A).isSome = true
  ga : PySem.W.findIn K (.ref A) "__getattribute__" = some (some (.builtin "BaseException.__getattribute__"))
  gg : PySem.W.findIn K (.ref A) "__getattr__" = some none
  sb : PySem.W.subIn K (.ref A) (.type "BaseException") = some true
  hd : PySem.W.hasDictIn K A = true
  kc : PySem.W.findIn K (.ref A) "__class__" = some (some (.builtin "object.__class__"))
  kn : PySem.W.specialIn K (.builtin "object.__class__") "__get__" = some (some (.builtin "getset_descriptor.__get__"))
  kt : PySem.W.takesIn K (.builtin "object.__class__") = some true
  km : PySem.W.mroIn K A (.type "object") = some true
theorem ExcX.xf {K : PySem.W.Frag} {A : Addr} (h : ExcX K A) : XfC K A := ⟨h.ga, h.gg, h.sb, h.hd⟩
theorem call_isD {X : Cx} {a A dd : Addr} {oe : Obj} (E : ExcX X.K A) (hp : (a, oe) ∈ X.pn) (hz : Zc (.ref A) (some dd) oe) (hf : ∃ vs, oe.data = .fields vs) : CallR X (.builtin "isinstance") (rIsD X.K A a dd) := by
  intro pins s σ H xs us Q I r h
  obtain ⟨c, cv, b, fs, rfl, hc, hx, e, q⟩ := h
  obtain ⟨u1, u2, rfl, r1, r2⟩ := vals2 r
  obtain rfl : u1 = Value.ref a := r1
  have e2 := hc _ r2
  subst e2
  obtain ⟨at_, _⟩ := I.pin (a, oe) (List.mem_append_left _ hp)
  obtain ⟨vs, hv⟩ := hf
  have xd : ObjOk X.prog X.w H s.heap dd (.xd fs) := I.hok dd _ hx
  obtain ⟨mA, ⟨od, _, _, hod, _⟩, _⟩ := xd
  have J : PySem.W.InstAt s.heap a oe A (some od) := ⟨at_, hz.1, by unfold PySem.W.notCls; rw [hv] <;> rfl, by rw [hz.2]; exact hod⟩
  exact PySem.W.kia_one (PySem.W.kitx_exc E.cl E.ga E.gg E.sb E.kc E.kn E.kt E.km) I.kIn J e (fun z => nomatch z) fun tk => ⟨.bl b, H, I.tok tk, rfl, q⟩
theorem je_xis (i : Nat) (cs ns : List Nat) {x : XC} {A : Addr} {c : V} {cv : Value} (hx : C.K.xc = some x) (hA : C.xv x.c = .ref A) (hc : ∀ u, RelV c u → u = cv) (hk : x.c ∈ cs → PySem.W.kitOne C.K (.ref A) cv = some true) (hk2 : x.c ∈ ns → PySem.W.kitOne C.K (.ref A) cv = some false) :
    JE (relV C.K) C (tCB (rIsD C.K A x.a x.dd) (tCons (tVar i) (tCons (tC c) tNil))) (fun δ => match δ[i]? with
    | some (.xc c _) => if c ∈ cs then .ok (.dat (.bool true)) δ else if c ∈ ns then .ok (.dat (.bool false)) δ else .no
    | _ => .no) := fun δ σ G H S Q w => by
  cases e : δ[i]? with
  | none => simp only [e] at w; exact w.elim
  | some s =>
    cases s with
    | un => simp only [e] at w; exact w.elim
    | im _ => simp only [e] at w; exact w.elim
    | ow _ => simp only [e] at w; exact w.elim
    | xc c' fs =>
      simp only [e] at w
      obtain ⟨x', h1, h2, h3, h4⟩ := S.env i _ e
      rw [hx] at h1
      cases h1
      subst h3
      by_cases q : x.c ∈ cs
      · rw [if_pos q] at w
        exact ⟨.ref x.a, h2, c, cv, _, x.ws, rfl, hc, S.gh _ _ (S.xd x hx).1, hk q, w.now S (.bl _)⟩
      · rw [if_neg q] at w
        by_cases q2 : x.c ∈ ns
        · rw [if_pos q2] at w
          exact ⟨.ref x.a, h2, c, cv, _, x.ws, rfl, hc, S.gh _ _ (S.xd x hx).1, hk2 q2, w.now S (.bl _)⟩
        · rw [if_neg q2] at w
          exact w.elim
/-! ### try -/
/-- the state with an exception in hand -/
theorem stt_hand {xc : XC} {i : Nat} (S : Stt C.K δ σ G H) (hd : G xc.dd = some (.xd xc.ws)) (hf : ∀ f d, xc.fs.lookup f = some d → ∃ v, xc.ws.lookup f = some v ∧ Dp C.K G v d) (nx : ∀ (j : Nat) (c : Nat) (fs : List (Str × D)), j ≠ i → δ[j]? ≠ some (.xc c fs)) :
    Stt ⟨C.K.K, some xc⟩ (δ.set i (.xc xc.c xc.fs)) (σ.set i (some (.ref xc.a))) G H ∧ ∀ j l, OwnAt (δ.set i (.xc xc.c xc.fs)) (σ.set i (some (.ref xc.a))) j l → j ≠ i ∧ OwnAt δ σ j l := by
  have back : ∀ j l, OwnAt (δ.set i (.xc xc.c xc.fs)) (σ.set i (some (.ref xc.a))) j l → j ≠ i ∧ OwnAt δ σ j l := fun j l ⟨⟨o, e⟩, e2⟩ => by
    rcases get_set e with ⟨_, z⟩ | ⟨h, z⟩
    · cases z
    · rw [List.getElem?_set_ne h] at e2
      exact ⟨fun y => h y.symm, ⟨o, z⟩, e2⟩
  refine ⟨⟨S.gh, fun j s e => ?_, fun a b l h1 h2 => S.dis a b l (back _ _ h1).2 (back _ _ h2).2, by rw [List.length_set, List.length_set]; exact S.len, fun x hx => by cases hx; exact ⟨hd, hf⟩⟩, back⟩
  rcases get_set e with ⟨h, z⟩ | ⟨h, z⟩
  · subst h
    subst z
    have hi : i < σ.length := by
      rw [← S.len]
      have q := (List.getElem?_eq_some_iff.mp e).1
      rw [List.length_set] at q
      exact q
    exact ⟨xc, rfl, by rw [List.getElem?_set_self hi], rfl, rfl⟩
  · rw [List.getElem?_set_ne h]
    have q := S.env j s z
    cases s with
    | un => trivial
    | im d => exact q
    | ow o => exact q
    | xc c fs => exact absurd z (nx j c fs fun y => h y.symm)
theorem noX_get {j : Nat} {s : Slot} (h : (δ.map IL.noX)[j]? = some s) : (s = .un ∨ δ[j]? = some s) ∧ ∀ c fs, s ≠ .xc c fs := by
  rw [List.getElem?_map] at h
  cases e : δ[j]? with
  | none => rw [e] at h; cases h
  | some t =>
    rw [e] at h
    cases t with
    | un => cases h; exact ⟨.inl rfl, fun _ _ z => by cases z⟩
    | im d => cases h; exact ⟨.inr rfl, fun _ _ z => by cases z⟩
    | ow o => cases h; exact ⟨.inr rfl, fun _ _ z => by cases z⟩
    | xc c fs => cases h; exact ⟨.inl rfl, fun _ _ z => by cases z⟩
theorem noX_own {j : Nat} {l : Addr} (h : OwnAt (δ.map IL.noX) σ j l) : OwnAt δ σ j l := by
  obtain ⟨⟨o, e⟩, e2⟩ := h
  rcases (noX_get e).1 with z | z
  · cases z
  · exact ⟨⟨o, z⟩, e2⟩
theorem own_noX {j : Nat} {l : Addr} (h : OwnAt δ σ j l) : OwnAt (δ.map IL.noX) σ j l := by
  obtain ⟨⟨o, e⟩, e2⟩ := h
  exact ⟨⟨o, by rw [List.getElem?_map, e]; rfl⟩, e2⟩
/-- behind a suite -/
theorem aft_suite {e : St → XK} {xc : XC} {i : Nat} (hn : C.K.xc = none) (hi : C.kp ≤ i) (a : Aft C δ σ G H δ1 σ1 G1 H1) (b : Aft ⟨⟨C.K.K, some xc⟩, C.kp, C.xv, C.nv, e⟩ (δ1.set i (.xc xc.c xc.fs)) (σ1.set i (some (.ref xc.a))) G1 H1 δ2 σ' G2 H2) :
    Aft C δ σ G H (δ2.map IL.noX) σ' G2 H2 ∧ Aft C δ σ G H ((δ2.map IL.noX).set i .un) (σ'.set i none) G2 H2 := by
  have back : ∀ j l, OwnAt (δ1.set i (.xc xc.c xc.fs)) (σ1.set i (some (.ref xc.a))) j l → OwnAt δ1 σ1 j l := fun j l ⟨⟨o, e⟩, e2⟩ => by
    rcases get_set e with ⟨_, z⟩ | ⟨h, z⟩
    · cases z
    · rw [List.getElem?_set_ne h] at e2
      exact ⟨⟨o, z⟩, e2⟩
  have S2 : Stt C.K (δ2.map IL.noX) σ' G2 H2 := by
    refine ⟨b.st.gh, fun j s q => ?_, fun j k l h1 h2 => b.st.dis j k l (noX_own h1) (noX_own h2), by rw [List.length_map]; exact b.st.len, fun x hx => by rw [hn] at hx; cases hx⟩
    obtain ⟨z, nz⟩ := noX_get q
    rcases z with z | z
    · subst z
      trivial
    · have y := b.st.env j s z
      cases s with
      | un => trivial
      | im d => exact y
      | ow o => exact y
      | xc c fs => exact absurd rfl (nz c fs)
  have kp1 : ∀ (j : Nat) (l : Addr), j < C.kp → OwnAt δ σ j l → OwnAt (δ2.map IL.noX) σ' j l := fun j l hj h => by
    have h1 := a.kp j l hj h
    have ne : i ≠ j := by omega
    refine own_noX (b.kp j l hj ?_)
    obtain ⟨⟨o, e1⟩, e2⟩ := h1
    exact ⟨⟨o, by rw [List.getElem?_set_ne ne]; exact e1⟩, by rw [List.getElem?_set_ne ne]; exact e2⟩
  have ow1 : ∀ l, Own (δ2.map IL.noX) σ' l → Own δ σ l ∨ H l = none := fun l ⟨j, h⟩ => by
    rcases b.ow l ⟨j, noX_own h⟩ with ⟨k, z⟩ | z
    · exact a.ow l ⟨k, back k l z⟩
    · exact .inr (a.nx.noneOf z)
  have nx1 : Nx (Own δ σ) G H G2 H2 := a.nx.trans b.nx fun l ⟨k, z⟩ => a.ow l ⟨k, back k l z⟩
  have ln1 : (δ2.map IL.noX).length = δ.length := by rw [List.length_map, b.ln, List.length_set]; exact a.ln
  have u := S2.unk (i := i) (v := none)
  refine ⟨⟨S2, nx1, ow1, kp1, ln1⟩, ⟨u.1, nx1, fun l h => ow1 l (u.2 l h), fun j l hj h => ?_, by rw [List.length_set]; exact ln1⟩⟩
  obtain ⟨⟨o, e1⟩, e2⟩ := kp1 j l hj h
  have ne : i ≠ j := by omega
  exact ⟨⟨o, by rw [List.getElem?_set_ne ne]; exact e1⟩, by rw [List.getElem?_set_ne ne]; exact e2⟩
/-- a suite's reading, for every exception that it may hold -/
def tSuite (xv : Nat → Value) (cs : List Nat) (tx : XC → TS) : Addr → Value → Option Addr → TS := fun a cls d D σ H => ∃ xc : XC, xc.a = a ∧ xv xc.c = cls ∧ d = some xc.dd ∧ xc.c ∈ cs ∧ tx xc D σ H
theorem js_try {cs ns : List Nat} {i : Nat} {cv : Value} {tb : WX → TS} {tx : XC → TS} {fb fh : Env → IL.R Fl} (hn : C.K.xc = none)
    (hyes : ∀ c ∈ cs, PySem.W.exmOne C.K (C.xv c) cv = some true) (hno : ∀ c ∈ ns, PySem.W.exmOne C.K (C.xv c) cv = some false)
    (hb : ∀ W : WX, JS (C.un fun σ cls d H => W cls d σ H) (tb W) fb)
    (hs : ∀ xc : XC, xc.c ∈ cs → JS ⟨⟨C.K.K, some xc⟩, C.kp, C.xv, C.nv, fun _ _ _ _ => False⟩ (tx xc) fh) :
    JS C (fun De σ H => tb (wAs C.K cv i (tSuite C.xv cs tx) (fun cls d σ H => C.es σ cls d H) De) De σ H) (fun δ => IL.caught cs ns i C.kp fh (fb δ)) := fun δ σ G H S De p => by
  refine hb (wAs C.K cv i (tSuite C.xv cs tx) (fun cls d σ H => C.es σ cls d H) De) δ σ G H S De ?_
  have p' : WantS C δ σ G H (IL.caught cs ns i C.kp fh (fb δ)) De := p
  cases e : fb δ with
  | no => rw [e] at p'; exact p'.elim
  | ok fl δ' =>
    rw [e] at p'
    cases fl with
    | nx => exact fun σ' G' H' a => p' σ' G' H' a.nu
    | bk => exact fun σ' G' H' a => p' σ' G' H' a.nu
    | ct => exact fun σ' G' H' a => p' σ' G' H' a.nu
    | rt v =>
      cases v with
      | dat d => exact fun v σ' G' H' a => p' v σ' G' H' a.nu
      | new o => exact fun l ho σ' G' H' a => p' l ho σ' G' H' a.nu
  | ex c fs δ' =>
    rw [e] at p'
    intro d σ' G' H' a0 r
    have a := a0.nu
    have p' : WantS C δ σ G H (if c ∈ cs then (if C.kp ≤ i then IL.gone i (fh (δ'.set i (.xc c fs))) else .no) else if c ∈ ns then .ex c fs δ' else .no) De := p'
    by_cases hc : c ∈ cs
    · rw [if_pos hc] at p'
      by_cases hi : C.kp ≤ i
      case neg =>
        rw [if_neg hi] at p'
        exact p'.elim
      rw [if_pos hi] at p'
      refine ⟨true, hyes c hc, fun _ e0 he0 => ?_, fun z => by cases z⟩
      obtain ⟨dd, ws, ed, gd, gf⟩ := r
      refine ⟨⟨e0, dd, ws, c, fs⟩, rfl, rfl, ed, hc, ?_⟩
      have hand := stt_hand (xc := ⟨e0, dd, ws, c, fs⟩) (i := i) a.st gd gf fun j c' fs' _ z => by
        obtain ⟨x, q, _⟩ := a.st.env j _ z
        rw [hn] at q
        cases q
      refine hs ⟨e0, dd, ws, c, fs⟩ hc (δ'.set i (.xc c fs)) (σ'.set i (some (.ref e0))) G' H' hand.1 _ ?_
      cases eh : fh (δ'.set i (.xc c fs)) with
      | no => rw [eh] at p'; exact p'.elim
      | ex _ _ _ => rw [eh] at p'; exact p'.elim
      | ok fl δ2 =>
        rw [eh] at p'
        cases fl with
        | nx => exact fun σ2 G2 H2 b => p' _ G2 H2 (aft_suite (xc := ⟨e0, dd, ws, c, fs⟩) hn hi a b).2
        | bk => exact fun σ2 G2 H2 b => p' _ G2 H2 (aft_suite (xc := ⟨e0, dd, ws, c, fs⟩) hn hi a b).2
        | ct => exact fun σ2 G2 H2 b => p' _ G2 H2 (aft_suite (xc := ⟨e0, dd, ws, c, fs⟩) hn hi a b).2
        | rt v =>
          cases v with
          | dat d => exact fun v σ2 G2 H2 b r => p' v σ2 G2 H2 (aft_suite (xc := ⟨e0, dd, ws, c, fs⟩) hn hi a b).1 r
          | new o =>
            intro l ho σ2 G2 H2 b lc no g h w
            have z := aft_suite (xc := ⟨e0, dd, ws, c, fs⟩) hn hi a b
            refine p' l ho σ2 G2 H2 z.1 ?_ (fun j hj hz => no j hj (noX_own hz)) g h w
            rcases lc with ⟨j, hj, oj⟩ | hz
            · refine Loc.back a (.inl ⟨j, hj, ?_⟩)
              exact (hand.2 j l oj).2
            · exact Loc.back a (.inr hz)
    · rw [if_neg hc] at p'
      by_cases hc2 : c ∈ ns
      · rw [if_pos hc2] at p'
        exact ⟨false, hno c hc2, fun z => (Bool.false_ne_true z).elim, fun _ => p' d σ' G' H' a r⟩
      · rw [if_neg hc2] at p'
        exact p'.elim
end
end J
end
section
set_option Elab.async false
set_option linter.all false
set_option maxRecDepth 100000
set_option maxHeartbeats 1000000
/-! JM: methods of texts. -/
namespace J
open PySem L2 PyProof.Rows
open IL (D Ow Slot Val CR RV Fl Tm Tm1)
section
variable {C : Ctx} {δ δ' δ1 δ2 : Env} {σ σ' σ1 : St} {G H G' H' G1 H1 G2 H2 : Hp}
def rTm : Tm → V → List V → Hp → VK → Prop
  | .upper => fun x xs H Q => ∃ a, x = .str a ∧ xs = [] ∧ a.length ≤ 5592405 ∧ Q (.str (Txt.upper a)) H
  | .lower => fun x xs H Q => ∃ a, x = .str a ∧ xs = [] ∧ a.length ≤ 5592405 ∧ Q (.str (Txt.lower a)) H
  | .strip => fun x xs H Q => ∃ a, x = .str a ∧ xs = [] ∧ a.length ≤ sizeLine ∧ Q (.str (Txt.strip a)) H
  | .isdigit => fun x xs H Q => ∃ a, x = .str a ∧ xs = [] ∧ True ∧ Q (.bl (Txt.isdigit a)) H
  | .isascii => fun x xs H Q => ∃ a, x = .str a ∧ xs = [] ∧ True ∧ Q (.bl (Txt.isascii a)) H
theorem tm_does (m : Tm) : Op1 C (fun x H Q => (∃ a, x = .str a) ∧ rTm m x [] H Q) (IL.tmop m) := fun δ σ G H u d x Q S hu h w => by
  have e : ∃ s, d = .str s := by
    cases d with
    | str s => exact ⟨s, rfl⟩
    | _ => cases m <;> cases h
  obtain ⟨s, rfl⟩ := e
  refine ⟨⟨s, hu.str_of⟩, ?_⟩
  cases m with
  | upper =>
    simp only [IL.tmop] at h
    split at h
    · rename_i hz
      cases h
      exact ⟨s, hu.str_of, rfl, hz, w.now S (.str _)⟩
    · cases h
  | lower =>
    simp only [IL.tmop] at h
    split at h
    · rename_i hz
      cases h
      exact ⟨s, hu.str_of, rfl, hz, w.now S (.str _)⟩
    · cases h
  | strip =>
    simp only [IL.tmop] at h
    split at h
    · rename_i hz
      cases h
      exact ⟨s, hu.str_of, rfl, hz, w.now S (.str _)⟩
    · cases h
  | isdigit =>
    cases h
    exact ⟨s, hu.str_of, rfl, trivial, w.now S (.bl _)⟩
  | isascii =>
    cases h
    exact ⟨s, hu.str_of, rfl, trivial, w.now S (.bl _)⟩
/-! ### of a text and another value -/
def rTm1 (K : PySem.W.Frag) : Tm1 → V → List V → Hp → VK → Prop
  | .startswith => fun x xs H Q => ∃ a b, x = .str a ∧ xs = [.str b] ∧ Q (.bl (Txt.startswith a b)) H
  | .removeprefix => fun x xs H Q => ∃ a b, x = .str a ∧ xs = [.str b] ∧ a.length ≤ sizeLine ∧ Q (.str (Txt.removeprefix a b)) H
  | .split => fun x xs H Q => ∃ a b, x = .str a ∧ xs = [.str b] ∧ (b.length == 0) = false ∧ a.length + 2 ≤ sizeLine ∧ rNewStrs (Txt.split a b) H Q
  | .partition => fun x xs H Q => ∃ a b, x = .str a ∧ xs = [.str b] ∧ (b.length == 0) = false ∧ a.length ≤ sizeLine ∧
    ∀ p, H p = none → Q (.ref p) (upd H p (.tup [.str (Txt.partition a b).1, .str (Txt.partition a b).2.1, .str (Txt.partition a b).2.2]))
  | .join => fun x xs H Q => ∃ a p, ∃ ys : List Str, x = .str a ∧ xs = [.ref p] ∧ (SqL K H p (ys.map V.str) ∨ SqT K H p (ys.map V.str)) ∧
    (ys.map (·.length)).sum + ys.length * a.length ≤ 16777216 ∧ Q (.str (Txt.join a ys)) H
theorem asStrs_of : ∀ {ds : List D} {ns : List Str}, IL.asStrs ds = some ns → ds = ns.map PyData.str
  | [], ns, h => by cases h; rfl
  | .str i :: ds, ns, h => by
    simp only [IL.asStrs, Option.map_eq_some_iff] at h
    obtain ⟨ms, h1, rfl⟩ := h
    rw [asStrs_of h1]
    rfl
  | .none :: _, _, h => by cases h
  | .bool _ :: _, _, h => by cases h
  | .int _ :: _, _, h => by cases h
  | .list _ :: _, _, h => by cases h
  | .tuple _ :: _, _, h => by cases h
  | .dict _ :: _, _, h => by cases h
theorem DpAll.strs {K : PySem.W.Frag} : ∀ {vs : List V} {ns : List Str}, DpAll K G vs (ns.map PyData.str) → vs = ns.map V.str
  | vs, [], h => by cases h; rfl
  | vs, n :: ns, h => by
    cases h with
    | cons a b => rw [Dp.str_of a, DpAll.strs b]; rfl
theorem DpAll.of_strs {K : PySem.W.Frag} : ∀ {ns : List Str}, DpAll K G (ns.map V.str) (ns.map PyData.str)
  | [] => .nil
  | n :: ns => .cons (.str _) DpAll.of_strs
theorem tm1_does (m : Tm1) {s : Str} {u : V} (hs : u = .str s) : Op1 C (fun y H Q => rTm1 C.K m u [y] H Q) (IL.tm1op s m) := fun δ σ G H v d x Q S hu h w => by
  subst hs
  cases m with
  | startswith =>
    cases d with
    | str b =>
      cases h
      exact ⟨s, b, rfl, by rw [hu.str_of], w.now S (.bl _)⟩
    | _ => cases h
  | removeprefix =>
    cases d with
    | str b =>
      simp only [IL.tm1op] at h
      split at h
      · rename_i hz
        cases h
        exact ⟨s, b, rfl, by rw [hu.str_of], hz, w.now S (.str _)⟩
      · cases h
    | _ => cases h
  | split =>
    cases d with
    | str b =>
      simp only [IL.tm1op] at h
      split at h
      · rename_i hz
        cases h
        exact ⟨s, b, rfl, by rw [hu.str_of], hz.1, hz.2, fun q hq => w.newLst S hq DpAll.of_strs⟩
      · cases h
    | _ => cases h
  | partition =>
    cases d with
    | str b =>
      simp only [IL.tm1op] at h
      split at h
      · rename_i hz
        cases h
        exact ⟨s, b, rfl, by rw [hu.str_of], hz.1, hz.2, fun q hq => w.newTup S hq (.cons (.str _) (.cons (.str _) (.cons (.str _) .nil)))⟩
      · cases h
    | _ => cases h
  | join =>
    cases d with
    | list ds =>
      simp only [IL.tm1op, Option.bind_eq_some_iff] at h
      obtain ⟨ys, h1, h⟩ := h
      split at h
      · rename_i hz
        cases h
        obtain ⟨p, us, rfl, hp, hx⟩ := hu.list_of S.gh
        rw [asStrs_of h1] at hx
        rw [DpAll.strs hx] at hp
        exact ⟨s, p, ys, rfl, rfl, .inl hp, of_decide_eq_true hz, w.now S (.str _)⟩
      · cases h
    | tuple ds =>
      simp only [IL.tm1op, Option.bind_eq_some_iff] at h
      obtain ⟨ys, h1, h⟩ := h
      split at h
      · rename_i hz
        cases h
        obtain ⟨p, us, rfl, hp, hx⟩ := hu.tuple_of S.gh
        rw [asStrs_of h1] at hx
        rw [DpAll.strs hx] at hp
        exact ⟨s, p, ys, rfl, rfl, .inr hp, of_decide_eq_true hz, w.now S (.str _)⟩
      · cases h
    | _ => cases h
theorem je_tm1 (m : Tm1) {ta tb : TE} {fa fb : Env → IL.R Val} (ha : JE (relV C.K) C ta fa) (hb : JE (relV C.K) C tb fb) :
    JE (relV C.K) C (tM1 (rTm1 C.K m) ta tb) (fun δ => (fa δ).bind fun x δ1 => match x with
      | .dat (.str s) => (fb δ1).bind fun y δ2 => IL.op1 (IL.tm1op s m) y δ2
      | _ => .no) := fun δ σ G H S Q w =>
  ha δ σ G H S _ (want_bind back_V w fun x δ1 u G1 H1 a1 r1 w1 => by
    cases x with
    | dat d =>
      cases d with
      | str s =>
        have e : u = .str s := Dp.str_of r1
        refine ⟨⟨s, e⟩, ?_⟩
        exact hb δ1 σ G1 H1 a1.st _ (want_bind back_V w1 fun y δ2 v G2 H2 a2 r2 w2 => want_op1 w2 fun d a h1 h3 w3 => tm1_does m e δ2 σ G2 H2 v d a Q a2.st (cur_tp a2.st r2 h1) h3 w3)
      | _ => exact w1.elim
    | _ => exact w1.elim)
theorem je_tm (m : Tm) {ta : TE} {fa : Env → IL.R Val} (ha : JE (relV C.K) C ta fa) : JE (relV C.K) C (tM0 (rTm m) ta) (fun δ => (fa δ).bind fun x δ1 => IL.op1 (IL.tmop m) x δ1) := je_op1 (tm_does m) ha
end
end J
end
section
set_option Elab.async false
set_option linter.all false
set_option autoImplicit false
set_option maxRecDepth 100000
set_option maxHeartbeats 1000000
/-! JP: several names at once, from a written tuple. -/
namespace J
open PySem L2
open IL (D Ow Slot Val CR RV Fl)
section
variable {C : Ctx}
/-- what the small language says of names set from a written tuple -/
def parF (kp : Nat) (is : List Nat) (fa : Env → IL.R (List D)) : Env → IL.R Fl := fun δ => ((fa δ).bind fun ds δ1 => if ds.length ≤ sizeLine then .ok (.dat (.tuple ds)) δ1 else .no).bind fun v δ1 => (IL.dem kp v δ1).bind fun d δ2 => (IL.optR δ2 (IL.bindT kp (.tup is) d δ2)).bind fun δ3 _ => .ok .nx δ3
theorem par_all {is : List Nat} {De : Ends} {δ : Env} {σ : St} {G H : Hp} : ∀ {is : List Nat} {ds : List D} {vs : List V} {δ1 δ3 : Env} {σ1 : St} {G1 H1 : Hp}, Aft C δ σ G H δ1 σ1 G1 H1 → DpAll C.K G1 vs ds → IL.bindAll C.kp is ds δ1 = some δ3 →
    ∃ σ3, Aft C δ σ G H δ3 σ3 G1 H1 ∧ vs.length = is.length ∧ σ3 = (is.zip vs).foldl (fun s p => s.set p.1 (some p.2)) σ1
  | [], [], vs, δ1, δ3, σ1, G1, H1, a, r, h => by
    cases h
    cases r
    exact ⟨_, a, rfl, rfl⟩
  | [], _ :: _, vs, δ1, δ3, σ1, G1, H1, a, r, h => by cases h
  | _ :: _, [], vs, δ1, δ3, σ1, G1, H1, a, r, h => by cases h
  | i :: is, d :: ds, vs, δ1, δ3, σ1, G1, H1, a, r, h => by
    simp only [IL.bindAll] at h
    split at h
    · rename_i hf
      cases r with
      | cons p q =>
        obtain ⟨σ3, b, e1, e2⟩ := par_all (is := is) (De := De) (a.trans (aft_put a.st (free_of rfl hf) p)) q h
        exact ⟨σ3, b, by simp [e1], e2⟩
    · cases h
theorem js_parG {is : List Nat} {ta : TA} {fa : Env → IL.R (List D)} (R : Ends → St → List V → Hp → Prop) (h : JE (relDs C.K) C ta fa) (hR : ∀ (De : Ends) (σ : St) (vs : List V) (H1 : Hp), vs.length = is.length → De.nx ((is.zip vs).foldl (fun s p => s.set p.1 (some p.2)) σ) H1 → R De σ vs H1) :
    JS C (fun De σ H => ta σ H (R De σ)) (parF C.kp is fa) := fun δ σ G H S De p => by
  refine h δ σ G H S _ ?_
  unfold parF at p
  cases e : fa δ with
  | no => rw [e] at p; exact p
  | ex c fs δ' => rw [e] at p; exact fun d G' H' b r => p d σ G' H' b r
  | ok ds δ1 =>
    rw [e] at p
    intro vs G1 H1 a r
    simp only [IL.bind_ok] at p
    split at p
    · simp only [IL.bind_ok, IL.dem, IL.bindT] at p
      cases eb : IL.bindAll C.kp is ds δ1 with
      | none => rw [eb] at p; exact p.elim
      | some δ3 =>
        rw [eb] at p
        obtain ⟨σ3, b, e1, e2⟩ := par_all (is := is) (De := De) a r eb
        exact hR De σ vs H1 e1 (e2 ▸ p σ3 G1 H1 b)
    · exact p.elim
end
end J
end
section
set_option Elab.async false
set_option linter.all false
set_option maxRecDepth 100000
set_option maxHeartbeats 2000000
/-! J8: a text of the small language stands for a text of Python: the check, and what it is worth. -/
namespace J
open PySem L2 PyProof.Rows
open IL (D Ow Slot Val CR RV Fl Bop Cop Tg wipeE ownIx putBack argSlot CE CEs CT CO CI CS CB Fn Mt Kd)
/-- where one stands: the names by slot, the scope, the defs with their numbers of parameters, whether this is a def's own body -/
structure Sc where
  N : List Str
  scope : Scope
  fs : List (Str × Nat)
  top : Bool
  /-- no exception is in hand -/
  calm : Bool
  /-- the classes of exceptions with their fields; names of classes with the classes below them and the others; constants of the module -/
  xs : List (Str × Str)
  xb : List (Str × List Nat × List Nat)
  gc : List (Str × Const)
  /-- the defs that may be called while an exception is handled -/
  hot : List Nat
def okN (x : Str) : Bool := !(x == ("__debug__" : Str)) && !(x == ("__classdict__" : Str))
def visB (sc : Sc) (x : Str) : Bool := match sc.scope.names.lookup x with
  | some .local => true
  | some .cell => true
  | some .free => true
  | _ => false
def glB (sc : Sc) (x : Str) : Bool := match sc.scope.names.lookup x with
  | some .globalImplicit => true
  | _ => false
def putB (sc : Sc) (x : Str) : Bool := match sc.scope.names.lookup x with
  | some .local => true
  | some .cell => sc.top
  | _ => false
/-- an expression that is walked and stored as it stands -/
def plainE : Expr → Bool
  | .Starred .. => false
  | .Set .. => false
  | .Slice .. => false
  | .SetComp .. => false
  | .DictComp .. => false
  | _ => true
def notComp : Expr → Bool
  | .ListComp .. => false
  | e => plainE e
/-- an expression whose test is its value's truth -/
def plainT : Expr → Bool
  | .UnaryOp .. => false
  | .BoolOp .. => false
  | .IfExp .. => false
  | .Compare .. => false
  | e => plainE e
def notTup : Expr → Bool
  | .Tuple .. => false
  | e => notComp e
def notSuper : Expr → Bool
  | .Call .. => false
  | _ => true
def blts : List Str := ["len", "int", "abs", "sum", "min", "max", "any", "all", "tuple", "list", "repr", "sorted", "set", "range", "isinstance", "bool", "str"]
def fnName : Fn → Str
  | .len => "len"
  | .str => "str"
  | .int => "int"
  | .abs => "abs"
  | .sum => "sum"
  | .min2 => "min"
  | .max2 => "max"
  | .any => "any"
  | .all => "all"
  | .tuple => "tuple"
  | .list => "list"
  | .repr => "repr"
  | .sorted => "sorted"
  | .sortedSet => "sorted"
  | .minLen => "min"
def mtName : Mt → Str
  | .append => "append"
  | .pop => "pop"
  | .insert => "insert"
def tmName : IL.Tm → Str
  | .upper => "upper"
  | .lower => "lower"
  | .strip => "strip"
  | .isdigit => "isdigit"
  | .isascii => "isascii"
def tm1Name : IL.Tm1 → Str
  | .startswith => "startswith"
  | .removeprefix => "removeprefix"
  | .split => "split"
  | .partition => "partition"
  | .join => "join"
/-- the scope of a comprehension's block -/
def Sc.blk (sc : Sc) (s : Scope) : Sc := { sc with scope := relS s sc.scope, top := false }
def ownOf (sc : Sc) (vs : List Nat) : List (Str × Nat) := vs.map fun v => (sc.N.getD v (Str.ofString ""), v)
def isFun : ScopeKind → Bool
  | .function => true
  | _ => false
def chkName (sc : Sc) (i : Nat) : Expr → Bool
  | .Name x _ => decide (sc.N[i]? = some x) && (visB sc x && okN x)
  | _ => false
def chkTgt (sc : Sc) (i : Nat) : Expr → Bool
  | .Name x _ => decide (sc.N[i]? = some x) && putB sc x
  | _ => false
def chkTgts (sc : Sc) : List Nat → List Expr → Bool
  | [], [] => true
  | i :: is, e :: es => chkTgt sc i e && (plainE e && chkTgts sc is es)
  | _, _ => false
def chkG (sc : Sc) : Tg → Expr → Bool
  | .name i, e => chkTgt sc i e
  | .tup is, .Tuple es _ _ => sc.calm && chkTgts sc is es
  | _, _ => false
def tgIx : Tg → List Nat
  | .name i => [i]
  | .tup is => is
/-! ### the text, taken apart -/
def asConst : Expr → Option Const
  | .Constant c _ _ => some c
  | _ => none
def asBin : Expr → Option (Expr × Operator × Expr)
  | .BinOp x op y _ => some (x, op, y)
  | _ => none
def asUn : Expr → Option (UnaryOp × Expr)
  | .UnaryOp op x _ => some (op, x)
  | _ => none
def asCmp : Expr → Option (Expr × CmpOp × Expr)
  | .Compare x [op] [y] _ => some (x, op, y)
  | _ => none
def asBool : Expr → Option (BoolOp × Expr × Expr)
  | .BoolOp op [x, y] _ => some (op, x, y)
  | .BoolOp op (x :: y :: z :: r) p => some (op, x, .BoolOp op (y :: z :: r) p)
  | _ => none
def asIf : Expr → Option (Expr × Expr × Expr)
  | .IfExp t x y _ => some (t, x, y)
  | _ => none
def asTup : Expr → Option (List Expr)
  | .Tuple xs _ _ => some xs
  | _ => none
def asLst : Expr → Option (List Expr)
  | .List xs _ => some xs
  | _ => none
def asSub : Expr → Option (Expr × Expr)
  | .Subscript x y _ => some (x, y)
  | _ => none
def asSli : Expr → Option (Option Expr × Option Expr)
  | .Slice l h none _ => some (l, h)
  | _ => none
def isRev : Expr → Bool
  | .Slice none none (some (.UnaryOp .USub (.Constant (.int 1) _ _) _)) _ => true
  | _ => false
def asName : Expr → Option Str
  | .Name n _ => some n
  | _ => none
def asCall : Expr → Option (Str × List Expr)
  | .Call (.Name n _) xs [] _ => some (n, xs)
  | _ => none
def isMinKw : List Keyword → Bool
  | [⟨some k1, .Name l _, _⟩, ⟨some k2, .Constant .none _ _, _⟩] => decide (k1 = ("key" : Str)) && (decide (l = ("len" : Str)) && decide (k2 = ("default" : Str)))
  | _ => false
def asMin : Expr → Option Expr
  | .Call (.Name n _) [x] kws _ => if (decide (n = ("min" : Str)) && isMinKw kws) = true then some x else none
  | _ => none
def asMeth : Expr → Option (Expr × Str × List Expr)
  | .Call (.Attribute o a ap) xs [] cp => if (ap.endLine == cp.line) = true then some (o, a, xs) else none
  | _ => none
def asAttr : Expr → Option (Expr × Str)
  | .Attribute o a _ => some (o, a)
  | _ => none
def isDict0 : Expr → Bool
  | .Dict [] [] _ => true
  | _ => false
/-- a constant, written or the module's -/
def constB (sc : Sc) (x : Expr) (c : Const) : Bool := decide (asConst x = some c) || (match asName x with
  | some n => glB sc n && (okN n && decide (sc.gc.lookup n = some c))
  | none => false)
def kdName : Kd → Str
  | .int => "int"
  | .bool => "bool"
  | .str => "str"
  | .list => "list"
  | .tuple => "tuple"
def kdB (sc : Sc) (k : Kd) (x : Expr) : Bool := decide (asName x = some (kdName k)) && glB sc (kdName k)
def kdsB (sc : Sc) : List Kd → List Expr → Bool
  | [], [] => true
  | k :: ks, x :: xs => kdB sc k x && kdsB sc ks xs
  | _, _ => false
def kdAll (sc : Sc) (ks : List Kd) (x : Expr) : Bool := match ks with
  | [k] => kdB sc k x
  | ks => decide (ks.length ≤ 20) && (match asTup x with
    | some xs => kdsB sc ks xs
    | none => false)
/-- a built-in that asks for calm -/
def hotFn : Fn → Bool
  | .sum => true
  | .min2 => true
  | .max2 => true
  | .any => true
  | .all => true
  | .sortedSet => true
  | .minLen => true
  | _ => false
/-- a part of an f-string -/
def fstB (e : CE) (k : Expr → Bool) : Expr → Bool
  | .FormattedValue y c none _ => decide (c = -1) && k y
  | .Constant c _ _ => (match e with
    | .str s => decide (c = .str s)
    | _ => false)
  | _ => false
def asFst : Expr → Option (List Expr)
  | .JoinedStr (x :: y :: r) _ => some (x :: y :: r)
  | _ => none
def asLc : Expr → Option (Expr × Expr × Expr × List Expr × Scope)
  | .ListComp elt [⟨tg, iter, ifs, k⟩] s _ => if k = 0 then some (elt, tg, iter, ifs, s) else none
  | _ => none
/-- what is asked of a comprehension but for its parts -/
def lcB (sc : Sc) (vs : List Nat) (g : Tg) (tg iter : Expr) (s : Scope) : Bool := sc.calm && (plainE iter && (blkC sc.N sc.scope s (ownOf sc vs) && (isFun sc.scope.kind && (isFun s.kind && (decide (∀ i ∈ tgIx g, i ∈ vs) && chkG (sc.blk s) g tg)))))
def fnB (sc : Sc) (f : Fn) (k : List Expr → Bool) (x : Expr) : Bool := match asCall x with
  | some (n, xs) => decide (n = fnName f) && (!xs.isEmpty && (glB sc n && k xs))
  | none => false
mutual
def chkE : CE → Sc → Expr → Bool
  | .var i => fun sc x => chkName sc i x
  | .int i => fun sc x => constB sc x (.int i)
  | .str s => fun sc x => constB sc x (.str s)
  | .bool b => fun sc x => decide (asConst x = some (.bool b))
  | .none => fun sc x => decide (asConst x = some .none)
  | .fz e => fun sc x => chkE e sc x
  | .bin o a b => fun sc x => match asBin x with
    | some (l, op, r) => decide (opA o = op) && (chkE a sc l && chkE b sc r)
    | none => false
  | .neg a => fun sc x => match asUn x with
    | some (op, l) => decide (op = .USub) && chkE a sc l
    | none => false
  | .cmp o a b => fun sc x => match asCmp x with
    | some (l, op, r) => decide (copA o = op) && (chkE a sc l && (chkE b sc r && plainE r))
    | none => false
  | .isN a => fun sc x => match asCmp x with
    | some (l, op, r) => decide (op = .Is) && (decide (asConst r = some .none) && chkE a sc l)
    | none => false
  | .notN a => fun sc x => match asCmp x with
    | some (l, op, r) => decide (op = .IsNot) && (decide (asConst r = some .none) && chkE a sc l)
    | none => false
  | .not a => fun sc x => match asUn x with
    | some (op, l) => decide (op = .Not) && chkE a sc l
    | none => false
  | .and a b => fun sc x => match asBool x with
    | some (op, l, r) => decide (op = .And) && (chkE a sc l && chkE b sc r)
    | none => false
  | .or a b => fun sc x => match asBool x with
    | some (op, l, r) => decide (op = .Or) && (chkE a sc l && chkE b sc r)
    | none => false
  | .ite c a b => fun sc x => match asIf x with
    | some (t, l, r) => chkT c sc t && (chkE a sc l && chkE b sc r)
    | none => false
  | .tup es => fun sc x => match asTup x with
    | some xs => chkEs es sc xs
    | none => false
  | .lst es => fun sc x => match asLst x with
    | some xs => chkEs es sc xs
    | none => false
  | .idx a b => fun sc x => match asSub x with
    | some (l, r) => chkE a sc l && (chkE b sc r && plainE r)
    | none => false
  | .sli a lo hi => fun sc x => match asSub x with
    | some (l, r) => (match asSli r with
      | some (u, v) => chkE a sc l && (chkO lo sc u && chkO hi sc v)
      | none => false)
    | none => false
  | .rev a => fun sc x => match asSub x with
    | some (l, r) => isRev r && chkE a sc l
    | none => false
  | .call f es => fun sc x => match asCall x with
    | some (n, xs) => (sc.calm || decide (f ∈ sc.hot)) && (decide (sc.fs[f]? = some (n, xs.length)) && (glB sc n && (okN n && chkEs es sc xs)))
    | none => false
  | .bi f es => fun sc x => (!hotFn f || sc.calm) && (match f with
    | .sortedSet => (match asCall x with
      | some (n, [y]) => (match asCall y with
        | some (m, [z]) => decide (n = ("sorted" : Str)) && (decide (m = ("set" : Str)) && (glB sc n && (glB sc m && chkEs es sc [z])))
        | _ => false)
      | _ => false)
    | .minLen => (match asMin x with
      | some y => glB sc ("min" : Str) && (glB sc ("len" : Str) && chkEs es sc [y])
      | none => false)
    | f => fnB sc f (chkEs es sc) x)
  | .mt m i es => fun sc x => match asMeth x with
    | some (o, a, xs) => chkName sc i o && (decide (a = mtName m) && (decide (xs.length < 20) && (decide (xs = [] ↔ m = .pop) && chkEs es sc xs)))
    | none => false
  | .ext i e => fun sc x => match asMeth x with
    | some (o, a, [y]) => chkName sc i o && (decide (a = ("extend" : Str)) && (chkE e sc y && plainE y))
    | _ => false
  | .lc e g it vs => fun sc x => match asLc x with
    | some (elt, tg, iter, [], s) => lcB sc vs g tg iter s && (chkI it sc iter && chkE e (sc.blk s) elt)
    | _ => false
  | .lcIf e g it c vs => fun sc x => match asLc x with
    | some (elt, tg, iter, [t], s) => lcB sc vs g tg iter s && (chkI it sc iter && (chkT c (sc.blk s) t && chkE e (sc.blk s) elt))
    | _ => false
  | .isa a ks => fun sc x => match asCall x with
    | some (n, [y, z]) => decide (n = ("isinstance" : Str)) && (glB sc n && (chkE a sc y && (plainE y && (plainE z && kdAll sc ks z))))
    | _ => false
  | .xf i f => fun sc x => match asAttr x with
    | some (o, a) => chkName sc i o && (decide (a = f) && decide (∃ p ∈ sc.xs, p.2 = f))
    | none => false
  | .xis i n cs ns => fun sc x => match asCall x with
    | some (m, [y, z]) => decide (m = ("isinstance" : Str)) && (glB sc m && (chkName sc i y && (decide (asName z = some n) && (glB sc n && (okN n && decide (sc.xb.lookup n = some (cs, ns)))))))
    | _ => false
  | .dnew => fun sc x => isDict0 x
  | .dget i k => fun sc x => match asSub x with
    | some (l, r) => chkName sc i l && (chkE k sc r && plainE r)
    | none => false
  | .dhas i k => fun sc x => match asCmp x with
    | some (l, op, r) => decide (op = .In) && (chkE k sc l && (chkName sc i r && plainE r))
    | none => false
  | .tm m a => fun sc x => match asMeth x with
    | some (o, n, []) => decide (n = tmName m) && (chkE a sc o && notSuper o)
    | _ => false
  | .tm1 m a b => fun sc x => match asMeth x with
    | some (o, n, [y]) => decide (n = tm1Name m) && (chkE a sc o && (notSuper o && (chkE b sc y && plainE y)))
    | _ => false
  | .fst es => fun sc x => match asFst x with
    | some xs => chkF es sc xs
    | none => false
def chkF : CEs → Sc → List Expr → Bool
  | .nil => fun sc xs => xs.isEmpty
  | .cons e es => fun sc xs => match xs with
    | x :: xs => fstB e (chkE e sc) x && chkF es sc xs
    | [] => false
def chkT : CT → Sc → Expr → Bool
  | .cmp o a b => fun sc x => match asCmp x with
    | some (l, op, r) => decide (copA o = op) && (chkE a sc l && (chkE b sc r && plainE r))
    | none => false
  | .isN a => fun sc x => match asCmp x with
    | some (l, op, r) => decide (op = .Is) && (decide (asConst r = some .none) && chkE a sc l)
    | none => false
  | .notN a => fun sc x => match asCmp x with
    | some (l, op, r) => decide (op = .IsNot) && (decide (asConst r = some .none) && chkE a sc l)
    | none => false
  | .not a => fun sc x => match asUn x with
    | some (op, l) => decide (op = .Not) && chkT a sc l
    | none => false
  | .and a b => fun sc x => match asBool x with
    | some (op, l, r) => decide (op = .And) && (chkT a sc l && chkT b sc r)
    | none => false
  | .or a b => fun sc x => match asBool x with
    | some (op, l, r) => decide (op = .Or) && (chkT a sc l && chkT b sc r)
    | none => false
  | .tr e => fun sc x => chkE e sc x && plainT x
def chkEs : CEs → Sc → List Expr → Bool
  | .nil => fun sc xs => xs.isEmpty
  | .cons e es => fun sc xs => match xs with
    | x :: xs => chkE e sc x && (plainE x && chkEs es sc xs)
    | [] => false
def chkO : CO → Sc → Option Expr → Bool
  | .no => fun sc x => x.isNone
  | .yes e => fun sc x => match x with
    | some y => chkE e sc y
    | none => false
def chkI : CI → Sc → Expr → Bool
  | .rng1 e => fun sc x => match asCall x with
    | some (n, [y]) => decide (n = ("range" : Str)) && (glB sc n && (chkE e sc y && plainE y))
    | _ => false
  | .rng2 e f => fun sc x => match asCall x with
    | some (n, [y, z]) => decide (n = ("range" : Str)) && (glB sc n && (chkE e sc y && (plainE y && (chkE f sc z && plainE z))))
    | _ => false
  | .of e => fun sc x => chkE e sc x
end
/-! ### what the parts tell -/
theorem asConst_of {x : Expr} {c : Const} (h : asConst x = some c) : ∃ k p, x = .Constant c k p := by
  cases x <;> first | (cases h; exact ⟨_, _, rfl⟩) | cases h
theorem asBin_of {x l r : Expr} {op : Operator} (h : asBin x = some (l, op, r)) : ∃ p, x = .BinOp l op r p := by
  cases x <;> first | (cases h; exact ⟨_, rfl⟩) | cases h
theorem asUn_of {x l : Expr} {op : UnaryOp} (h : asUn x = some (op, l)) : ∃ p, x = .UnaryOp op l p := by
  cases x <;> first | (cases h; exact ⟨_, rfl⟩) | cases h
theorem asCmp_of {x l r : Expr} {op : CmpOp} (h : asCmp x = some (l, op, r)) : ∃ p, x = .Compare l [op] [r] p := by
  unfold asCmp at h
  split at h
  · cases h; exact ⟨_, rfl⟩
  · cases h
theorem asBool_of {x l r : Expr} {op : BoolOp} (h : asBool x = some (op, l, r)) : ∃ p, x = .BoolOp op [l, r] p ∨ ∃ y z s, r = .BoolOp op (y :: z :: s) p ∧ x = .BoolOp op (l :: y :: z :: s) p := by
  unfold asBool at h
  split at h
  · cases h; exact ⟨_, .inl rfl⟩
  · cases h; exact ⟨_, .inr ⟨_, _, _, rfl, rfl⟩⟩
  · cases h
theorem asIf_of {x t l r : Expr} (h : asIf x = some (t, l, r)) : ∃ p, x = .IfExp t l r p := by
  cases x <;> first | (cases h; exact ⟨_, rfl⟩) | cases h
theorem asTup_of {x : Expr} {xs : List Expr} (h : asTup x = some xs) : ∃ k p, x = .Tuple xs k p := by
  cases x <;> first | (cases h; exact ⟨_, _, rfl⟩) | cases h
theorem asLst_of {x : Expr} {xs : List Expr} (h : asLst x = some xs) : ∃ p, x = .List xs p := by
  cases x <;> first | (cases h; exact ⟨_, rfl⟩) | cases h
theorem asSub_of {x l r : Expr} (h : asSub x = some (l, r)) : ∃ p, x = .Subscript l r p := by
  cases x <;> first | (cases h; exact ⟨_, rfl⟩) | cases h
theorem asSli_of {x : Expr} {l r : Option Expr} (h : asSli x = some (l, r)) : ∃ p, x = .Slice l r none p := by
  unfold asSli at h
  split at h
  · cases h; exact ⟨_, rfl⟩
  · cases h
theorem isRev_of {x : Expr} (h : isRev x = true) : ∃ k p1 p2 p3, x = .Slice none none (some (.UnaryOp .USub (.Constant (.int 1) k p1) p2)) p3 := by
  unfold isRev at h
  split at h
  · exact ⟨_, _, _, _, rfl⟩
  · cases h
theorem asCall_of {x : Expr} {n : Str} {xs : List Expr} (h : asCall x = some (n, xs)) : ∃ q p, x = .Call (.Name n q) xs [] p := by
  unfold asCall at h
  split at h
  · cases h; exact ⟨_, _, rfl⟩
  · cases h
theorem isMinKw_of {k : List Keyword} (h : isMinKw k = true) : ∃ q j c k1 k2, k = [⟨some ("key" : Str), .Name ("len" : Str) q, k1⟩, ⟨some ("default" : Str), .Constant .none j c, k2⟩] := by
  unfold isMinKw at h
  split at h
  · simp only [Bool.and_eq_true, decide_eq_true_eq] at h
    obtain ⟨rfl, rfl, rfl⟩ := h
    exact ⟨_, _, _, _, _, rfl⟩
  · cases h
theorem asMin_of {x y : Expr} (h : asMin x = some y) : ∃ p pos q j c k1 k2, x = .Call (.Name ("min" : Str) p) [y] [⟨some ("key" : Str), .Name ("len" : Str) q, k1⟩, ⟨some ("default" : Str), .Constant .none j c, k2⟩] pos := by
  unfold asMin at h
  split at h
  · split at h
    · rename_i h2
      simp only [Bool.and_eq_true, decide_eq_true_eq] at h2
      obtain ⟨rfl, h3⟩ := h2
      obtain ⟨q, j, c, k1, k2, rfl⟩ := isMinKw_of h3
      cases h
      exact ⟨_, _, _, _, _, _, _, rfl⟩
    · cases h
  · cases h
theorem asMeth_of {x o : Expr} {a : Str} {xs : List Expr} (h : asMeth x = some (o, a, xs)) : ∃ ap cp, (ap.endLine == cp.line) = true ∧ x = .Call (.Attribute o a ap) xs [] cp := by
  unfold asMeth at h
  split at h
  · split at h
    · rename_i h2
      cases h
      exact ⟨_, _, h2, rfl⟩
    · cases h
  · cases h
theorem asLc_of {x elt tg iter : Expr} {ifs : List Expr} {s : Scope} (h : asLc x = some (elt, tg, iter, ifs, s)) : ∃ p, x = .ListComp elt [⟨tg, iter, ifs, 0⟩] s p := by
  unfold asLc at h
  split at h
  · split at h
    · rename_i h2
      cases h
      subst h2
      exact ⟨_, rfl⟩
    · cases h
  · cases h
end J
end
section
set_option Elab.async false
set_option linter.all false
set_option autoImplicit false
set_option maxRecDepth 100000
set_option maxHeartbeats 1000000
/-! JQ: the stores of a written tuple into names. -/
namespace J
open PySem L2
theorem sws2 {x y : Str} {px py pt pt2 : Pos} {kt k2} {a b : Expr} {env : PySem.Env} (hx : env.kindOf x = some .local) (hy : env.kindOf y = some .local) (hb : env.blockKind = .function) (hl : (py.line == px.line) = true) (hn : ([x, y].eraseDups.length == 2) = true)
    (ha : plainE a = true) (hb2 : plainE b = true) (h1 : [a, b].all (foldedForSure 8) = false) (h2 : [a, b].all (constantsAlone 8) = false) :
    swappedStores [.Tuple [.Name x px, .Name y py] kt pt] (.Tuple [a, b] k2 pt2) env = pure (some [x, y]) := by
  have hs : ([a, b].any fun | .Starred .. => true | _ => false) = false := by
    simp only [List.any_cons, List.any_nil, Bool.or_false, Bool.or_eq_false_iff]
    refine ⟨?_, ?_⟩
    · cases a <;> first | rfl | cases ha
    · cases b <;> first | rfl | cases hb2
  have hl2 : (py.line == px.line) = true := hl
  simp only [swappedStores, hs, hb, h1, h2, List.filterMap, hx, hy, hl2, Expr.pos, List.head?, Option.map, Option.getD, List.length, hn, beq_self_eq_true, Bool.and_self, if_true]
  have hn2 : [x, y].eraseDups.length = 2 := eq_of_beq hn
  exact (if_neg (by decide)).trans ((if_neg (fun z => by cases hs.symm.trans z)).trans ((if_neg (by rw [hn2]; decide)).trans rfl))
theorem sws3 {x y z : Str} {px py pz pt pt2 : Pos} {kt k2} {a b c : Expr} {env : PySem.Env} (hx : env.kindOf x = some .local) (hy : env.kindOf y = some .local) (hz : env.kindOf z = some .local) (hb : env.blockKind = .function) (hl : (py.line == px.line) = true) (hl3 : (pz.line == px.line) = true) (hn : ([x, y, z].eraseDups.length == 3) = true)
    (ha : plainE a = true) (hb2 : plainE b = true) (hc2 : plainE c = true) (h1 : [a, b, c].all (foldedForSure 8) = false) (h2 : [a, b, c].all (constantsAlone 8) = false) :
    swappedStores [.Tuple [.Name x px, .Name y py, .Name z pz] kt pt] (.Tuple [a, b, c] k2 pt2) env = pure (some [x, y, z]) := by
  have hs : ([a, b, c].any fun | .Starred .. => true | _ => false) = false := by
    simp only [List.any_cons, List.any_nil, Bool.or_false, Bool.or_eq_false_iff]
    refine ⟨?_, ?_, ?_⟩
    · cases a <;> first | rfl | cases ha
    · cases b <;> first | rfl | cases hb2
    · cases c <;> first | rfl | cases hc2
  simp only [swappedStores, hs, hb, h1, h2, List.filterMap, hx, hy, hz, hl, hl3, Expr.pos, List.head?, Option.map, Option.getD, List.length, hn, beq_self_eq_true, Bool.and_self, if_true]
  have hn2 : [x, y, z].eraseDups.length = 3 := eq_of_beq hn
  exact (if_neg (by decide)).trans ((if_neg (fun z => by cases hs.symm.trans z)).trans ((if_neg (by rw [hn2]; decide)).trans rfl))
end J
end
section
set_option Elab.async false
set_option linter.all false
set_option autoImplicit false
set_option maxRecDepth 100000
set_option maxHeartbeats 4000000
/-! J9: the check is sound: expressions. -/
namespace J
open PySem L2 PyProof.Rows
open IL (D Ow Slot Val CR RV Fl Bop Cop Tg wipeE ownIx putBack argSlot CE CEs CT CO CI CS CB Fn Mt)
open DG (Clr FnG FnX)
open L2H (RoomH)
/-- what a def promises where the exception p is handled -/
def spH (K : PySem.W.Frag) (xv : Nat → Value) (m n : Nat) (F : Env → CR) : Addr × Obj → Sp := fun p vs H Q E => ∃ xc : XC, xc.a = p.1 ∧ xc.c < m ∧ L2N.Zn (xv xc.c) (some xc.dd) p.2 ∧ spF ⟨K, some xc⟩ xv n F vs H Q E
/-- a constant as a value -/
def constV : Const → V
  | .int i => .int i
  | .str s => .str s
  | .bool b => .bl b
  | _ => .non
/-- what the module says of the classes of exceptions, over all fields -/
structure XsOk (K : PySem.W.Frag) (mg : Str → Option Value) (P : Program) (w : World) (base : Heap) (fields : List Str) (v : Value) (n f : Str) : Prop where
  ex : ∃ A fI fd ps k, v = .ref A ∧ mg n = some (.ref A) ∧ OexC K A ∧ ExcX K A ∧ (∀ g ∈ fields, PySem.W.findIn K (.ref A) g = some none) ∧ PySem.W.findIn K (.ref A) "__init__" = some (some (.ref fI)) ∧ PySem.W.typeIn K (.ref fI) = some (.type "function") ∧
    (∀ CX, FnOk P w K mg base CX k fI fd ps (XI.spXi A f)) ∧ k ≤ 2 ∧ Binds K fd ps []
structure XbOk (K : PySem.W.Frag) (mg : Str → Option Value) (xv : Nat → Value) (c : V) (n : Str) (cs ns : List Nat) : Prop where
  ex : ∃ (cv : Value), RelV c cv ∧ (∀ u, RelV c u → u = cv) ∧ (mg n = some cv ∨ (mg n = none ∧ bootBuiltins n = some cv ∧ n ≠ "__name__")) ∧
    (∀ e ∈ cs, PySem.W.exmOne K (xv e) cv = some true ∧ PySem.W.kitOne K (xv e) cv = some true) ∧ ∀ e ∈ ns, PySem.W.exmOne K (xv e) cv = some false ∧ PySem.W.kitOne K (xv e) cv = some false
/-- what holds of the context in which a checked text runs -/
structure Good (C : Ctx) (w : World) (call : Nat → Env → CR) (sc : Sc) (X : Cx) : Prop where
  k : X.K = C.K.K
  w : X.w = w
  N : X.N = sc.N
  nd : X.N.Nodup
  scope : X.env.scope = sc.scope
  calm : sc.calm = true → X.calm = true
  nox : sc.calm = true → C.K.xc = none
  clr : Clr X.A
  hu : X.A.units + 64 < cLine
  po : PassesOwn (model X.prog X.w) X.A X.env X.xe
  tk : L2N.Takes X (fun cls d σ H => C.es σ cls d H)
  mg : ∀ b ∈ blts, X.mg b = none
  fn : sc.top = true → ∀ x, X.fn x = true
  stk : sc.top = true → X.stack = X.env :: X.outer ∧ X.env.frame = some X.env.locals
  room : sc.calm = true → Room 3 X.A
  calls : sc.calm = true → ∀ f x n, sc.fs[f]? = some (x, n) → ∃ fa fd ps k, X.mg x = some (.ref fa) ∧ ps.length = n ∧ FnG X.prog X.w X.K X.mg X.base (L2N.CX X.prog X.w) k fa fd ps (spF ⟨X.K, none⟩ C.xv n (call f)) ∧ Room k X.A ∧ PySem.W.keepIn X.K (.ref fa) = true ∧ Binds X.K fd ps []
  hots : ∀ f x n, sc.fs[f]? = some (x, n) → f ∈ sc.hot → ∃ fa fd ps k, X.mg x = some (.ref fa) ∧ ps.length = n ∧ FnX X.prog X.w X.K X.mg X.base (L2N.CX X.prog X.w) k fa fd ps (spH X.K C.xv sc.xs.length n (call f)) ∧ RoomH k X.A ∧ PySem.W.keepIn X.K (.ref fa) = true ∧ Binds X.K fd ps []
  gc : ∀ x c, sc.gc.lookup x = some c → ∃ u, X.mg x = some u ∧ RelV (constV c) u
  xs : ∀ (c : Nat) (n f : Str), sc.xs[c]? = some (n, f) → XsOk X.K X.mg X.prog X.w X.base (sc.xs.map (·.2)) (C.xv c) n f
  xb : ∀ n cs ns, sc.xb.lookup n = some (cs, ns) → (∀ c ∈ cs, c < sc.xs.length) ∧ XbOk X.K X.mg C.xv (C.nv n) n cs ns
  hand : ∀ x, C.K.xc = some x → (∃ n f, sc.xs[x.c]? = some (n, f)) ∧ ∃ oe : Obj, (x.a, oe) ∈ X.pn ∧ L2N.Zn (C.xv x.c) (some x.dd) oe ∧ (∃ vs, oe.data = .fields vs) ∧ X.A.handled = some (.ref x.a)
  hx : sc.calm = false → ∃ x, C.K.xc = some x
section
variable {C : Ctx} {w : World} {call : Nat → Env → CR} {sc : Sc} {X : Cx}
theorem Good.vis (g : Good C w call sc X) {x : Str} (h : visB sc x = true) : Vis X.env.scope x := by
  rw [g.scope]
  unfold visB at h
  unfold Vis
  split at h
  · rename_i e; exact .inl e
  · rename_i e; exact .inr (.inl e)
  · rename_i e; exact .inr (.inr e)
  · cases h
theorem Good.gl (g : Good C w call sc X) {x : Str} (h : glB sc x = true) : Gl X x := by
  unfold glB at h
  unfold Gl Env.kindOf
  rw [g.scope]
  split at h
  · rename_i e; exact e
  · cases h
theorem okN_1 {x : Str} (h : okN x = true) : (x == ("__debug__" : Str)) = false ∧ (x == ("__classdict__" : Str)) = false := by
  simp only [okN, Bool.and_eq_true, Bool.not_eq_true'] at h
  exact h
theorem star_of {e : Expr} {es : List Expr} {env : PySem.Env} (h : plainE e = true) : starEach (e :: es) env = (false, eval e env) :: starEach es env := by
  cases e <;> first | rfl | cases h
theorem asgn_of {e : Expr} {es : List Expr} {env : PySem.Env} (h : plainE e = true) : assignEach (e :: es) env = (false, assign e env) :: assignEach es env := by
  cases e <;> first | rfl | cases h
theorem fold_of {e : Expr} {env : PySem.Env} (h : plainE e = true) : ∀ x, foldedSetIterable e env x = pure x := by
  intro x
  cases e <;> first | rfl | cases h
theorem ix_of {e : Expr} (h : plainE e = true) : PlainIx e := by
  intro o i
  cases e <;> first | rfl | cases h
theorem mark_of {e : Expr} {op : CmpOp} (h : plainE e = true) : behindInMarks op e = false := by
  cases e <;> first | rfl | cases h
theorem sole_of {tg e : Expr} {l : Nat} {env : PySem.Env} (h : notComp e = true) : swapsWithSole [tg] e l env = pure false := by
  cases e <;> first | rfl | cases h
theorem expr_of {e : Expr} {l : Nat} {env : PySem.Env} (h : notComp e = true) : swapsWith e none l env = pure false := by
  cases e <;> first | rfl | cases h
theorem truth_of {e : Expr} {env : PySem.Env} (h : plainT e = true) : ∀ whole, isTrue e env whole = (do let v ← whole; standAt e.pos; holding [v] (truthy v)) := by
  intro whole
  cases e <;> first | rfl | cases h
theorem pw_of_bool {op : BoolOp} {vs : List Expr} {pos : Pos} {t : TT} (h : PT X (.BoolOp op vs pos) t) : PW X (.BoolOp op vs pos) t := ⟨fun whole pins s σ H Q I q => h.run pins s σ H Q I q⟩
theorem any_of : ∀ {es : List Expr} {env : PySem.Env} {pos : Pos}, (∀ e ∈ es, plainE e = true) → (backTo pos (starEach es env)).any (·.1) = false
  | [], env, pos, _ => rfl
  | e :: es, env, pos, h => by
    rw [star_of (h e List.mem_cons_self)]
    show (false || (backTo pos (starEach es env)).any (·.1)) = false
    rw [any_of fun e he => h e (List.mem_cons_of_mem _ he)]
    rfl
theorem chkEs_plain : ∀ {cs : CEs} {es : List Expr}, chkEs cs sc es = true → ∀ e ∈ es, plainE e = true
  | .nil, [], _, e, he => by cases he
  | .nil, _ :: _, h, e, he => by cases h
  | .cons c cs, [], h, e, he => by cases he
  | .cons c cs, x :: xs, h, e, he => by
    simp only [chkEs, Bool.and_eq_true] at h
    rcases List.mem_cons.mp he with z | z
    · rw [z]; exact h.2.1
    · exact chkEs_plain h.2.2 e z
/-- in a comprehension's block -/
theorem Good.blk (g : Good C w call sc X) {s : Scope} (hk : isFun sc.scope.kind = true) (hs : isFun s.kind = true) (hc : sc.calm = true) (s0 : Shared) (H : Hp) (Ca : Addr) (cl : List (Str × Addr)) (fp : List Addr) : Good (C.un fun _ _ _ _ => False) w call (sc.blk s) (X.blk s0 H s (compEnvC s cl Ca X.env) fp) where
  k := g.k
  w := g.w
  N := g.N
  nd := g.nd
  scope := by
    show (compEnvC s cl Ca X.env).scope = relS s sc.scope
    rw [← g.scope]
    rfl
  calm := g.calm
  nox := g.nox
  clr := g.clr
  hu := g.hu
  po := PassesOwn.never
  tk := fun u s' ⟨_, _, _, _, _, _, _, _, _, _, _, _, _, _, _, _, z⟩ => z
  mg := g.mg
  fn := fun h => by cases h
  stk := fun h => by cases h
  room := g.room
  calls := g.calls
  hots := g.hots
  gc := g.gc
  xs := g.xs
  xb := g.xb
  hand := fun x hx => by
    have z : C.K.xc = some x := hx
    rw [g.nox hc] at z
    cases z
  hx := fun h => by
    have z : sc.calm = false := h
    rw [hc] at z
    cases z
theorem chkName_ok {i : Nat} {e : Expr} (h : chkName sc i e = true) : ∀ X, Good C w call sc X → PE X e (tVar i) := fun X g => by
  cases e with
  | Name x p =>
    simp only [chkName, Bool.and_eq_true, decide_eq_true_eq] at h
    obtain ⟨h1, h2, h3⟩ := h
    exact pe_var (by rw [g.N]; exact h1) (g.vis h2) (okN_1 h3).1 (okN_1 h3).2
  | _ => cases h
theorem chkTgt_ok {i : Nat} {e : Expr} (h : chkTgt sc i e = true) : ∀ X, Good C w call sc X → PG X e (gName i) := fun X g => by
  cases e with
  | Name x p =>
    simp only [chkTgt, Bool.and_eq_true, decide_eq_true_eq] at h
    obtain ⟨h1, h2⟩ := h
    unfold putB at h2
    split at h2
    · rename_i e
      refine pg_name g.nd (by rw [g.N]; exact h1) (.inl ?_) (.inr ?_) <;> (rw [g.scope]; exact e)
    · rename_i e
      exact pg_name g.nd (by rw [g.N]; exact h1) (.inr (by rw [g.scope]; exact e)) (.inl (g.fn h2 x))
    · cases h2
  | _ => cases h
theorem chkTgts_ok : ∀ {is : List Nat} {es : List Expr}, chkTgts sc is es = true → ∃ gs, (∀ X, Good C w call sc X → PGs X es gs) ∧ JGs C is gs (IL.bindAll C.kp is) ∧ ∀ env, (assignEach es env).length = is.length ∧ (assignEach es env).findIdx? (·.1) = none
  | [], [], _ => ⟨gNil, fun X _ => pgs_nil, jgs_nil, fun env => ⟨rfl, rfl⟩⟩
  | i :: is, e :: es, h => by
    simp only [chkTgts, Bool.and_eq_true] at h
    obtain ⟨h1, h2, h3⟩ := h
    obtain ⟨gs, q1, q2, q3⟩ := chkTgts_ok (is := is) (es := es) h3
    refine ⟨gCons (gName i) gs, fun X g => pgs_cons (chkTgt_ok h1 X g) (q1 X g) (by rw [asgn_of h2]; rfl), jgs_cons q2, fun env => ?_⟩
    rw [asgn_of h2]
    refine ⟨by rw [List.length_cons, (q3 env).1, List.length_cons], ?_⟩
    rw [List.findIdx?_cons, (q3 env).2]
    rfl
  | [], _ :: _, h => by cases h
  | _ :: _, [], h => by cases h
theorem chkG_ok {t : Tg} {e : Expr} (h : chkG sc t e = true) : ∃ gt, (∀ X, Good C w call sc X → PG X e gt) ∧ JG C (tgIx t) gt (IL.bindT C.kp t) := by
  cases t with
  | name i => exact ⟨gName i, chkTgt_ok h, jg_name⟩
  | tup is =>
    cases e with
    | Tuple es k p =>
      obtain ⟨hc, h⟩ := Bool.and_eq_true_iff.mp (show (sc.calm && chkTgts sc is es) = true from h)
      obtain ⟨gs, q1, q2, q3⟩ := chkTgts_ok (C := C) (w := w) (call := call) h
      exact ⟨gTup C.K is.length gs, fun X g => by
        have z := pg_tup (g.calm hc) (q1 X g) (q3 X.env).1 (q3 X.env).2 (k := k) (pos := p)
        rw [g.k] at z
        exact z, jg_tup q2⟩
    | _ => cases h
/-- a comprehension: its parts -/
theorem lc_ok {g : Tg} {vs : List Nat} {tg iter elt : Expr} {ifs : List Expr} {s : Scope} {wi : TI} {gt : TG} {tt : TT} {te : TE}
    (hp : plainE iter = true) (hb : blkC sc.N sc.scope s (ownOf sc vs) = true) (hk : isFun sc.scope.kind = true) (hs : isFun s.kind = true) (hc : sc.calm = true)
    (hi : ∀ X, Good C w call sc X → PI X tg iter wi) (hg : ∀ X, Good (C.un fun _ _ _ _ => False) w call (sc.blk s) X → PG X tg gt) (ht : ∀ X, Good (C.un fun _ _ _ _ => False) w call (sc.blk s) X → PTs X ifs tt) (he : ∀ X, Good (C.un fun _ _ _ _ => False) w call (sc.blk s) X → PE X elt te) (pos : Pos) :
    ∀ X, Good C w call sc X → PE X (.ListComp elt [⟨tg, iter, ifs, 0⟩] s pos) (tLc wi gt tt te vs) := fun X G => by
  have e : (ownOf sc vs).map (·.2) = vs := by
    unfold ownOf
    rw [List.map_map]
    exact List.map_id _
  have z := pe_lc (X := X) (pos := pos) (G.calm hc) G.nd (hi X G) (own := ownOf sc vs) (blkOk_by (by rw [G.N, G.scope]; exact hb)) (fun s0 H Ca cl fp => hg _ (G.blk hk hs hc s0 H Ca cl fp)) (fun s0 H Ca cl fp => ht _ (G.blk hk hs hc s0 H Ca cl fp)) (fun s0 H Ca cl fp => he _ (G.blk hk hs hc s0 H Ca cl fp)) (fold_of hp)
  rw [e] at z
  exact z
theorem setLc_ok {i : Nat} {g : Tg} {vs : List Nat} {tg iter elt : Expr} {ifs : List Expr} {s : Scope} {wi : TI} {gt : TG} {tt : TT} {te : TE} {y : Str} {py : Pos} {pos spos : Pos}
    (hp : plainE iter = true) (hb : blkC sc.N sc.scope s (ownOf sc vs) = true) (hk : isFun sc.scope.kind = true) (hs : isFun s.kind = true) (hc : sc.calm = true)
    (hi : ∀ X, Good C w call sc X → PI X tg iter wi) (hg : ∀ X, Good (C.un fun _ _ _ _ => False) w call (sc.blk s) X → PG X tg gt) (ht : ∀ X, Good (C.un fun _ _ _ _ => False) w call (sc.blk s) X → PTs X ifs tt) (he : ∀ X, Good (C.un fun _ _ _ _ => False) w call (sc.blk s) X → PE X elt te)
    (hy : sc.N[i]? = some y) (hl : sc.scope.names.lookup y = some .local) (hsw : ∀ X : Cx, X.env.scope = sc.scope → swapsWith (.ListComp elt [⟨tg, iter, ifs, 0⟩] s pos) (some (.Name y py)) spos.line X.env = pure true) :
    ∀ X, Good C w call sc X → PS X (.Assign [.Name y py] (.ListComp elt [⟨tg, iter, ifs, 0⟩] s pos) spos) (tAsg (tLc wi gt tt te vs) (gName i)) := fun X G => by
  have e : (ownOf sc vs).map (·.2) = vs := by
    unfold ownOf
    rw [List.map_map]
    exact List.map_id _
  have z := ps_setLc (X := X) (i := i) (G.calm hc) G.nd (by rw [G.N]; exact hy) (by rw [G.scope]; exact hl) (hsw X G.scope) (hi X G) (own := ownOf sc vs) (blkOk_by (by rw [G.N, G.scope]; exact hb)) (fun s0 H Ca cl fp => hg _ (G.blk hk hs hc s0 H Ca cl fp)) (fun s0 H Ca cl fp => ht _ (G.blk hk hs hc s0 H Ca cl fp)) (fun s0 H Ca cl fp => he _ (G.blk hk hs hc s0 H Ca cl fp)) (fold_of hp)
  rw [e] at z
  exact z
end
end J
end
section
set_option Elab.async false
set_option linter.all false
set_option autoImplicit false
set_option maxRecDepth 100000
set_option maxHeartbeats 4000000
/-! J10: the check is sound: expressions, by the small language's text. -/
namespace J
open PySem L2 PyProof.Rows
open IL (D Ow Slot Val CR RV Fl Bop Cop Tg wipeE ownIx putBack argSlot CE CEs CT CO CI CS CB Fn Mt)
open DG (Clr FnG)
/-- the reading of arguments: values, data -/
def SndE (C : Ctx) (w : World) (call : Nat → Env → CR) (c : CE) (sc : Sc) (x : Expr) : Prop := ∃ te, (∀ X, Good C w call sc X → PE X x te) ∧ JE (relV C.K) C te (IL.ev ⟨C.kp, call⟩ c)
def SndT (C : Ctx) (w : World) (call : Nat → Env → CR) (c : CT) (sc : Sc) (x : Expr) : Prop := ∃ te, (∀ X, Good C w call sc X → PT X x te) ∧ JE (relE Bool) C te (IL.evT ⟨C.kp, call⟩ c)
def SndD (C : Ctx) (w : World) (call : Nat → Env → CR) (c : CEs) (sc : Sc) (xs : List Expr) : Prop := ∃ ta, (∀ X, Good C w call sc X → PA X xs ta) ∧ JE (relDs C.K) C ta (IL.evD ⟨C.kp, call⟩ c) ∧ JE (relVs C.K) C ta (IL.evA ⟨C.kp, call⟩ c)
/-- the parts of an f-string -/
def JF (C : Ctx) (ts : List TE) (f : Str → Env → IL.R Str) : Prop := ∀ acc δ σ G H, Stt C.K δ σ G H → ∀ Q : Str → Hp → Prop, Want (relE Str) C δ σ G H (f acc δ) Q → tJs ts acc σ H Q
def SndF (C : Ctx) (w : World) (call : Nat → Env → CR) (c : CEs) (sc : Sc) (xs : List Expr) : Prop := ∃ ts, (∀ X, Good C w call sc X → PJ X xs ts) ∧ JF C ts (IL.evF ⟨C.kp, call⟩ c)
theorem jf_cons {C : Ctx} {te : TE} {ts : List TE} {fe : Env → IL.R Val} {fr : Str → Env → IL.R Str} (h : JE (relV C.K) C te fe) (hr : JF C ts fr) :
    JF C (tFmt te :: ts) (fun acc δ => (fe δ).bind fun v δ1 => (IL.dem C.kp v δ1).bind fun d δ2 => match IL.fmtD d with
      | some s => if (acc ++ s).length ≤ sizeLine then fr (acc ++ s) δ2 else .no
      | none => .no) := fun acc δ σ G H S Q w =>
  h δ σ G H S _ (want_demRk back_E w fun d δ1 v G1 H1 a r w1 => by
    cases d with
    | str s =>
      simp only [IL.fmtD] at w1
      by_cases hz : s.length ≤ sizeLine
      · rw [if_pos hz] at w1
        simp only at w1
        by_cases hy : (acc ++ s).length ≤ sizeLine
        · rw [if_pos hy] at w1
          exact .inl ⟨s, r.str_of, hz, s, rfl, hy, hr _ δ1 σ G1 H1 a.st Q w1⟩
        · rw [if_neg hy] at w1
          exact w1.elim
      · rw [if_neg hz] at w1
        exact w1.elim
    | int i =>
      simp only [IL.fmtD] at w1
      by_cases hz : i.natAbs.log2 < 1920
      · rw [if_pos hz] at w1
        simp only at w1
        by_cases hy : (acc ++ PySem.Str.ofString (toString i)).length ≤ sizeLine
        · rw [if_pos hy] at w1
          exact .inr ⟨i, r.int_of, hz, _, rfl, hy, hr _ δ1 σ G1 H1 a.st Q w1⟩
        · rw [if_neg hy] at w1
          exact w1.elim
      · rw [if_neg hz] at w1
        exact w1.elim
    | _ => exact w1.elim)
/-- a written part -/
theorem pe_fmtC {X : Cx} {s : Str} {k : Nat} {p : Pos} : PE X (.Constant (.str s) k p) (tFmt (tC (.str s))) := ⟨fun pins z σ H Q I h => (pe_str (X := X)).run pins z σ H Q I (by
  rcases h with ⟨y, e, _, q⟩ | ⟨i, e, _⟩
  · cases e
    exact q
  · cases e)⟩
def SndO (C : Ctx) (w : World) (call : Nat → Env → CR) (c : CO) (sc : Sc) (x : Option Expr) : Prop := ∃ to, (∀ X, Good C w call sc X → PO X x to) ∧ JE (relE (Option Int)) C to (IL.evO ⟨C.kp, call⟩ c)
def SndI (C : Ctx) (w : World) (call : Nat → Env → CR) (c : CI) (sc : Sc) (x : Expr) : Prop := ∃ wi, (∀ X tg, Good C w call sc X → PI X tg x wi) ∧ JE (relI C.K) C wi (IL.evI ⟨C.kp, call⟩ c)
section
variable {C : Ctx} {w : World} {call : Nat → Env → CR} {sc : Sc}
/-! ### built-in functions -/
def isTy : Fn → Bool
  | .str => true
  | .int => true
  | .tuple => true
  | .list => true
  | _ => false
theorem mem_blts {f : Fn} : fnName f ∈ blts := by
  cases f <;> decide +kernel
theorem fn_ok {X : Cx} (g : Good C w call sc X) {f : Fn} (h1 : f ≠ .sortedSet) (h2 : f ≠ .minLen) (hc : hotFn f = true → sc.calm = true) {x : Expr} {xs : List Expr} {p pos : Pos} {t : TA} (hg : glB sc (fnName f) = true) (hp : ∀ e ∈ x :: xs, plainE e = true) (ha : PA X (x :: xs) t) :
    PE X (.Call (.Name (fnName f) p) (x :: xs) [] pos) (tCB (rFn C.K f) t) := by
  have gl := g.gl hg
  have mg := g.mg _ (mem_blts (f := f))
  have he := star_of (es := xs) (env := X.env) (hp x List.mem_cons_self)
  have hl := any_of (env := X.env) (pos := pos) fun e h => hp e (List.mem_cons_of_mem _ h)
  have k := g.k
  rw [← k]
  cases f with
  | len => exact pe_callB call_len gl mg (by decide +kernel) ha (by decide) (by decide) he hl
  | str => exact pe_callTy (DR.or_call call_str_int SkE.call_str_str) gl mg (by decide +kernel) ha (by decide) (by decide) he hl
  | int => exact pe_callTy (DR.or_call call_int1 call_int_str) gl mg (by decide +kernel) ha (by decide) (by decide) he hl
  | abs => exact pe_callB call_abs gl mg (by decide +kernel) ha (by decide) (by decide) he hl
  | sum => exact pe_callB (cr_sum (g.calm (hc rfl))) gl mg (by decide +kernel) ha (by decide) (by decide) he hl
  | min2 => exact pe_callB (call_min2 (g.calm (hc rfl))) gl mg (by decide +kernel) ha (by decide) (by decide) he hl
  | max2 => exact pe_callB (call_max2 (g.calm (hc rfl))) gl mg (by decide +kernel) ha (by decide) (by decide) he hl
  | any => exact pe_callB (cr_any (g.calm (hc rfl))) gl mg (by decide +kernel) ha (by decide) (by decide) he hl
  | all => exact pe_callB (cr_all (g.calm (hc rfl))) gl mg (by decide +kernel) ha (by decide) (by decide) he hl
  | tuple => exact pe_callTy call_tuple_of gl mg (by decide +kernel) ha (by decide) (by decide) he hl
  | list => exact pe_callTy call_list_of gl mg (by decide +kernel) ha (by decide) (by decide) he hl
  | repr => exact pe_callB (DR.call_qRepr g.clr g.hu) gl mg (by decide +kernel) ha (by decide) (by decide) he hl
  | sorted => exact pe_callB (DR.or_call JL.cr_sortedAny (JS.cr_sortData g.hu)) gl mg (by decide +kernel) ha (by decide) (by decide) he hl
  | sortedSet => exact absurd rfl h1
  | minLen => exact absurd rfl h2
theorem mapM_tps {C : Ctx} {δ : Env} {σ : St} {G H H0 : Hp} (S : Stt C.K δ σ G H) : ∀ {vs : List V} {as : List Val} {ds : List D}, ValsR C.K σ δ H0 G H vs as → as.mapM (IL.cur δ) = some ds → Tps C.K G H vs ds
  | [], [], ds, _, h => by
    cases h
    exact .nil
  | v :: vs, a :: as, ds, r, h => by
    rw [List.mapM_cons] at h
    cases e1 : IL.cur δ a with
    | none => rw [e1] at h; cases h
    | some d =>
      rw [e1] at h
      cases e2 : as.mapM (IL.cur δ) with
      | none => rw [e2] at h; cases h
      | some es =>
        rw [e2] at h
        cases h
        exact .cons (cur_tp S r.1 e1) (mapM_tps S r.2.1 e2)
  | [], _ :: _, _, r, _ => r.elim
  | _ :: _, [], _, r, _ => r.elim
theorem je_bi {C : Ctx} {f : Fn} {ta : TA} {fa : Env → IL.R (List Val)} (h1 : f ≠ .sortedSet) (ha : JE (relVs C.K) C ta fa) : JE (relV C.K) C (tCB (rFn C.K f) ta) (fun δ => (fa δ).bind fun as δ1 => IL.optR δ1 ((as.mapM (IL.cur δ1)).bind (IL.fn f))) := fun δ σ G H S Q q =>
  ha δ σ G H S _ (want_bind back_V q fun as δ1 vs G1 H1 a r q1 => want_opt q1 fun x hx q2 => by
    cases e : as.mapM (IL.cur δ1) with
    | none => rw [e] at hx; cases hx
    | some ds =>
      rw [e] at hx
      exact fn_do f a.st h1 (mapM_tps a.st r e) hx q2)
/-! ### sorted(set(x)) -/
theorem mem_uniqI {z : Int} : ∀ {ns : List Int}, z ∈ IL.uniqI ns ↔ z ∈ ns
  | [] => Iff.rfl
  | n :: ns => by
    unfold IL.uniqI
    split
    · rename_i h
      rw [mem_uniqI, List.mem_cons]
      exact ⟨.inr, fun q => q.elim (fun e => e ▸ h) id⟩
    · rw [List.mem_cons, List.mem_cons, mem_uniqI]
theorem nodup_uniqI : ∀ ns : List Int, (IL.uniqI ns).Nodup
  | [] => List.nodup_nil
  | n :: ns => by
    unfold IL.uniqI
    split
    · exact nodup_uniqI ns
    · rename_i h
      exact List.nodup_cons.mpr ⟨fun q => h (mem_uniqI.mp q), nodup_uniqI ns⟩
theorem sset_of {ds : List D} {x : Val} (h : IL.fn .sortedSet ds = some x) : ∃ es ns, (ds = [.list es] ∨ ds = [.tuple es]) ∧ IL.asInts es = some ns ∧ ns.length < 60 ∧ x = .new (.lst (IL.intsD (IL.sortI (IL.uniqI ns)))) := by
  have fin : ∀ es, (IL.asInts es).bind (fun ns => if ns.length < 60 then some (Val.new (.lst (IL.intsD (IL.sortI (IL.uniqI ns))))) else none) = some x → ∃ ns, IL.asInts es = some ns ∧ ns.length < 60 ∧ x = .new (.lst (IL.intsD (IL.sortI (IL.uniqI ns)))) := fun es q => by
    cases e : IL.asInts es with
    | none => rw [e] at q; cases q
    | some ns =>
      rw [e] at q
      simp only [Option.bind_some] at q
      split at q
      · rename_i hz
        cases q
        exact ⟨ns, rfl, hz, rfl⟩
      · cases q
  match ds, h with
  | [], h => cases h
  | [.list es], h =>
    obtain ⟨ns, a, b, c⟩ := fin es h
    exact ⟨es, ns, .inl rfl, a, b, c⟩
  | [.tuple es], h =>
    obtain ⟨ns, a, b, c⟩ := fin es h
    exact ⟨es, ns, .inr rfl, a, b, c⟩
  | [.none], h => cases h
  | [.bool _], h => cases h
  | [.int _], h => cases h
  | [.str _], h => cases h
  | [.dict _], h => cases h
  | d :: e :: r, h => exact absurd h (by simp [IL.fn])
theorem je_sortedSet {C : Ctx} {ta : TA} {fa : Env → IL.R (List Val)} (ha : JE (relVs C.K) C ta fa) : JE (relV C.K) C (tCB (rSortedSet w) (tCons (tCB (DS.qSetI C.K w) ta) tNil)) (fun δ => (fa δ).bind fun as δ1 => IL.optR δ1 ((as.mapM (IL.cur δ1)).bind (IL.fn .sortedSet))) := fun δ σ G H S Q q => by
  show ta σ H fun us H1 => DS.qSetI C.K w us H1 fun y H2 => tNil σ H2 fun ys H3 => rSortedSet w (y :: ys) H3 Q
  refine ha δ σ G H S _ (want_bind back_V q fun as δ1 vs G1 H1 a r q1 => want_opt q1 fun x hx q2 => ?_)
  cases e : as.mapM (IL.cur δ1) with
  | none => rw [e] at hx; cases hx
  | some ds =>
    rw [e] at hx
    have tp := mapM_tps a.st r e
    obtain ⟨es, ns, hd, ei, hz, ex⟩ := sset_of hx
    subst ex
    have hs : ∃ p, vs = [.ref p] ∧ (SqL C.K H1 p (ns.map V.int) ∨ SqT C.K H1 p (ns.map V.int)) := by
      rcases hd with hd | hd
      · subst hd
        obtain ⟨v, rfl, t1⟩ := tps1 tp
        obtain ⟨p, us, rfl, hp, hu⟩ := t1.list_of a.st.gh
        rw [asInts_of ei] at hu
        rw [DpAll.ints hu] at hp
        exact ⟨p, rfl, .inl hp⟩
      · subst hd
        obtain ⟨v, rfl, t1⟩ := tps1 tp
        obtain ⟨p, us, rfl, hp, hu⟩ := t1.tuple_of a.st.gh
        rw [asInts_of ei] at hu
        rw [DpAll.ints hu] at hp
        exact ⟨p, rfl, .inr hp⟩
    obtain ⟨p, ev, hs⟩ := hs
    refine ⟨p, ns, ev, hs, hz, fun b c hb hc => ?_⟩
    refine ⟨b, _, c, rfl, upd_same, by omega, fun ms p2 k1 k2 k3 hp => ?_⟩
    have hms : ms = IL.sortI (IL.uniqI ns) := by
      refine sort_one ?_ (k1.imp fun h => Int.le_of_lt h) (sortI_pw _)
      refine List.Perm.trans ?_ (sortI_perm _).symm
      refine (List.perm_ext_iff_of_nodup (k1.imp fun h => Int.ne_of_lt h) (nodup_uniqI ns)).mpr fun z => ?_
      rw [k2 z, mem_uniqI]
      simp
    rw [hms]
    have a1 := Aft.fresh (C := C) (o := SetO w b (fun j => decide (j ∈ ns)) c) a.st hb
    exact (Want.step back_V q2 a1).newLst a1.st hp (DpAll.of_ints _)
end
end J
end
section
set_option Elab.async false
set_option linter.all false
set_option autoImplicit false
set_option maxRecDepth 100000
set_option maxHeartbeats 8000000
/-! J11: the check is sound: all expressions at once. -/
namespace J
open PySem L2 PyProof.Rows
open IL (D Ow Slot Val CR RV Fl Bop Cop Tg wipeE ownIx putBack argSlot CE CEs CT CO CI CS CB Fn Mt Kd)
open DG (Clr FnG)
section
variable {C : Ctx} {w : World} {call : Nat → Env → CR}
theorem boolop_one {X : Cx} {op : BoolOp} {a : Expr} {pos : Pos} {t : TE} (h : PE X a t) : PE X (.BoolOp op [a] pos) t := pe_one h
/-- the defs are called with as many arguments as they have parameters -/
def Ar (call : Nat → Env → CR) (sc : Sc) : Prop := ∀ f x n, sc.fs[f]? = some (x, n) → ∀ δ, call f δ ≠ .no → δ.length = n
theorem lcB_of {sc : Sc} {vs : List Nat} {g : Tg} {tg iter : Expr} {s : Scope} (h : lcB sc vs g tg iter s = true) : sc.calm = true ∧ plainE iter = true ∧ blkC sc.N sc.scope s (ownOf sc vs) = true ∧ isFun sc.scope.kind = true ∧ isFun s.kind = true ∧ (∀ i ∈ tgIx g, i ∈ vs) ∧ chkG (sc.blk s) g tg = true := by
  simpa only [lcB, Bool.and_eq_true, decide_eq_true_eq] using h
/-- a rule of a built-in's method on a list -/
theorem mt_ok {X : Cx} (m : Mt) : MtR X (match m with | .append => "list.append" | .pop => "list.pop" | .insert => "list.insert") (rMt m) := by
  cases m with
  | append => exact mt_append
  | pop => exact mt_pop
  | insert => exact mt_insert
theorem few_of {es : List Expr} {env : PySem.Env} {pos : Pos} (hp : ∀ e ∈ es, plainE e = true) (hl : es.length < 20) :
    ((backTo pos (starEach es env)).all (fun x => !x.1) && (backToKw pos (keywordEach [] env)).all (fun x => x.1.isSome) && decide (es.length + ([] : List Keyword).length + (if ([] : List Keyword).isEmpty then 0 else 1) < 30)) = true := by
  have h1 : ∀ es : List Expr, (∀ e ∈ es, plainE e = true) → (backTo pos (starEach es env)).all (fun x => !x.1) = true := fun es => by
    induction es with
    | nil => intro _; rfl
    | cons e es ih =>
      intro h
      rw [star_of (h e List.mem_cons_self)]
      show (!false && (backTo pos (starEach es env)).all (fun x => !x.1)) = true
      rw [ih fun e he => h e (List.mem_cons_of_mem _ he)]
      rfl
  rw [h1 es hp]
  simp [backToKw, keywordEach]
  omega
theorem base_of {sc : Sc} {i : Nat} {o : Expr} {a : Str} {env : PySem.Env} {wh : Sem Value} (h : chkName sc i o = true) : attributeBase o a env wh = wh := by
  cases o <;> first | rfl | cases h
theorem super_of {o : Expr} {a : Str} {env : PySem.Env} {wh : Sem Value} (h : notSuper o = true) : attributeBase o a env wh = wh := by
  cases o <;> first | rfl | cases h
theorem ce_ind {m1 : CE → Prop} {m2 : CT → Prop} {m3 : CEs → Prop} {m4 : CO → Prop} {m5 : CI → Prop}
(h_var : ∀ i, m1 (.var i)) (h_int : ∀ i, m1 (.int i)) (h_str : ∀ i, m1 (.str i)) (h_bool : ∀ i, m1 (.bool i)) (h_none : m1 .none) (h_fz : ∀ e, m1 e → m1 (.fz e)) (h_bin : ∀ o a b, m1 a → m1 b → m1 (.bin o a b)) (h_neg : ∀ a, m1 a → m1 (.neg a)) (h_cmp : ∀ o a b, m1 a → m1 b → m1 (.cmp o a b)) (h_isN : ∀ a, m1 a → m1 (.isN a)) (h_notN : ∀ a, m1 a → m1 (.notN a)) (h_not : ∀ a, m1 a → m1 (.not a)) (h_and : ∀ a b, m1 a → m1 b → m1 (.and a b)) (h_or : ∀ a b, m1 a → m1 b → m1 (.or a b)) (h_ite : ∀ c a b, m2 c → m1 a → m1 b → m1 (.ite c a b)) (h_tup : ∀ es, m3 es → m1 (.tup es)) (h_lst : ∀ es, m3 es → m1 (.lst es)) (h_idx : ∀ a b, m1 a → m1 b → m1 (.idx a b)) (h_sli : ∀ a lo hi, m1 a → m4 lo → m4 hi → m1 (.sli a lo hi)) (h_rev : ∀ a, m1 a → m1 (.rev a)) (h_call : ∀ f es, m3 es → m1 (.call f es)) (h_bi : ∀ f es, m3 es → m1 (.bi f es)) (h_mt : ∀ m i es, m3 es → m1 (.mt m i es)) (h_ext : ∀ i e, m1 e → m1 (.ext i e)) (h_lc : ∀ e g it vs, m1 e → m5 it → m1 (.lc e g it vs)) (h_lcIf : ∀ e g it c vs, m1 e → m5 it → m2 c → m1 (.lcIf e g it c vs)) (h_isa : ∀ a ks, m1 a → m1 (.isa a ks)) (h_xf : ∀ i f, m1 (.xf i f)) (h_xis : ∀ i n cs ns, m1 (.xis i n cs ns)) (h_dnew : m1 .dnew) (h_dget : ∀ i k, m1 k → m1 (.dget i k)) (h_dhas : ∀ i k, m1 k → m1 (.dhas i k)) (h_tm : ∀ m a, m1 a → m1 (.tm m a)) (h_tm1 : ∀ m a b, m1 a → m1 b → m1 (.tm1 m a b)) (h_fst : ∀ es, m3 es → m1 (.fst es)) (h_tr : ∀ e, m1 e → m2 (.tr e)) (h_tcmp : ∀ o a b, m1 a → m1 b → m2 (.cmp o a b)) (h_tisN : ∀ a, m1 a → m2 (.isN a)) (h_tnotN : ∀ a, m1 a → m2 (.notN a)) (h_tnot : ∀ a, m2 a → m2 (.not a)) (h_tand : ∀ a b, m2 a → m2 b → m2 (.and a b)) (h_tor : ∀ a b, m2 a → m2 b → m2 (.or a b)) (h_nil : m3 .nil) (h_cons : ∀ e es, m1 e → m3 es → m3 (.cons e es)) (h_no : m4 .no) (h_yes : ∀ e, m1 e → m4 (.yes e)) (h_of : ∀ e, m1 e → m5 (.of e)) (h_rng1 : ∀ e, m1 e → m5 (.rng1 e)) (h_rng2 : ∀ e f, m1 e → m1 f → m5 (.rng2 e f)) :
    (∀ c, m1 c) ∧ (∀ c, m2 c) ∧ (∀ c, m3 c) ∧ (∀ c, m4 c) ∧ (∀ c, m5 c) :=
  ⟨fun c => CE.rec (motive_1 := m1) (motive_2 := m2) (motive_3 := m3) (motive_4 := m4) (motive_5 := m5) h_var h_int h_str h_bool h_none h_fz h_bin h_neg h_cmp h_isN h_notN h_not h_and h_or h_ite h_tup h_lst h_idx h_sli h_rev h_call h_bi h_mt h_ext h_lc h_lcIf h_isa h_xf h_xis h_dnew h_dget h_dhas h_tm h_tm1 h_fst h_tr h_tcmp h_tisN h_tnotN h_tnot h_tand h_tor h_nil h_cons h_no h_yes h_of h_rng1 h_rng2 c,
    fun c => CT.rec (motive_1 := m1) (motive_2 := m2) (motive_3 := m3) (motive_4 := m4) (motive_5 := m5) h_var h_int h_str h_bool h_none h_fz h_bin h_neg h_cmp h_isN h_notN h_not h_and h_or h_ite h_tup h_lst h_idx h_sli h_rev h_call h_bi h_mt h_ext h_lc h_lcIf h_isa h_xf h_xis h_dnew h_dget h_dhas h_tm h_tm1 h_fst h_tr h_tcmp h_tisN h_tnotN h_tnot h_tand h_tor h_nil h_cons h_no h_yes h_of h_rng1 h_rng2 c,
    fun c => CEs.rec (motive_1 := m1) (motive_2 := m2) (motive_3 := m3) (motive_4 := m4) (motive_5 := m5) h_var h_int h_str h_bool h_none h_fz h_bin h_neg h_cmp h_isN h_notN h_not h_and h_or h_ite h_tup h_lst h_idx h_sli h_rev h_call h_bi h_mt h_ext h_lc h_lcIf h_isa h_xf h_xis h_dnew h_dget h_dhas h_tm h_tm1 h_fst h_tr h_tcmp h_tisN h_tnotN h_tnot h_tand h_tor h_nil h_cons h_no h_yes h_of h_rng1 h_rng2 c,
    fun c => CO.rec (motive_1 := m1) (motive_2 := m2) (motive_3 := m3) (motive_4 := m4) (motive_5 := m5) h_var h_int h_str h_bool h_none h_fz h_bin h_neg h_cmp h_isN h_notN h_not h_and h_or h_ite h_tup h_lst h_idx h_sli h_rev h_call h_bi h_mt h_ext h_lc h_lcIf h_isa h_xf h_xis h_dnew h_dget h_dhas h_tm h_tm1 h_fst h_tr h_tcmp h_tisN h_tnotN h_tnot h_tand h_tor h_nil h_cons h_no h_yes h_of h_rng1 h_rng2 c,
    fun c => CI.rec (motive_1 := m1) (motive_2 := m2) (motive_3 := m3) (motive_4 := m4) (motive_5 := m5) h_var h_int h_str h_bool h_none h_fz h_bin h_neg h_cmp h_isN h_notN h_not h_and h_or h_ite h_tup h_lst h_idx h_sli h_rev h_call h_bi h_mt h_ext h_lc h_lcIf h_isa h_xf h_xis h_dnew h_dget h_dhas h_tm h_tm1 h_fst h_tr h_tcmp h_tisN h_tnotN h_tnot h_tand h_tor h_nil h_cons h_no h_yes h_of h_rng1 h_rng2 c⟩
theorem constB_of {sc : Sc} {x : Expr} {c : Const} (h : constB sc x c = true) : (∃ k p, x = .Constant c k p) ∨ ∃ n p, x = .Name n p ∧ glB sc n = true ∧ okN n = true ∧ sc.gc.lookup n = some c := by
  unfold constB at h
  rcases Bool.or_eq_true_iff.mp h with q | q
  · exact .inl (asConst_of (of_decide_eq_true q))
  · clear h
    cases hx : asName x with
    | none => rw [hx] at q; cases q
    | some n =>
      rw [hx] at q
      simp only [Bool.and_eq_true, decide_eq_true_eq] at q
      obtain ⟨p, rfl⟩ : ∃ p, x = .Name n p := by
        cases x <;> first | (cases hx; exact ⟨_, rfl⟩) | cases hx
      exact .inr ⟨n, p, rfl, q.1, q.2.1, q.2.2⟩
theorem pe_gc {C : Ctx} {sc : Sc} {X : Cx} (g : Good C w call sc X) {n : Str} {c : Const} {p : Pos} (h1 : glB sc n = true) (h2 : okN n = true) (h3 : sc.gc.lookup n = some c) : PE X (.Name n p) (tC (constV c)) := by
  obtain ⟨u, hm, r⟩ := g.gc n c h3
  exact ⟨fun pins s σ H Q I q => ld_glob I (g.gl h1) hm ⟨_, H, I, r, q⟩ (okN_1 h2).1⟩
/-- where nothing is handled -/
theorem Good.cold {C : Ctx} {sc : Sc} {X : Cx} (g : Good C w call sc X) (h : sc.calm = true) : C.K = ⟨X.K, none⟩ := by
  have h1 := g.k
  have h2 := g.nox h
  cases hK : C.K with
  | mk K xc =>
    rw [hK] at h1 h2
    subst h2
    rw [h1]
/-- where an exception is handled -/
theorem Good.heat {C : Ctx} {sc : Sc} {X : Cx} (g : Good C w call sc X) (h : sc.calm = false) : ∃ (xc : XC) (oe : Obj), (xc.a, oe) ∈ X.pn ∧ L2H.Hot1 X.A (xc.a, oe) ∧ C.K = ⟨X.K, some xc⟩ ∧ ∀ n F vs H Q E, spF C.K C.xv n F vs H Q E → spH X.K C.xv sc.xs.length n F (xc.a, oe) vs H Q E := by
  obtain ⟨xc, hx⟩ := g.hx h
  obtain ⟨⟨n, f, hn⟩, oe, h1, h2, ⟨vs, h3⟩, h4⟩ := g.hand xc hx
  have eK : C.K = ⟨X.K, some xc⟩ := by
    have k := g.k
    cases hK : C.K with
    | mk K xc' =>
      rw [hK] at k hx
      have hx' : xc' = some xc := hx
      subst hx'
      rw [k]
  refine ⟨xc, oe, h1, ⟨h4, vs, h3, h2.2.2 vs h3⟩, eK, fun n F vs H Q E z => ⟨xc, rfl, (List.getElem?_eq_some_iff.mp hn).1, h2, ?_⟩⟩
  rw [← eK]
  exact z
theorem passT {C : Ctx} {sc : Sc} {X : Cx} (g : Good C w call sc X) (σ : St) : PassesAt (L2N.CX X.prog X.w) X σ (C.es σ) := fun pins H s e s' I c => g.tk e s' (L2N.XE.of_call I (fun _ _ _ h => h) c)
theorem jg_un {C : Ctx} {e e' : St → XK} {is : List Nat} {g : TG} {f : D → Env → Option Env} (h : JG (C.un e) is g f) : JG (C.un e') is g f := fun d δ σ G H v δ' S hd hf Q q => h d δ σ G H v δ' S hd hf Q fun σ' G' H' a hw => q σ' G' H' ⟨a.st, a.nx, a.ow, a.kp, a.ln⟩ hw
theorem kdAll_of {sc : Sc} {ks : List Kd} {z : Expr} (hk : ¬ ∃ k, ks = [k]) (h : kdAll sc ks z = true) : decide (ks.length ≤ 20) = true ∧ ∃ xs, asTup z = some xs ∧ kdsB sc ks xs = true := by
  unfold kdAll at h
  split at h
  · exact absurd ⟨_, rfl⟩ hk
  · obtain ⟨h1, h2⟩ := Bool.and_eq_true_iff.mp h
    split at h2
    · exact ⟨h1, _, by assumption, h2⟩
    · cases h2
theorem pe_kd {C : Ctx} {sc : Sc} {X : Cx} (g : Good C w call sc X) {k : Kd} {x : Expr} (h : kdB sc k x = true) : PE X x (tC (.ty (kdTy k))) := by
  obtain ⟨h1, h2⟩ := Bool.and_eq_true_iff.mp h
  have hx := of_decide_eq_true h1
  obtain ⟨p, rfl⟩ : ∃ p, x = .Name (kdName k) p := by
    cases x <;> first | (cases hx; exact ⟨_, rfl⟩) | cases hx
  cases k with
  | int => exact pe_bltn (g.gl h2) (g.mg _ (by decide +kernel)) (by decide +kernel) rfl
  | bool => exact pe_bltn (g.gl h2) (g.mg _ (by decide +kernel)) (by decide +kernel) rfl
  | str => exact pe_bltn (g.gl h2) (g.mg _ (by decide +kernel)) (by decide +kernel) rfl
  | list => exact pe_bltn (g.gl h2) (g.mg _ (by decide +kernel)) (by decide +kernel) rfl
  | tuple => exact pe_bltn (g.gl h2) (g.mg _ (by decide +kernel)) (by decide +kernel) rfl
theorem kd_plain {sc : Sc} {k : Kd} {x : Expr} (h : kdB sc k x = true) : plainE x = true := by
  obtain ⟨h1, h2⟩ := Bool.and_eq_true_iff.mp h
  have hx := of_decide_eq_true h1
  cases x <;> first | rfl | cases hx
theorem pa_kds {C : Ctx} {sc : Sc} {X : Cx} (g : Good C w call sc X) : ∀ {ks : List Kd} {xs : List Expr}, kdsB sc ks xs = true → PA X xs (tTys ks)
  | [], [], _ => pa_nil
  | k :: ks, x :: xs, h => by
    obtain ⟨h1, h2⟩ := Bool.and_eq_true_iff.mp (show (kdB sc k x && kdsB sc ks xs) = true from h)
    exact pa_cons (pe_kd g h1) (pa_kds g h2) (star_of (kd_plain h1))
  | [], _ :: _, h => by cases h
  | _ :: _, [], h => by cases h
theorem snd_all : (∀ c (e0 : St → XK) sc x, Ar call sc → chkE c sc x = true → SndE (C.un e0) w call c sc x) ∧ (∀ c (e0 : St → XK) sc x, Ar call sc → chkT c sc x = true → SndT (C.un e0) w call c sc x) ∧ (∀ c (e0 : St → XK) sc x, Ar call sc → (chkEs c sc x = true → SndD (C.un e0) w call c sc x) ∧ (chkF c sc x = true → SndF (C.un e0) w call c sc x)) ∧
    (∀ c (e0 : St → XK) sc x, Ar call sc → chkO c sc x = true → SndO (C.un e0) w call c sc x) ∧ (∀ c (e0 : St → XK) sc x, Ar call sc → chkI c sc x = true → SndI (C.un e0) w call c sc x) := by
  refine ce_ind ?var ?int ?str ?bool ?none ?fz ?bin ?neg ?cmp ?isN ?notN ?not ?and ?or ?ite ?tup ?lst ?idx ?sli ?rev ?call ?bi ?mt ?ext ?lc ?lcIf ?isa ?xf ?xis ?dnew ?dget ?dhas ?tm ?tm1 ?fst ?tr ?tcmp ?tisN ?tnotN ?tnot ?tand ?tor ?nil ?cons ?no ?yes ?of ?rng1 ?rng2
  case var => exact fun i e0 sc x hc h => ⟨tVar i, chkName_ok h, je_var (C := C.un e0) i⟩
  case int =>
    intro i e0 sc x hc h
    simp only [chkE] at h
    rcases constB_of h with ⟨k, p, rfl⟩ | ⟨n, p, rfl, h1, h2, h3⟩
    · exact ⟨_, fun X g => pe_int, je_const (C := C.un e0) fun _ _ => .int _⟩
    · exact ⟨tC (.int i), fun X g => pe_gc g h1 h2 h3, je_const (C := C.un e0) fun _ _ => .int _⟩
  case str =>
    intro i e0 sc x hc h
    simp only [chkE] at h
    rcases constB_of h with ⟨k, p, rfl⟩ | ⟨n, p, rfl, h1, h2, h3⟩
    · exact ⟨_, fun X g => pe_str, je_const (C := C.un e0) fun _ _ => .str _⟩
    · exact ⟨tC (.str i), fun X g => pe_gc g h1 h2 h3, je_const (C := C.un e0) fun _ _ => .str _⟩
  case bool =>
    intro i e0 sc x hc h
    simp only [chkE, decide_eq_true_eq] at h
    obtain ⟨k, p, rfl⟩ := asConst_of h
    exact ⟨_, fun X g => pe_bl, je_const (C := C.un e0) fun _ _ => .bl _⟩
  case none =>
    intro e0 sc x hc h
    simp only [chkE, decide_eq_true_eq] at h
    obtain ⟨k, p, rfl⟩ := asConst_of h
    exact ⟨_, fun X g => pe_non, je_const (C := C.un e0) fun _ _ => .non⟩
  case fz =>
    intro e ih e0 sc x hc h
    obtain ⟨te, p1, j1⟩ := ih e0 sc x hc (by simpa only [chkE] using h)
    exact ⟨te, p1, je_fz (C := C.un e0) j1⟩
  case bin =>
    intro o a b iha ihb e0 sc x hc h
    simp only [chkE] at h
    split at h
    · rename_i l op r e
      simp only [Bool.and_eq_true, decide_eq_true_eq] at h
      obtain ⟨h1, h2, h3⟩ := h
      obtain ⟨p, rfl⟩ := asBin_of e
      subst h1
      obtain ⟨ta, pa, ja⟩ := iha e0 sc l hc h2
      obtain ⟨tb, pb, jb⟩ := ihb e0 sc r hc h3
      refine ⟨tOp (rBop C.K o) ta tb, fun X g => ?_, je_op2 (C := C.un e0) (bop_does o) ja jb⟩
      have z := pe_op (pos := p) (bop_ok (X := X) o) (pa X g) (pb X g)
      rw [g.k] at z
      exact z
    · cases h
  case neg =>
    intro a iha e0 sc x hc h
    simp only [chkE] at h
    split at h
    · rename_i op l e
      simp only [Bool.and_eq_true, decide_eq_true_eq] at h
      obtain ⟨rfl, h2⟩ := h
      obtain ⟨p, rfl⟩ := asUn_of e
      obtain ⟨ta, pa, ja⟩ := iha e0 sc l hc h2
      exact ⟨tUn rNeg ta, fun X g => pe_un un_neg (pa X g), je_op1 (C := C.un e0) neg_does ja⟩
    · cases h
  case cmp =>
    intro o a b iha ihb e0 sc x hc h
    simp only [chkE] at h
    split at h
    · rename_i l op r e
      simp only [Bool.and_eq_true, decide_eq_true_eq] at h
      obtain ⟨h1, h2, h3, h4⟩ := h
      obtain ⟨p, rfl⟩ := asCmp_of e
      subst h1
      obtain ⟨ta, pa, ja⟩ := iha e0 sc l hc h2
      obtain ⟨tb, pb, jb⟩ := ihb e0 sc r hc h3
      refine ⟨tOp (rCop C.K o) ta tb, fun X g => ?_, je_op2 (C := C.un e0) (cop_does o) ja jb⟩
      have z := pe_cmpR (pos := p) (cop_ok (X := X) g.hu o) (pa X g) (pb X g) (mark_of h4)
      rw [g.k] at z
      exact z
    · cases h
  case isN =>
    intro a iha e0 sc x hc h
    simp only [chkE] at h
    split at h
    · rename_i l op r e
      simp only [Bool.and_eq_true, decide_eq_true_eq] at h
      obtain ⟨rfl, h3, h2⟩ := h
      obtain ⟨p, rfl⟩ := asCmp_of e
      obtain ⟨k, q, rfl⟩ := asConst_of h3
      obtain ⟨ta, pa, ja⟩ := iha e0 sc l hc h2
      exact ⟨tIsN ta, fun X g => pe_cmp (pc_isN (pa X g)), je_isN (C := C.un e0) ja⟩
    · cases h
  case notN =>
    intro a iha e0 sc x hc h
    simp only [chkE] at h
    split at h
    · rename_i l op r e
      simp only [Bool.and_eq_true, decide_eq_true_eq] at h
      obtain ⟨rfl, h3, h2⟩ := h
      obtain ⟨p, rfl⟩ := asCmp_of e
      obtain ⟨k, q, rfl⟩ := asConst_of h3
      obtain ⟨ta, pa, ja⟩ := iha e0 sc l hc h2
      exact ⟨tNotN ta, fun X g => pe_cmp (pc_notN (pa X g)), je_notN (C := C.un e0) ja⟩
    · cases h
  case not =>
    intro a iha e0 sc x hc h
    simp only [chkE] at h
    split at h
    · rename_i op l e
      simp only [Bool.and_eq_true, decide_eq_true_eq] at h
      obtain ⟨rfl, h2⟩ := h
      obtain ⟨p, rfl⟩ := asUn_of e
      obtain ⟨ta, pa, ja⟩ := iha e0 sc l hc h2
      exact ⟨tNotV ta, fun X g => pe_not (pa X g), je_not (C := C.un e0) ja⟩
    · cases h
  case and =>
    intro a b iha ihb e0 sc x hc h
    simp only [chkE] at h
    split at h
    · rename_i op l r e
      simp only [Bool.and_eq_true, decide_eq_true_eq] at h
      obtain ⟨rfl, h2, h3⟩ := h
      obtain ⟨ta, pa, ja⟩ := iha e0 sc l hc h2
      obtain ⟨tb, pb, jb⟩ := ihb e0 sc r hc h3
      obtain ⟨p, rfl | ⟨y, z, s, rfl, rfl⟩⟩ := asBool_of e
      · exact ⟨tAndV ta tb, fun X g => pe_and (pa X g) (pe_one (pb X g)), je_and (C := C.un e0) ja jb⟩
      · exact ⟨tAndV ta tb, fun X g => pe_and (pa X g) (pb X g), je_and (C := C.un e0) ja jb⟩
    · cases h
  case or =>
    intro a b iha ihb e0 sc x hc h
    simp only [chkE] at h
    split at h
    · rename_i op l r e
      simp only [Bool.and_eq_true, decide_eq_true_eq] at h
      obtain ⟨rfl, h2, h3⟩ := h
      obtain ⟨ta, pa, ja⟩ := iha e0 sc l hc h2
      obtain ⟨tb, pb, jb⟩ := ihb e0 sc r hc h3
      obtain ⟨p, rfl | ⟨y, z, s, rfl, rfl⟩⟩ := asBool_of e
      · exact ⟨tOrV ta tb, fun X g => pe_or (pa X g) (pe_one (pb X g)), je_or (C := C.un e0) ja jb⟩
      · exact ⟨tOrV ta tb, fun X g => pe_or (pa X g) (pb X g), je_or (C := C.un e0) ja jb⟩
    · cases h
  case ite =>
    intro c a b ihc iha ihb e0 sc x hc h
    simp only [chkE] at h
    split at h
    · rename_i t l r e
      simp only [Bool.and_eq_true] at h
      obtain ⟨h1, h2, h3⟩ := h
      obtain ⟨p, rfl⟩ := asIf_of e
      obtain ⟨tc, pc, jc⟩ := ihc e0 sc t hc h1
      obtain ⟨ta, pa, ja⟩ := iha e0 sc l hc h2
      obtain ⟨tb, pb, jb⟩ := ihb e0 sc r hc h3
      exact ⟨tIf tc ta tb, fun X g => pe_ifExp (pc X g) (pa X g) (pb X g), je_ite (C := C.un e0) jc ja jb⟩
    · cases h
  case tup =>
    intro es ih e0 sc x hc h
    simp only [chkE] at h
    split at h
    · rename_i xs e
      obtain ⟨k, p, rfl⟩ := asTup_of e
      obtain ⟨ta, pa, ja, _⟩ := (ih e0 sc xs hc).1 h
      exact ⟨tTup ta, fun X g => pe_tup (pa X g), je_tup (C := C.un e0) ja⟩
    · cases h
  case lst =>
    intro es ih e0 sc x hc h
    simp only [chkE] at h
    split at h
    · rename_i xs e
      obtain ⟨p, rfl⟩ := asLst_of e
      obtain ⟨ta, pa, ja, _⟩ := (ih e0 sc xs hc).1 h
      exact ⟨tLst ta, fun X g => pe_lst (pa X g), je_lst (C := C.un e0) ja⟩
    · cases h
  case idx =>
    intro a b iha ihb e0 sc x hc h
    simp only [chkE] at h
    split at h
    · rename_i l r e
      simp only [Bool.and_eq_true] at h
      obtain ⟨h1, h2, h3⟩ := h
      obtain ⟨p, rfl⟩ := asSub_of e
      obtain ⟨ta, pa, ja⟩ := iha e0 sc l hc h1
      obtain ⟨tb, pb, jb⟩ := ihb e0 sc r hc h2
      refine ⟨tOp (rIx C.K) ta tb, fun X g => ?_, je_op2 (C := C.un e0) idx_does ja jb⟩
      have z := pe_ix (pos := p) (ix_seq (X := X)) (pa X g) (pb X g) (ix_of h3)
      rw [g.k] at z
      exact z
    · cases h
  case sli =>
    intro a lo hi iha ihl ihh e0 sc x hc h
    simp only [chkE] at h
    split at h
    · rename_i l r e
      split at h
      · rename_i u v e2
        simp only [Bool.and_eq_true] at h
        obtain ⟨h1, h2, h3⟩ := h
        obtain ⟨p, rfl⟩ := asSub_of e
        obtain ⟨q, rfl⟩ := asSli_of e2
        obtain ⟨ta, pa, ja⟩ := iha e0 sc l hc h1
        obtain ⟨tl, pl, jl⟩ := ihl e0 sc u hc h2
        obtain ⟨tu, pu, ju⟩ := ihh e0 sc v hc h3
        refine ⟨tSl (rSli C.K) ta tl tu, fun X g => ?_, je_sli (C := C.un e0) ja jl ju⟩
        have z := pe_slice (pos := p) (p2 := q) (sli_ok (X := X)) (pa X g) (pl X g) (pu X g)
        rw [g.k] at z
        exact z
      · cases h
    · cases h
  case rev =>
    intro a iha e0 sc x hc h
    simp only [chkE] at h
    split at h
    · rename_i l r e
      simp only [Bool.and_eq_true] at h
      obtain ⟨h1, h2⟩ := h
      obtain ⟨p, rfl⟩ := asSub_of e
      obtain ⟨k, p1, p2, p3, rfl⟩ := isRev_of h1
      obtain ⟨ta, pa, ja⟩ := iha e0 sc l hc h2
      refine ⟨tRevL C.K ta, fun X g => ?_, je_rev (C := C.un e0) ja⟩
      have z := pe_revL (k := k) (p1 := p1) (p2 := p2) (p3 := p3) (pos := p) (pa X g)
      rw [g.k] at z
      exact z
    · cases h
  case call =>
    intro f es ih e0 sc x hc h
    simp only [chkE] at h
    split at h
    · rename_i n xs e
      simp only [Bool.and_eq_true, Bool.or_eq_true, decide_eq_true_eq] at h
      obtain ⟨hm, h1, h2, h3, h4⟩ := h
      obtain ⟨q, p, rfl⟩ := asCall_of e
      obtain ⟨ta, pa, _, ja⟩ := (ih e0 sc xs hc).1 h4
      have hp := chkEs_plain h4
      cases xs with
      | nil =>
        cases es with
        | nil =>
          refine ⟨tCallS (spF C.K C.xv 0 (call f)) e0 tNil, fun X g => ?_, je_call (C := C.un e0) (hc f n 0 h1) ja_nil⟩
          cases hcalm : sc.calm with
          | true =>
            obtain ⟨fa, fd, ps, k, q1, q2, q3, q4, q5, q6⟩ := g.calls hcalm f n 0 h1
            rw [show C.K = ⟨X.K, none⟩ from g.cold hcalm]
            exact DG.pe_callG0 q3 g.clr q4 (g.gl h2) q1 q5 q6 (fun σ => passT g σ) (okN_1 h3).1
          | false =>
            have hh : f ∈ sc.hot := hm.resolve_left (fun z => by rw [hcalm] at z; cases z)
            obtain ⟨fa, fd, ps, k, q1, q2, q3, q4, q5, q6⟩ := g.hots f n 0 h1 hh
            obtain ⟨xc, oe, z1, z2, z3, z4⟩ := g.heat hcalm
            exact DG.pe_callX0 (q := (xc.a, oe)) q3 (z4 0 (call f)) g.clr q4 z2 z1 (g.gl h2) q1 q5 q6 (fun σ => passT g σ) (okN_1 h3).1
        | cons _ _ => cases h4
      | cons x xs =>
        refine ⟨tCallS (spF C.K C.xv (x :: xs).length (call f)) e0 ta, fun X g => ?_, je_call (C := C.un e0) (hc f n _ h1) ja⟩
        cases hcalm : sc.calm with
        | true =>
          obtain ⟨fa, fd, ps, k, q1, q2, q3, q4, q5, q6⟩ := g.calls hcalm f n _ h1
          rw [show C.K = ⟨X.K, none⟩ from g.cold hcalm]
          exact DG.pe_callG q3 g.clr q4 (g.gl h2) q1 q5 q6 (fun σ => passT g σ) (pa X g) (okN_1 h3).1 (star_of (hp x List.mem_cons_self)) (any_of fun e he => hp e (List.mem_cons_of_mem _ he))
        | false =>
          have hh : f ∈ sc.hot := hm.resolve_left (fun z => by rw [hcalm] at z; cases z)
          obtain ⟨fa, fd, ps, k, q1, q2, q3, q4, q5, q6⟩ := g.hots f n _ h1 hh
          obtain ⟨xc, oe, z1, z2, z3, z4⟩ := g.heat hcalm
          exact DG.pe_callX (q := (xc.a, oe)) q3 (z4 _ (call f)) g.clr q4 z2 z1 (g.gl h2) q1 q5 q6 (fun σ => passT g σ) (pa X g) (okN_1 h3).1 (star_of (hp x List.mem_cons_self)) (any_of fun e he => hp e (List.mem_cons_of_mem _ he))
    · cases h
  case bi =>
    intro f es ih e0 sc x hc h
    have hcalm : hotFn f = true → sc.calm = true := fun q => by
      simp only [chkE, Bool.and_eq_true, Bool.or_eq_true, Bool.not_eq_true'] at h
      exact h.1.resolve_left (fun z => by rw [q] at z; cases z)
    have h : _ := (Bool.and_eq_true_iff.mp (show (_ && _) = true by simpa only [chkE] using h)).2
    have plain : f ≠ .sortedSet → f ≠ .minLen → fnB sc f (chkEs es sc) x = true → SndE (C.un e0) w call (.bi f es) sc x := fun n1 n2 h => by
      unfold fnB at h
      split at h
      · rename_i n xs e
        simp only [Bool.and_eq_true, decide_eq_true_eq] at h
        obtain ⟨h1, h2, h3, h4⟩ := h
        subst h1
        obtain ⟨q, p, rfl⟩ := asCall_of e
        obtain ⟨ta, pa, _, ja⟩ := (ih e0 sc xs hc).1 h4
        have hp := chkEs_plain h4
        cases xs with
        | nil => cases h2
        | cons x xs => exact ⟨tCB (rFn C.K f) ta, fun X g => fn_ok g n1 n2 hcalm h3 hp (pa X g), je_bi (C := C.un e0) n1 ja⟩
      · cases h
    cases f with
    | sortedSet =>
      simp only [chkE] at h
      split at h
      · rename_i n y e1
        split at h
        · rename_i m z e2
          simp only [Bool.and_eq_true, decide_eq_true_eq] at h
          obtain ⟨rfl, rfl, h3, h4, h5⟩ := h
          obtain ⟨q1, p1, rfl⟩ := asCall_of e1
          obtain ⟨q2, p2, rfl⟩ := asCall_of e2
          obtain ⟨ta, pa, _, ja⟩ := (ih e0 sc [z] hc).1 h5
          have hp := chkEs_plain h5
          refine ⟨_, fun X g => ?_, je_sortedSet (w := w) (C := C.un e0) ja⟩
          have kk : C.K.K = X.K := g.k.symm
          have ww := g.w
          subst ww
          rw [kk]
          refine pe_callB (cr_sortedSet (g.calm (hcalm rfl))) (g.gl h3) (g.mg _ (by decide +kernel)) (by decide +kernel) (pa_cons ?_ pa_nil)
          exact pe_callTy (DS.call_qSetI (g.calm (hcalm rfl))) (g.gl h4) (g.mg _ (by decide +kernel)) (by decide +kernel) (pa X g) (by decide) (by decide) (star_of (hp z List.mem_cons_self)) rfl
        · cases h
      · cases h
    | minLen =>
      simp only [chkE] at h
      split at h
      · rename_i y e1
        simp only [Bool.and_eq_true] at h
        obtain ⟨h1, h2, h3⟩ := h
        obtain ⟨p, pos, q, j, c, k1, k2, rfl⟩ := asMin_of e1
        obtain ⟨ta, pa, _, ja⟩ := (ih e0 sc [y] hc).1 h3
        have hp := chkEs_plain h3
        refine ⟨tCB (rFn C.K .minLen) ta, fun X g => ?_, je_bi (C := C.un e0) (by decide) ja⟩
        have kk : C.K.K = X.K := g.k.symm
        rw [kk]
        have hs := star_of (es := []) (env := X.env) (hp y List.mem_cons_self)
        exact DR.pe_minLen (g.calm (hcalm rfl)) (g.gl h1) (g.mg _ (by decide +kernel)) (g.gl h2) (g.mg _ (by decide +kernel)) (pa X g) (by rw [hs]; rfl) (by rw [hs]; rfl)
      · cases h
    | len => exact plain (by decide) (by decide) (by simpa only [chkE] using h)
    | str => exact plain (by decide) (by decide) (by simpa only [chkE] using h)
    | int => exact plain (by decide) (by decide) (by simpa only [chkE] using h)
    | abs => exact plain (by decide) (by decide) (by simpa only [chkE] using h)
    | sum => exact plain (by decide) (by decide) (by simpa only [chkE] using h)
    | min2 => exact plain (by decide) (by decide) (by simpa only [chkE] using h)
    | max2 => exact plain (by decide) (by decide) (by simpa only [chkE] using h)
    | any => exact plain (by decide) (by decide) (by simpa only [chkE] using h)
    | all => exact plain (by decide) (by decide) (by simpa only [chkE] using h)
    | tuple => exact plain (by decide) (by decide) (by simpa only [chkE] using h)
    | list => exact plain (by decide) (by decide) (by simpa only [chkE] using h)
    | repr => exact plain (by decide) (by decide) (by simpa only [chkE] using h)
    | sorted => exact plain (by decide) (by decide) (by simpa only [chkE] using h)
  case mt =>
    intro m i es ih e0 sc x hc h
    simp only [chkE] at h
    split at h
    · rename_i o a xs e
      simp only [Bool.and_eq_true, decide_eq_true_eq] at h
      obtain ⟨h1, h2, h3, h4, h5⟩ := h
      subst h2
      obtain ⟨ap, cp, hl, rfl⟩ := asMeth_of e
      obtain ⟨ta, pa, ja, _⟩ := (ih e0 sc xs hc).1 h5
      have hp := chkEs_plain h5
      cases xs with
      | nil =>
        have hm := h4.mp rfl
        subst hm
        cases es with
        | cons _ _ => cases h5
        | nil =>
          refine ⟨tBM C.K "list" (rMt .pop) (tVar i) tNil, fun X g => ?_, je_mt (C := C.un e0) .pop i jd_nil⟩
          have z := pe_bm0 (apos := ap) (cpos := cp) PySem.F.plainAttrs_list PySem.F.slot_list_pop PySem.F.type_list_pop (mt_ok (X := X) .pop) (chkName_ok h1 X g) (base_of h1) hl
          rw [g.k] at z
          exact z
      | cons x xs =>
        have hm : m ≠ .pop := fun q => by cases h4.mpr q
        refine ⟨tBM C.K "list" (rMt m) (tVar i) ta, fun X g => ?_, je_mt (C := C.un e0) m i ja⟩
        have kk : C.K.K = X.K := g.k.symm
        rw [kk]
        have hs := star_of (es := xs) (env := X.env) (hp x List.mem_cons_self)
        have hl2 := any_of (env := X.env) (pos := cp) fun e h => hp e (List.mem_cons_of_mem _ h)
        cases m with
        | pop => exact absurd rfl hm
        | append => exact pe_bm PySem.F.plainAttrs_list PySem.F.slot_list_append PySem.F.type_list_append (mt_ok (X := X) .append) (chkName_ok h1 X g) (pa X g) (base_of h1) (few_of hp h3) hl hs hl2
        | insert => exact pe_bm PySem.F.plainAttrs_list PySem.F.slot_list_insert PySem.F.type_list_insert (mt_ok (X := X) .insert) (chkName_ok h1 X g) (pa X g) (base_of h1) (few_of hp h3) hl hs hl2
    · cases h
  case ext =>
    intro i e ih e0 sc x hc h
    simp only [chkE] at h
    split at h
    · rename_i o a y e1
      simp only [Bool.and_eq_true, decide_eq_true_eq] at h
      obtain ⟨h1, h2, h3, h4⟩ := h
      subst h2
      obtain ⟨ap, cp, hl, rfl⟩ := asMeth_of e1
      obtain ⟨te, pe, je⟩ := ih e0 sc y hc h3
      refine ⟨tBM C.K "list" rExtend (tVar i) (tCons te tNil), fun X g => ?_, je_ext (C := C.un e0) i je⟩
      have kk : C.K.K = X.K := g.k.symm
      rw [kk]
      have hp : ∀ e ∈ [y], plainE e = true := fun e he => by
        rw [List.mem_singleton.mp he]
        exact h4
      have hs := star_of (es := []) (env := X.env) h4
      exact pe_bm PySem.F.plainAttrs_list PySem.F.slot_list_extend PySem.F.type_list_extend mt_extend (chkName_ok h1 X g) (pa_cons (pe X g) pa_nil hs) (base_of h1) (few_of hp (show 1 < 20 by decide)) hl hs rfl
    · cases h
  case lc =>
    intro e g it vs ihe ihi e0 sc x hc h
    simp only [chkE] at h
    split at h
    · rename_i elt tg iter s e1
      simp only [Bool.and_eq_true] at h
      obtain ⟨h1, h2, h3⟩ := h
      obtain ⟨p, rfl⟩ := asLc_of e1
      obtain ⟨b0, b1, b2, b3, b4, b5, b6⟩ := lcB_of h1
      obtain ⟨wi, pi, ji⟩ := ihi e0 sc iter hc h2
      obtain ⟨te, pe, je⟩ := ihe (fun _ _ _ _ => False) (sc.blk s) elt hc h3
      obtain ⟨gt, pg, jg⟩ := chkG_ok (C := C.un fun _ _ _ _ => False) (w := w) (call := call) b6
      exact ⟨tLc wi gt tYes te vs, lc_ok (C := C.un e0) (g := g) b1 b2 b3 b4 b0 (fun X G => pi X tg G) pg (fun X G => pts_nil) pe p, je_lc (C := C.un e0) (e' := fun _ _ _ _ => False) ji (jg_un jg) b5 (fun δ σ G H S Q q => q.now S rfl) je⟩
    · cases h
  case lcIf =>
    intro e g it c vs ihe ihi ihc e0 sc x hc h
    simp only [chkE] at h
    split at h
    · rename_i elt tg iter t s e1
      simp only [Bool.and_eq_true] at h
      obtain ⟨h1, h2, h3, h4⟩ := h
      obtain ⟨p, rfl⟩ := asLc_of e1
      obtain ⟨b0, b1, b2, b3, b4, b5, b6⟩ := lcB_of h1
      obtain ⟨wi, pi, ji⟩ := ihi e0 sc iter hc h2
      obtain ⟨tt, pt, jt⟩ := ihc (fun _ _ _ _ => False) (sc.blk s) t hc h3
      obtain ⟨te, pe, je⟩ := ihe (fun _ _ _ _ => False) (sc.blk s) elt hc h4
      obtain ⟨gt, pg, jg⟩ := chkG_ok (C := C.un fun _ _ _ _ => False) (w := w) (call := call) b6
      exact ⟨tLc wi gt tt te vs, lc_ok (C := C.un e0) (g := g) b1 b2 b3 b4 b0 (fun X G => pi X tg G) pg (fun X G => pts_one (pt X G)) pe p, je_lc (C := C.un e0) (e' := fun _ _ _ _ => False) ji (jg_un jg) b5 jt je⟩
    · cases h
  case isa =>
    intro a ks ih e0 sc x hc h
    simp only [chkE] at h
    split at h
    · rename_i n y z e
      simp only [Bool.and_eq_true, decide_eq_true_eq] at h
      obtain ⟨rfl, h2, h3, h4, h5, h6⟩ := h
      obtain ⟨q, p, rfl⟩ := asCall_of e
      obtain ⟨te, pe, je⟩ := ih e0 sc y hc h3
      by_cases hk : ∃ k, ks = [k]
      · obtain ⟨k, rfl⟩ := hk
        refine ⟨tCB (rIsi C.K) (tCons te (tCons (tC (.ty (kdTy k))) tNil)), fun X g => ?_, je_isa1 (C := C.un e0) k je⟩
        have kk : C.K.K = X.K := g.k.symm
        rw [kk]
        exact pe_callB call_isi (g.gl h2) (g.mg _ (by decide +kernel)) (by decide +kernel) (pa_cons (pe X g) (pa_cons (pe_kd g h6) pa_nil (star_of h5)) (star_of h4)) (by decide) (by decide) (star_of h4) (any_of fun e he => by rw [List.mem_singleton.mp he]; exact h5)
      · have hh : decide (ks.length ≤ 20) = true ∧ ∃ xs, asTup z = some xs ∧ kdsB sc ks xs = true := kdAll_of hk h6
        obtain ⟨hl, xs, ht, hx⟩ := hh
        obtain ⟨k2, p2, rfl⟩ := asTup_of ht
        refine ⟨tCB (rIsiT C.K) (tCons te (tCons (tTup (tTys ks)) tNil)), fun X g => ?_, je_isaN (C := C.un e0) ks (by have := of_decide_eq_true hl; omega) je⟩
        have kk : C.K.K = X.K := g.k.symm
        rw [kk]
        exact pe_callB call_isiT (g.gl h2) (g.mg _ (by decide +kernel)) (by decide +kernel) (pa_cons (pe X g) (pa_cons (pe_tup (pa_kds g hx)) pa_nil (star_of h5)) (star_of h4)) (by decide) (by decide) (star_of h4) (any_of fun e he => by rw [List.mem_singleton.mp he]; exact h5)
    · cases h
  case xf =>
    intro i f e0 sc x hc h
    simp only [chkE] at h
    split at h
    · rename_i o a e
      simp only [Bool.and_eq_true, decide_eq_true_eq] at h
      obtain ⟨h1, rfl, p0, hp0, hp1⟩ := h
      obtain ⟨pos, rfl⟩ : ∃ pos, x = .Attribute o a pos := by
        cases x <;> first | (cases e; exact ⟨_, rfl⟩) | cases e
      have hb : ∀ env, attributeBase o a env (eval o env) = eval o env := fun env => base_of h1
      cases hx : C.K.xc with
      | none =>
        refine ⟨fun _ _ _ => False, fun X g => ⟨fun _ _ _ _ _ _ z => z.elim⟩, fun δ σ G H S Q w => ?_⟩
        have w' : Want (relV C.K) (C.un e0) δ σ G H (match δ[i]? with
          | some (.xc _ fs) => IL.optR δ ((fs.lookup a).map .dat)
          | _ => .no) Q := w
        cases e1 : δ[i]? with
        | none => simp only [e1] at w'; exact w'
        | some s =>
          cases s with
          | un => simp only [e1] at w'; exact w'
          | im _ => simp only [e1] at w'; exact w'
          | ow _ => simp only [e1] at w'; exact w'
          | xc c fs =>
            obtain ⟨y, q, _⟩ := S.env i _ e1
            have q' : C.K.xc = some y := q
            rw [hx] at q'
            cases q'
      | some xc =>
        by_cases hG : ∃ X, Good (C.un e0) w call sc X
        · obtain ⟨X1, g1⟩ := hG
          obtain ⟨⟨n, f', hn⟩, _⟩ := g1.hand xc hx
          obtain ⟨A, _, _, _, _, hA, _⟩ := (g1.xs xc.c n f' hn).ex
          refine ⟨_, fun X g => ?_, je_xf (C := C.un e0) i a hx hA⟩
          obtain ⟨⟨n2, f2, hn2⟩, oe, hp, hz, hf, _⟩ := g.hand xc hx
          obtain ⟨A2, _, _, _, _, hA2, _, _, hX, hfld, _⟩ := (g.xs xc.c n2 f2 hn2).ex
          have eA : A2 = A := by
            have z := hA2.symm.trans hA
            cases z
            rfl
          subst eA
          have hn : PySem.W.findIn X.K (.ref A2) a = some none := hfld a (by rw [← hp1]; exact List.mem_map_of_mem hp0)
          exact pe_xfP hX.xf hn hp hz.zc hf (chkName_ok h1 _ g) (hb _)
        · exact ⟨fun _ _ _ => True, fun X g => absurd ⟨X, g⟩ hG, fun _ _ _ _ _ _ _ => True.intro⟩
    · cases h
  case xis =>
    intro i n cs ns e0 sc x hc h
    simp only [chkE] at h
    split at h
    · rename_i m y z e
      simp only [Bool.and_eq_true, decide_eq_true_eq] at h
      obtain ⟨rfl, h2, h3, h4, h5, h6, h7⟩ := h
      obtain ⟨q, p, rfl⟩ := asCall_of e
      obtain ⟨pz, rfl⟩ : ∃ pz, z = .Name n pz := by
        cases z <;> first | (cases h4; exact ⟨_, rfl⟩) | cases h4
      have hy : plainE y = true := by cases y <;> first | rfl | cases h3
      cases hx : C.K.xc with
      | none =>
        refine ⟨fun _ _ _ => False, fun X g => ⟨fun _ _ _ _ _ _ z => z.elim⟩, fun δ σ G H S Q w => ?_⟩
        have w' : Want (relV C.K) (C.un e0) δ σ G H (match δ[i]? with
          | some (.xc c _) => if c ∈ cs then .ok (.dat (.bool true)) δ else if c ∈ ns then .ok (.dat (.bool false)) δ else .no
          | _ => .no) Q := w
        cases e1 : δ[i]? with
        | none => simp only [e1] at w'; exact w'
        | some s =>
          cases s with
          | un => simp only [e1] at w'; exact w'
          | im _ => simp only [e1] at w'; exact w'
          | ow _ => simp only [e1] at w'; exact w'
          | xc c fs =>
            obtain ⟨y, q, _⟩ := S.env i _ e1
            have q' : C.K.xc = some y := q
            rw [hx] at q'
            cases q'
      | some xc =>
        by_cases hG : ∃ X, Good (C.un e0) w call sc X
        · obtain ⟨X1, g1⟩ := hG
          obtain ⟨⟨n1, f', hn⟩, _⟩ := g1.hand xc hx
          obtain ⟨A, _, _, _, _, hA, _⟩ := (g1.xs xc.c n1 f' hn).ex
          obtain ⟨_, ⟨cv, r1, r2, _, ky, kn⟩⟩ := g1.xb n cs ns h7
          have kK : X1.K = C.K.K := g1.k
          refine ⟨_, fun X g => ?_, je_xis (C := C.un e0) i cs ns hx hA r2 (fun q => by rw [← hA, ← kK]; exact (ky _ q).2) (fun q => by rw [← hA, ← kK]; exact (kn _ q).2)⟩
          obtain ⟨⟨n2, f2, hn2⟩, oe, hp, hz, hf, _⟩ := g.hand xc hx
          obtain ⟨A2, _, _, _, _, hA2, _, _, hX, _⟩ := (g.xs xc.c n2 f2 hn2).ex
          have eA : A2 = A := by
            have z := hA2.symm.trans hA
            cases z
            rfl
          subst eA
          have hz2 : Zc (.ref A2) (some xc.dd) oe := by
            have z : Zc (C.xv xc.c) (some xc.dd) oe := hz.zc
            have a2 : C.xv xc.c = .ref A2 := hA2
            rw [a2] at z
            exact z
          have kk : C.K.K = X.K := g.k.symm
          rw [kk]
          obtain ⟨_, ⟨cv2, s1, s2, s3, _⟩⟩ := g.xb n cs ns h7
          have pc : PE X (.Name n pz) (tC (C.nv n)) := by
            rcases s3 with s3 | ⟨s3, s4, s5⟩
            · exact ⟨fun pins s σ H Q I q => ld_glob I (g.gl h5) s3 ⟨_, H, I, s1, q⟩ (okN_1 h6).1⟩
            · exact pe_bltn (g.gl h5) s3 s4 s1 s5 (okN_1 h6).1
          exact pe_callB (call_isD hX hp hz2 hf) (g.gl h2) (g.mg _ (by decide +kernel)) (by decide +kernel) (pa_cons (chkName_ok h3 _ g) (pa_cons pc pa_nil rfl) (star_of hy)) (by decide) (by decide) (star_of hy) rfl
        · exact ⟨fun _ _ _ => True, fun X g => absurd ⟨X, g⟩ hG, fun _ _ _ _ _ _ _ => True.intro⟩
    · cases h
  case dnew =>
    intro e0 sc x hc h
    simp only [chkE] at h
    obtain ⟨p, rfl⟩ : ∃ p, x = .Dict [] [] p := by
      unfold isDict0 at h
      split at h
      · exact ⟨_, rfl⟩
      · cases h
    exact ⟨tDNewK, fun X g => pe_dnewK, je_dnew (C := C.un e0)⟩
  case dget =>
    intro i k ih e0 sc x hc h
    simp only [chkE] at h
    split at h
    · rename_i l r e
      simp only [Bool.and_eq_true] at h
      obtain ⟨h1, h2, h3⟩ := h
      obtain ⟨p, rfl⟩ := asSub_of e
      obtain ⟨te, pe, je⟩ := ih e0 sc r hc h2
      exact ⟨tDGet (tVar i) te, fun X g => pe_dget (by have := g.hu; omega) (chkName_ok h1 X g) (pe X g) (ix_of h3), je_dget (C := C.un e0) i je⟩
    · cases h
  case tm =>
    intro m a ih e0 sc x hc h
    simp only [chkE] at h
    split at h
    · rename_i o n e
      simp only [Bool.and_eq_true, decide_eq_true_eq] at h
      obtain ⟨rfl, h2, h3⟩ := h
      obtain ⟨ap, cp, hl, rfl⟩ := asMeth_of e
      obtain ⟨ta, pa, ja⟩ := ih e0 sc o hc h2
      refine ⟨tM0 (rTm m) ta, fun X g => ?_, je_tm (C := C.un e0) m ja⟩
      cases m with
      | upper => exact pe_m0 F.slot_str_upper F.type_str_upper mt_upper (pa X g) (super_of h3) hl
      | lower => exact pe_m0 F.slot_str_lower F.type_str_lower mt_lower (pa X g) (super_of h3) hl
      | strip => exact pe_m0 F.slot_str_strip F.type_str_strip mt_strip (pa X g) (super_of h3) hl
      | isdigit => exact pe_m0 F.slot_str_isdigit F.type_str_isdigit mt_isdigit (pa X g) (super_of h3) hl
      | isascii => exact pe_m0 F.slot_str_isascii F.type_str_isascii mt_isascii (pa X g) (super_of h3) hl
    · cases h
  case tm1 =>
    intro m a b iha ihb e0 sc x hc h
    simp only [chkE] at h
    split at h
    · rename_i o n y e
      simp only [Bool.and_eq_true, decide_eq_true_eq] at h
      obtain ⟨rfl, h2, h3, h4, h5⟩ := h
      obtain ⟨ap, cp, hl, rfl⟩ := asMeth_of e
      obtain ⟨ta, pa, ja⟩ := iha e0 sc o hc h2
      obtain ⟨tb, pb, jb⟩ := ihb e0 sc y hc h4
      refine ⟨tM1 (rTm1 C.K m) ta tb, fun X g => ?_, je_tm1 (C := C.un e0) m ja jb⟩
      have kk : C.K.K = X.K := g.k.symm
      have hs := star_of (es := []) (env := X.env) h5
      cases m with
      | startswith => exact pe_m1 F.slot_str_startswith F.type_str_startswith mt_startswith (pa X g) (pb X g) hs (super_of h3) hl
      | removeprefix => exact pe_m1 F.slot_str_removeprefix F.type_str_removeprefix mt_removeprefix (pa X g) (pb X g) hs (super_of h3) hl
      | split => exact pe_m1 F.slot_str_split F.type_str_split mt_split (pa X g) (pb X g) hs (super_of h3) hl
      | partition => exact pe_m1 F.slot_str_partition F.type_str_partition mt_partition (pa X g) (pb X g) hs (super_of h3) hl
      | join =>
        have z := pe_m1 (apos := ap) (pos := cp) F.slot_str_join F.type_str_join (mt_join (X := X)) (pa X g) (pb X g) hs (super_of h3) hl
        rw [kk]
        exact z
    · cases h
  case dhas =>
    intro i k ih e0 sc x hc h
    simp only [chkE] at h
    split at h
    · rename_i l op r e
      simp only [Bool.and_eq_true, decide_eq_true_eq] at h
      obtain ⟨rfl, h2, h3, h4⟩ := h
      obtain ⟨p, rfl⟩ := asCmp_of e
      obtain ⟨te, pe, je⟩ := ih e0 sc l hc h2
      exact ⟨tDIn te (tVar i), fun X g => pe_cmp (pc_din (by have := g.hu; omega) (pe X g) (chkName_ok h3 X g)) (mark_of h4), je_dhas (C := C.un e0) i je⟩
    · cases h
  case tr =>
    intro e ih e0 sc x hc h
    simp only [chkT, Bool.and_eq_true] at h
    obtain ⟨te, pe, je⟩ := ih e0 sc x hc h.1
    refine ⟨tTr C.K te, fun X g => ?_, je_truth (C := C.un e0) je⟩
    have z := pt_truth (pe X g) (truth_of h.2)
    rw [g.k] at z
    exact z
  case tcmp =>
    intro o a b iha ihb e0 sc x hc h
    simp only [chkT] at h
    split at h
    · rename_i l op r e
      simp only [Bool.and_eq_true, decide_eq_true_eq] at h
      obtain ⟨h1, h2, h3, h4⟩ := h
      obtain ⟨p, rfl⟩ := asCmp_of e
      subst h1
      obtain ⟨ta, pa, ja⟩ := iha e0 sc l hc h2
      obtain ⟨tb, pb, jb⟩ := ihb e0 sc r hc h3
      refine ⟨tTest (tOp (rCop C.K o) ta tb), fun X g => ?_, je_cmpT (C := C.un e0) o ja jb⟩
      have z := pt_cmpR (pos := p) (cop_ok (X := X) g.hu o) (pa X g) (pb X g) (mark_of h4)
      rw [g.k] at z
      exact z
    · cases h
  case tisN =>
    intro a iha e0 sc x hc h
    simp only [chkT] at h
    split at h
    · rename_i l op r e
      simp only [Bool.and_eq_true, decide_eq_true_eq] at h
      obtain ⟨rfl, h3, h2⟩ := h
      obtain ⟨p, rfl⟩ := asCmp_of e
      obtain ⟨k, q, rfl⟩ := asConst_of h3
      obtain ⟨ta, pa, ja⟩ := iha e0 sc l hc h2
      exact ⟨tB (tIsN ta), fun X g => pt_cmp (pc_isN (pa X g)), je_isNT (C := C.un e0) ja⟩
    · cases h
  case tnotN =>
    intro a iha e0 sc x hc h
    simp only [chkT] at h
    split at h
    · rename_i l op r e
      simp only [Bool.and_eq_true, decide_eq_true_eq] at h
      obtain ⟨rfl, h3, h2⟩ := h
      obtain ⟨p, rfl⟩ := asCmp_of e
      obtain ⟨k, q, rfl⟩ := asConst_of h3
      obtain ⟨ta, pa, ja⟩ := iha e0 sc l hc h2
      exact ⟨tB (tNotN ta), fun X g => pt_cmp (pc_notN (pa X g)), je_notNT (C := C.un e0) ja⟩
    · cases h
  case tnot =>
    intro a iha e0 sc x hc h
    simp only [chkT] at h
    split at h
    · rename_i op l e
      simp only [Bool.and_eq_true, decide_eq_true_eq] at h
      obtain ⟨rfl, h2⟩ := h
      obtain ⟨p, rfl⟩ := asUn_of e
      obtain ⟨ta, pa, ja⟩ := iha e0 sc l hc h2
      exact ⟨tNot ta, fun X g => pt_not (pa X g), jt_not (C := C.un e0) ja⟩
    · cases h
  case tand =>
    intro a b iha ihb e0 sc x hc h
    simp only [chkT] at h
    split at h
    · rename_i op l r e
      simp only [Bool.and_eq_true, decide_eq_true_eq] at h
      obtain ⟨rfl, h2, h3⟩ := h
      obtain ⟨ta, pa, ja⟩ := iha e0 sc l hc h2
      obtain ⟨tb, pb, jb⟩ := ihb e0 sc r hc h3
      obtain ⟨p, rfl | ⟨y, z, s, rfl, rfl⟩⟩ := asBool_of e
      · exact ⟨tAnd ta tb, fun X g => (pw_and (pa X g) (pw_and1 (pb X g))).pt, jt_and (C := C.un e0) ja jb⟩
      · exact ⟨tAnd ta tb, fun X g => (pw_and (pa X g) (pw_of_bool (pb X g))).pt, jt_and (C := C.un e0) ja jb⟩
    · cases h
  case tor =>
    intro a b iha ihb e0 sc x hc h
    simp only [chkT] at h
    split at h
    · rename_i op l r e
      simp only [Bool.and_eq_true, decide_eq_true_eq] at h
      obtain ⟨rfl, h2, h3⟩ := h
      obtain ⟨ta, pa, ja⟩ := iha e0 sc l hc h2
      obtain ⟨tb, pb, jb⟩ := ihb e0 sc r hc h3
      obtain ⟨p, rfl | ⟨y, z, s, rfl, rfl⟩⟩ := asBool_of e
      · exact ⟨tOr ta tb, fun X g => (pw_or (pa X g) (pw_or1 (pb X g))).pt, jt_or (C := C.un e0) ja jb⟩
      · exact ⟨tOr ta tb, fun X g => (pw_or (pa X g) (pw_of_bool (pb X g))).pt, jt_or (C := C.un e0) ja jb⟩
    · cases h
  case fst =>
    intro es ih e0 sc x hc h
    simp only [chkE] at h
    split at h
    · rename_i xs e
      obtain ⟨ts, pj, jf⟩ := (ih e0 sc xs hc).2 h
      unfold asFst at e
      split at e
      · cases e
        exact ⟨fun σ H Q => tJs ts Str.empty σ H fun out H1 => Q (.str out) H1, fun X g => pe_joined (pj X g), fun δ σ G H S Q w => jf _ δ σ G H S _ (want_bind back_V w fun s δ1 v G1 H1 a r w1 => by
          have r' : v = s := r
          rw [r']
          exact w1.now a.st (.str _))⟩
      · cases e
    · cases h
  case nil =>
    intro e0 sc x hc
    refine ⟨fun h => ?_, fun h => ?_⟩
    · simp only [chkEs, List.isEmpty_iff] at h
      subst h
      exact ⟨tNil, fun X g => pa_nil, jd_nil, ja_nil⟩
    · simp only [chkF, List.isEmpty_iff] at h
      subst h
      exact ⟨[], fun X g => .nil, fun acc δ σ G H S Q w => w.now S rfl⟩
  case cons =>
    intro e es ihe ihs e0 sc x hc
    refine ⟨fun h => ?_, fun h => ?_⟩
    · simp only [chkEs] at h
      split at h
      · rename_i y ys
        simp only [Bool.and_eq_true] at h
        obtain ⟨h1, h2, h3⟩ := h
        obtain ⟨te, pe, je⟩ := ihe e0 sc y hc h1
        obtain ⟨ta, pa, jd, ja⟩ := (ihs e0 sc ys hc).1 h3
        exact ⟨tCons te ta, fun X g => pa_cons (pe X g) (pa X g) (star_of h2), jd_cons (C := C.un e0) je jd, ja_cons (C := C.un e0) je ja⟩
      · cases h
    · simp only [chkF] at h
      split at h
      · rename_i y ys
        simp only [Bool.and_eq_true] at h
        obtain ⟨h1, h3⟩ := h
        obtain ⟨ts, pj, jf⟩ := (ihs e0 sc ys hc).2 h3
        unfold fstB at h1
        split at h1
        · simp only [Bool.and_eq_true, decide_eq_true_eq] at h1
          obtain ⟨rfl, h1⟩ := h1
          obtain ⟨te, pe, je⟩ := ihe e0 sc _ hc h1
          exact ⟨tFmt te :: ts, fun X g => .cons (pe_fmt (pe X g)) (pj X g), jf_cons (C := C.un e0) je jf⟩
        · split at h1
          · have hs := of_decide_eq_true h1
            subst hs
            exact ⟨tFmt (tC (.str _)) :: ts, fun X g => .cons pe_fmtC (pj X g), jf_cons (C := C.un e0) (je_const (C := C.un e0) fun _ _ => .str _) jf⟩
          · cases h1
        · cases h1
      · cases h
  case no =>
    intro e0 sc x hc h
    simp only [chkO, Option.isNone_iff_eq_none] at h
    subst h
    exact ⟨tNoPart, fun X g => po_none, jo_no⟩
  case yes =>
    intro e ih e0 sc x hc h
    simp only [chkO] at h
    split at h
    · rename_i y
      obtain ⟨te, pe, je⟩ := ih e0 sc y hc h
      exact ⟨tPart te, fun X g => po_some (pe X g), jo_yes (C := C.un e0) je⟩
    · cases h
  case of =>
    intro e ih e0 sc x hc h
    obtain ⟨te, pe, je⟩ := ih e0 sc x hc (by simpa only [chkI] using h)
    refine ⟨iOr (iList C.K te) (iOr (iTup C.K te) (iStr te)), fun X tg g => ?_, ji_of (C := C.un e0) je⟩
    have z := pi_or (pi_list (tg := tg) (pe X g)) (pi_or (pi_tup (pe X g)) (pi_str (pe X g)))
    rw [g.k] at z
    exact z
  case rng1 =>
    intro e ih e0 sc x hc h
    simp only [chkI] at h
    split at h
    · rename_i n y e1
      simp only [Bool.and_eq_true, decide_eq_true_eq] at h
      obtain ⟨rfl, h2, h3, h4⟩ := h
      obtain ⟨q, p, rfl⟩ := asCall_of e1
      obtain ⟨te, pe, je⟩ := ih e0 sc y hc h3
      exact ⟨iRng1 (tCons te tNil), fun X tg g => pi_range1 (g.gl h2) (g.mg _ (by decide +kernel)) (pa_cons (pe X g) pa_nil (star_of h4)) (star_of h4), ji_rng1 (C := C.un e0) je⟩
    · cases h
  case rng2 =>
    intro e f ihe ihf e0 sc x hc h
    simp only [chkI] at h
    split at h
    · rename_i n y z e1
      simp only [Bool.and_eq_true, decide_eq_true_eq] at h
      obtain ⟨rfl, h2, h3, h4, h5, h6⟩ := h
      obtain ⟨q, p, rfl⟩ := asCall_of e1
      obtain ⟨te, pe, je⟩ := ihe e0 sc y hc h3
      obtain ⟨tf, pf, jf⟩ := ihf e0 sc z hc h5
      exact ⟨iRng2 (tCons te (tCons tf tNil)), fun X tg g => pi_range2 (g.gl h2) (g.mg _ (by decide +kernel)) (pa_cons (pe X g) (pa_cons (pf X g) pa_nil (star_of h6)) (star_of h4)) (by rw [star_of h4, star_of h6]; rfl) (star_of h6), ji_rng2 (C := C.un e0) je jf⟩
    · cases h
theorem snd_e (c : CE) (sc : Sc) (x : Expr) (hc : Ar call sc) (h : chkE c sc x = true) : SndE C w call c sc x := snd_all.1 c C.es sc x hc h
theorem snd_t (c : CT) (sc : Sc) (x : Expr) (hc : Ar call sc) (h : chkT c sc x = true) : SndT C w call c sc x := snd_all.2.1 c C.es sc x hc h
theorem snd_i (c : CI) (sc : Sc) (x : Expr) (hc : Ar call sc) (h : chkI c sc x = true) : SndI C w call c sc x := snd_all.2.2.2.2 c C.es sc x hc h
end
end J
end
section
set_option Elab.async false
set_option linter.all false
set_option autoImplicit false
set_option maxRecDepth 100000
set_option maxHeartbeats 4000000
/-! JT: the check of several names set from a written tuple. -/
namespace J
open PySem L2 PyProof.Rows
open IL (D Ow Slot Val CR RV Fl Bop Cop Tg CE CEs CT CO CI CS CB Fn Mt)
def locN (sc : Sc) (i : Nat) (x : Str) : Bool := decide (sc.N[i]? = some x) && decide (sc.scope.names.lookup x = some .local)
def parB (sc : Sc) (is : List Nat) (e : CE) (t v : Expr) : Bool := sc.calm && (decide (sc.scope.kind = .function) && (match e, is, t, v with
  | .tup es, [i, j], .Tuple [.Name x px, .Name y py] _ _, .Tuple [a, b] _ _ => locN sc i x && (locN sc j y && (decide (i ≠ j) && ((py.line == px.line) && (([x, y].eraseDups.length == 2) && (plainE a && (plainE b && (!([a, b].all (foldedForSure 8)) && (!([a, b].all (constantsAlone 8)) && chkEs es sc [a, b]))))))))
  | .tup es, [i, j, l], .Tuple [.Name x px, .Name y py, .Name z pz] _ _, .Tuple [a, b, c] _ _ => locN sc i x && (locN sc j y && (locN sc l z && (decide (i ≠ j) && (decide (i ≠ l) && (decide (j ≠ l) && ((py.line == px.line) && ((pz.line == px.line) && (([x, y, z].eraseDups.length == 3) && (plainE a && (plainE b && (plainE c && (!([a, b, c].all (foldedForSure 8)) && (!([a, b, c].all (constantsAlone 8)) && chkEs es sc [a, b, c])))))))))))))
  | _, _, _, _ => false))
section
variable {C : Ctx} {w : World} {call : Nat → Env → CR}
theorem snd_par {is : List Nat} {e : CE} {sc : Sc} {t v : Expr} {p : Pos} (hc : Ar call sc) (h : parB sc is e t v = true) : ∃ ts, (∀ X, Good C w call sc X → PS X (.Assign [t] v p) ts) ∧ JS C ts (IL.ex ⟨C.kp, call⟩ (.set (.tup is) e)) := by
  unfold parB at h
  simp only [Bool.and_eq_true, decide_eq_true_eq] at h
  obtain ⟨h1, h2, h3⟩ := h
  split at h3
  · rename_i es i j x px y py kt pt a b k2 pt2
    simp only [locN, Bool.and_eq_true, decide_eq_true_eq, Bool.not_eq_true'] at h3
    obtain ⟨⟨hi, hx⟩, ⟨hj, hy⟩, hij, hl, hn, ha, hb, hf, hk, he⟩ := h3
    obtain ⟨ta, pa, ja⟩ := (snd_all.2.2.1 es C.es sc [a, b] hc).1 he
    refine ⟨tPar i j ta, fun X g => ps_par (g.calm h1) g.nd (by rw [g.N]; exact hi) (by rw [g.N]; exact hj) hij (by rw [g.scope]; exact hx) (by rw [g.scope]; exact hy) (pa X g)
      (sws2 (by unfold Env.kindOf; rw [g.scope]; exact hx) (by unfold Env.kindOf; rw [g.scope]; exact hy) (by unfold Env.blockKind; rw [g.scope, h2]; rfl) hl hn ha hb hf hk), js_parG (is := [i, j]) (fun D σ vs H1 => ∃ v w, vs = [v, w] ∧ D.nx ((σ.set i (some v)).set j (some w)) H1) ja.1 fun De σ vs H1 e z => ?_⟩
    match vs, e, z with
    | [v, w], _, z => exact ⟨v, w, rfl, z⟩
  · rename_i es i j l x px y py z pz kt pt a b c k2 pt2
    simp only [locN, Bool.and_eq_true, decide_eq_true_eq, Bool.not_eq_true'] at h3
    obtain ⟨⟨hi, hx⟩, ⟨hj, hy⟩, ⟨hl, hz⟩, hij, hil, hjl, hl1, hl2, hn, ha, hb, hc2, hf, hk, he⟩ := h3
    obtain ⟨ta, pa, ja⟩ := (snd_all.2.2.1 es C.es sc [a, b, c] hc).1 he
    refine ⟨tPar3 i j l ta, fun X g => ps_par3 (g.calm h1) g.nd (by rw [g.N]; exact hi) (by rw [g.N]; exact hj) (by rw [g.N]; exact hl) hij hil hjl (by rw [g.scope]; exact hx) (by rw [g.scope]; exact hy) (by rw [g.scope]; exact hz) (pa X g)
      (sws3 (by unfold Env.kindOf; rw [g.scope]; exact hx) (by unfold Env.kindOf; rw [g.scope]; exact hy) (by unfold Env.kindOf; rw [g.scope]; exact hz) (by unfold Env.blockKind; rw [g.scope, h2]; rfl) hl1 hl2 hn ha hb hc2 hf hk), js_parG (is := [i, j, l]) (fun D σ vs H1 => ∃ u v w, vs = [u, v, w] ∧ D.nx (((σ.set i (some u)).set j (some v)).set l (some w)) H1) ja.1 fun De σ vs H1 e z => ?_⟩
    match vs, e, z with
    | [u, v, w], _, z => exact ⟨u, v, w, rfl, z⟩
  · cases h3
end
end J
end
section
set_option Elab.async false
set_option linter.all false
set_option autoImplicit false
set_option maxRecDepth 100000
set_option maxHeartbeats 4000000
/-! J12: statements: the check and what it is worth. -/
namespace J
open PySem L2 PyProof.Rows
open IL (D Ow Slot Val CR RV Fl Bop Cop Tg wipeE ownIx putBack argSlot CE CEs CT CO CI CS CB Fn Mt)
open DG (Clr FnG)
def isLc : CE → Bool
  | .lc .. => true
  | .lcIf .. => true
  | _ => false
def swB (sc : Sc) : Expr → Expr → Bool
  | .Name y py, .ListComp _ _ s p => decide (sc.scope.names.lookup y = some .local) && ((py.line == p.line) && !(s.names.any fun (n, k) => n == y && (k == .local || k == .cell)))
  | _, _ => false
def cellB (sc : Sc) : Expr → Bool
  | .Name y _ => decide (sc.scope.names.lookup y = some .cell)
  | _ => false
def setB (sc : Sc) (i : Nat) (e : CE) (t v : Expr) : Bool := chkTgt sc i t && (chkE e sc v && (notComp v || ((isLc e && swB sc t v) || (cellB sc t && plainE v))))
def asPass : Stmt → Bool
  | .Pass _ => true
  | .Expr (.Constant (.str _) _ _) _ => true
  | _ => false
def asAsg : Stmt → Option (Expr × Expr)
  | .Assign [t] v _ => some (t, v)
  | _ => none
def asExp : Stmt → Option Expr
  | .Expr v _ => some v
  | _ => none
def asRet : Stmt → Option (Option Expr)
  | .Return v _ => some v
  | _ => none
def asIfS : Stmt → Option (Expr × List Stmt × List Stmt)
  | .If t a b _ => some (t, a, b)
  | _ => none
def asWhS : Stmt → Option (Expr × List Stmt)
  | .While t a [] _ => some (t, a)
  | _ => none
def asForS : Stmt → Option (Expr × Expr × List Stmt)
  | .For t i a [] _ => some (t, i, a)
  | _ => none
def asBrk : Stmt → Bool
  | .Break _ => true
  | _ => false
def asCnt : Stmt → Bool
  | .Continue _ => true
  | _ => false
def asRaise : Stmt → Option (Str × Expr)
  | .Raise (some (.Call (.Name n _) [y] [] _)) none _ => some (n, y)
  | _ => none
def asTry : Stmt → Option (List Stmt × Str × Str × List Stmt)
  | .Try body [.ExceptHandler (some (.Name x _)) (some n) suite _] [] [] _ => some (body, x, n, suite)
  | _ => none
/-- a walk that serves while an exception is handled, too -/
def hotL : Tg → CI → Bool
  | .name _, .rng1 _ => true
  | _, _ => false
mutual
def chkS : CS → Sc → Stmt → Bool
  | .pass => fun sc s => asPass s
  | .set (.name i) e => fun sc s => match asAsg s with
    | some (t, v) => setB sc i e t v
    | none => false
  | .set (.tup is) e => fun sc s => match asAsg s with
    | some (t, v) => parB sc is e t v || (chkG sc (.tup is) t && (chkE e sc v && notTup v))
    | none => false
  | .setI i e1 e2 => fun sc s => match asAsg s with
    | some (t, v) => (match asSub t with
      | some (o, k) => chkName sc i o && (chkE e1 sc k && (plainE k && (chkE e2 sc v && notComp v)))
      | none => false)
    | none => false
  | .exp e => fun sc s => match asExp s with
    | some v => chkE e sc v && notComp v
    | none => false
  | .ret e => fun sc s => match asRet s with
    | some (some v) => chkE e sc v
    | _ => false
  | .retN => fun sc s => match asRet s with
    | some none => true
    | _ => false
  | .cond c a b => fun sc s => match asIfS s with
    | some (t, x, y) => chkT c sc t && (chkB a sc x && chkB b sc y)
    | none => false
  | .wh c a => fun sc s => match asWhS s with
    | some (t, x) => chkT c sc t && chkB a sc x
    | none => false
  | .loop g it a => fun sc s => match asForS s with
    | some (t, i, x) => (sc.calm || hotL g it) && (chkG sc g t && (chkI it sc i && (plainE i && chkB a sc x)))
    | none => false
  | .brk => fun sc s => asBrk s
  | .cont => fun sc s => asCnt s
  | .dset i k e => fun sc s => match asAsg s with
    | some (t, v) => (match asSub t with
      | some (o, x) => chkName sc i o && (chkE k sc x && (plainE x && (chkE e sc v && notComp v)))
      | none => false)
    | none => false
  | .raise c f e => fun sc s => match asRaise s with
    | some (n, y) => sc.calm && (decide (sc.xs[c]? = some (n, f)) && (glB sc n && (okN n && (chkE e sc y && plainE y))))
    | none => false
  | .tryx b n cs ns i h => fun sc s => match asTry s with
    | some (body, x, nm, suite) => sc.calm && (sc.top && (decide (sc.N[i]? = some nm) && (decide (sc.scope.names.lookup nm = some .local) && (decide (x = n) && (glB sc n && (okN n && (decide (sc.xb.lookup n = some (cs, ns)) &&
      (chkB b sc body && (!suite.isEmpty && chkB h { sc with calm := false } suite)))))))))
    | none => false
def chkB : CB → Sc → List Stmt → Bool
  | .nil => fun sc ss => ss.isEmpty
  | .cons s b => fun sc ss => match ss with
    | x :: xs => chkS s sc x && chkB b sc xs
    | [] => false
end
theorem asAsg_of {s : Stmt} {t v : Expr} (h : asAsg s = some (t, v)) : ∃ p, s = .Assign [t] v p := by
  unfold asAsg at h
  split at h
  · cases h; exact ⟨_, rfl⟩
  · cases h
theorem asExp_of {s : Stmt} {v : Expr} (h : asExp s = some v) : ∃ p, s = .Expr v p := by
  unfold asExp at h
  split at h
  · cases h; exact ⟨_, rfl⟩
  · cases h
theorem asRet_of {s : Stmt} {v : Option Expr} (h : asRet s = some v) : ∃ p, s = .Return v p := by
  unfold asRet at h
  split at h
  · cases h; exact ⟨_, rfl⟩
  · cases h
theorem asIfS_of {s : Stmt} {t : Expr} {a b : List Stmt} (h : asIfS s = some (t, a, b)) : ∃ p, s = .If t a b p := by
  unfold asIfS at h
  split at h
  · cases h; exact ⟨_, rfl⟩
  · cases h
theorem asWhS_of {s : Stmt} {t : Expr} {a : List Stmt} (h : asWhS s = some (t, a)) : ∃ p, s = .While t a [] p := by
  unfold asWhS at h
  split at h
  · cases h; exact ⟨_, rfl⟩
  · cases h
theorem asForS_of {s : Stmt} {t i : Expr} {a : List Stmt} (h : asForS s = some (t, i, a)) : ∃ p, s = .For t i a [] p := by
  unfold asForS at h
  split at h
  · cases h; exact ⟨_, rfl⟩
  · cases h
theorem asRaise_of {s : Stmt} {n : Str} {y : Expr} (h : asRaise s = some (n, y)) : ∃ q p p2, s = .Raise (some (.Call (.Name n q) [y] [] p)) none p2 := by
  unfold asRaise at h
  split at h
  · cases h; exact ⟨_, _, _, rfl⟩
  · cases h
theorem asTry_of {s : Stmt} {body suite : List Stmt} {x n : Str} (h : asTry s = some (body, x, n, suite)) : ∃ q p p2, s = .Try body [.ExceptHandler (some (.Name x q)) (some n) suite p] [] [] p2 := by
  unfold asTry at h
  split at h
  · cases h; exact ⟨_, _, _, rfl⟩
  · cases h
theorem asBrk_of {s : Stmt} (h : asBrk s = true) : ∃ p, s = .Break p := by
  unfold asBrk at h
  split at h
  · exact ⟨_, rfl⟩
  · cases h
theorem asCnt_of {s : Stmt} (h : asCnt s = true) : ∃ p, s = .Continue p := by
  unfold asCnt at h
  split at h
  · exact ⟨_, rfl⟩
  · cases h
def SndS (C : Ctx) (w : World) (call : Nat → Env → CR) (c : CS) (sc : Sc) (s : Stmt) : Prop := ∃ ts, (∀ X, Good C w call sc X → PS X s ts) ∧ JS C ts (IL.ex ⟨C.kp, call⟩ c)
def SndB (C : Ctx) (w : World) (call : Nat → Env → CR) (c : CB) (sc : Sc) (ss : List Stmt) : Prop := ∃ ts, (∀ X, Good C w call sc X → PSs X ss ts) ∧ JS C ts (IL.exs ⟨C.kp, call⟩ c)
section
variable {C : Ctx} {w : World} {call : Nat → Env → CR}
theorem sole_cell {sc : Sc} {t v : Expr} {l : Nat} {X : Cx} (hX : X.env.scope = sc.scope) (h : cellB sc t = true) (hp : plainE v = true) : swapsWithSole [t] v l X.env = pure false := by
  by_cases hn : notComp v = true
  · exact sole_of hn
  · cases v <;> first | (cases hp; done) | (exact absurd rfl hn) | skip
    rename_i elt gs s p
    cases t <;> first | (cases h; done) | skip
    rename_i y py
    simp only [cellB, decide_eq_true_eq] at h
    have ky : X.env.kindOf y = some .cell := by unfold Env.kindOf; rw [hX]; exact h
    unfold swapsWithSole swapsWith
    have kc : (some NameKind.cell == some NameKind.local) = false := by decide
    simp only [ky, kc, Bool.and_false, Bool.false_and]
theorem store_of {i : Nat} {sc : Sc} {t v : Expr} {env : PySem.Env} (h : chkTgt sc i t = true) : swappedStores [t] v env = pure none ∧ (assignEach [t] env).map (·.2) = [assign t env] := by
  cases t <;> first | exact ⟨rfl, rfl⟩ | cases h
theorem storeT_of {t v : Expr} {env : PySem.Env} (hv : notTup v = true) (ht : ∃ is sc, chkG sc (.tup is) t = true) : swappedStores [t] v env = pure none ∧ (assignEach [t] env).map (·.2) = [assign t env] := by
  obtain ⟨is, sc, h⟩ := ht
  cases t <;> first | (cases h; done) | skip
  cases v <;> first | exact ⟨rfl, rfl⟩ | cases hv
theorem notTup_comp {v : Expr} (h : notTup v = true) : notComp v = true := by
  cases v <;> first | rfl | exact h | cases h
theorem snd_set {i : Nat} {e : CE} {sc : Sc} {t v : Expr} {p : Pos} (hc : Ar call sc) (h : setB sc i e t v = true) : SndS C w call (.set (.name i) e) sc (.Assign [t] v p) := by
  simp only [setB, Bool.and_eq_true, Bool.or_eq_true] at h
  obtain ⟨h1, h2, h3⟩ := h
  have plain : (∀ X, Good C w call sc X → swapsWithSole [t] v p.line X.env = pure false) → SndS C w call (.set (.name i) e) sc (.Assign [t] v p) := fun hs => by
    obtain ⟨te, pe, je⟩ := snd_e (C := C) (w := w) e sc v hc h2
    exact ⟨tAsg te (gName i), fun X g => ps_asg (pe X g) (chkTgt_ok h1 X g) (hs X g) (store_of (v := v) h1).1 (store_of (v := v) h1).2, js_set (C := C) je⟩
  rcases h3 with h3 | ⟨h3, h4⟩ | ⟨h3, h4⟩
  · exact plain fun X g => sole_of h3
  · cases t <;> first | (cases h1; done) | skip
    rename_i y py
    have hN : sc.N[i]? = some y := by
      simp only [chkTgt, Bool.and_eq_true, decide_eq_true_eq] at h1
      exact h1.1
    cases e <;> first | (cases h3; done) | skip
    · rename_i e g it vs
      simp only [chkE] at h2
      split at h2
      · rename_i elt tg iter s e1
        simp only [Bool.and_eq_true] at h2
        obtain ⟨q1, q2, q3⟩ := h2
        obtain ⟨p1, rfl⟩ := asLc_of e1
        simp only [swB, Bool.and_eq_true, decide_eq_true_eq, Bool.not_eq_true'] at h4
        obtain ⟨k1, k2, k3⟩ := h4
        obtain ⟨b0, b1, b2, b3, b4, b5, b6⟩ := lcB_of q1
        obtain ⟨wi, pi, ji⟩ := snd_i (C := C) (w := w) it sc iter hc q2
        obtain ⟨te, pe, je⟩ := snd_e (C := C.un fun _ _ _ _ => False) (w := w) e (sc.blk s) elt hc q3
        obtain ⟨gt, pg, jg⟩ := chkG_ok (C := C.un fun _ _ _ _ => False) (w := w) (call := call) b6
        have hk : sc.scope.kind = .function := by
          unfold isFun at b3
          split at b3
          · assumption
          · cases b3
        exact ⟨tAsg (tLc wi gt tYes te vs) (gName i), setLc_ok (C := C) (g := g) b1 b2 b3 b4 b0 (fun X G => pi X tg G) pg (fun X G => pts_nil) pe hN k1 (fun X hX => sw_true (by rw [hX]; exact hk) (by rw [hX]; exact k1) k2 k3),
          js_set (C := C) (je_lc (C := C) (e' := fun _ _ _ _ => False) ji (jg_un jg) b5 (fun δ σ G H S Q q => q.now S rfl) je)⟩
      · cases h2
    · rename_i e g it c vs
      simp only [chkE] at h2
      split at h2
      · rename_i elt tg iter t s e1
        simp only [Bool.and_eq_true] at h2
        obtain ⟨q1, q2, q3, q4⟩ := h2
        obtain ⟨p1, rfl⟩ := asLc_of e1
        simp only [swB, Bool.and_eq_true, decide_eq_true_eq, Bool.not_eq_true'] at h4
        obtain ⟨k1, k2, k3⟩ := h4
        obtain ⟨b0, b1, b2, b3, b4, b5, b6⟩ := lcB_of q1
        obtain ⟨wi, pi, ji⟩ := snd_i (C := C) (w := w) it sc iter hc q2
        obtain ⟨tt, pt, jt⟩ := snd_t (C := C.un fun _ _ _ _ => False) (w := w) c (sc.blk s) t hc q3
        obtain ⟨te, pe, je⟩ := snd_e (C := C.un fun _ _ _ _ => False) (w := w) e (sc.blk s) elt hc q4
        obtain ⟨gt, pg, jg⟩ := chkG_ok (C := C.un fun _ _ _ _ => False) (w := w) (call := call) b6
        have hk : sc.scope.kind = .function := by
          unfold isFun at b3
          split at b3
          · assumption
          · cases b3
        exact ⟨tAsg (tLc wi gt tt te vs) (gName i), setLc_ok (C := C) (g := g) b1 b2 b3 b4 b0 (fun X G => pi X tg G) pg (fun X G => pts_one (pt X G)) pe hN k1 (fun X hX => sw_true (by rw [hX]; exact hk) (by rw [hX]; exact k1) k2 k3),
          js_set (C := C) (je_lc (C := C) (e' := fun _ _ _ _ => False) ji (jg_un jg) b5 jt je)⟩
      · cases h2
  · exact plain fun X g => sole_cell g.scope h3 h4
theorem cs_ind {m1 : CS → Prop} {m2 : CB → Prop} (h_pass : m1 .pass) (h_set : ∀ g e, m1 (.set g e)) (h_setI : ∀ i a b, m1 (.setI i a b)) (h_exp : ∀ e, m1 (.exp e)) (h_ret : ∀ e, m1 (.ret e)) (h_retN : m1 .retN) (h_cond : ∀ c a b, m2 a → m2 b → m1 (.cond c a b)) (h_wh : ∀ c a, m2 a → m1 (.wh c a)) (h_loop : ∀ g it a, m2 a → m1 (.loop g it a)) (h_brk : m1 .brk) (h_cont : m1 .cont) (h_dset : ∀ i k e, m1 (.dset i k e)) (h_raise : ∀ c f e, m1 (.raise c f e)) (h_tryx : ∀ b n cs ns i h, m2 b → m2 h → m1 (.tryx b n cs ns i h))
    (h_nil : m2 .nil) (h_cons : ∀ s b, m1 s → m2 b → m2 (.cons s b)) : (∀ c, m1 c) ∧ (∀ c, m2 c) :=
  ⟨fun c => CS.rec (motive_1 := m1) (motive_2 := m2) h_pass h_set h_setI h_exp h_ret h_retN h_cond h_wh h_loop h_brk h_cont h_dset h_raise h_tryx h_nil h_cons c, fun c => CB.rec (motive_1 := m1) (motive_2 := m2) h_pass h_set h_setI h_exp h_ret h_retN h_cond h_wh h_loop h_brk h_cont h_dset h_raise h_tryx h_nil h_cons c⟩
theorem snd_stmts : (∀ c (C : Ctx) sc x, Ar call sc → chkS c sc x = true → SndS C w call c sc x) ∧ (∀ c (C : Ctx) sc x, Ar call sc → chkB c sc x = true → SndB C w call c sc x) := by
  refine cs_ind ?pass ?set ?setI ?exp ?ret ?retN ?cond ?wh ?loop ?brk ?cont ?dset ?raise ?tryx ?nil ?cons
  case pass =>
    intro C sc s hc h
    simp only [chkS] at h
    unfold asPass at h
    split at h
    · exact ⟨tNext, fun X g => ps_pass, js_next⟩
    · exact ⟨tNext, fun X g => ps_doc, js_next⟩
    · cases h
  case set =>
    intro g e C sc s hc h
    cases g with
    | name i =>
      simp only [chkS] at h
      split at h
      · rename_i t v e1
        obtain ⟨p, rfl⟩ := asAsg_of e1
        exact snd_set hc h
      · cases h
    | tup is =>
      simp only [chkS] at h
      split at h
      · rename_i t v e1
        simp only [Bool.and_eq_true, Bool.or_eq_true] at h
        obtain ⟨p, rfl⟩ := asAsg_of e1
        rcases h with h | h
        · exact snd_par hc h
        obtain ⟨h1, h2, h3⟩ := h
        obtain ⟨te, pe, je⟩ := snd_e (C := C) (w := w) e sc v hc h2
        obtain ⟨gt, pg, jg⟩ := chkG_ok (C := C) (w := w) (call := call) h1
        have hs := fun env => storeT_of (env := env) h3 ⟨is, sc, h1⟩
        exact ⟨tAsg te gt, fun X g => ps_asg (pe X g) (pg X g) (sole_of (notTup_comp h3)) (hs _).1 (hs _).2, js_setT (C := C) jg je⟩
      · cases h
  case setI =>
    intro i e1 e2 C sc s hc h
    simp only [chkS] at h
    split at h
    · rename_i t v q1
      split at h
      · rename_i o k q2
        simp only [Bool.and_eq_true] at h
        obtain ⟨h1, h2, h3, h4, h5⟩ := h
        obtain ⟨p, rfl⟩ := asAsg_of q1
        obtain ⟨p2, rfl⟩ := asSub_of q2
        obtain ⟨t1, p1, j1⟩ := snd_e (C := C) (w := w) e1 sc k hc h2
        obtain ⟨t2, pe2, j2⟩ := snd_e (C := C) (w := w) e2 sc v hc h4
        refine ⟨tAsg t2 (gSub (tVar i) t1 rSetL), fun X g => ps_asg (pe2 X g) (pg_sub (chkName_ok h1 X g) (p1 X g) set_list (fun v => ?_)) (sole_of h5) rfl rfl, js_setI (C := C) j1 j2⟩
        cases k <;> first | rfl | cases h3
      · cases h
    · cases h
  case exp =>
    intro e C sc s hc h
    simp only [chkS] at h
    split at h
    · rename_i v q1
      simp only [Bool.and_eq_true] at h
      obtain ⟨p, rfl⟩ := asExp_of q1
      obtain ⟨te, pe, je⟩ := snd_e (C := C) (w := w) e sc v hc h.1
      exact ⟨tDrop te, fun X g => ps_expr (pe X g) (expr_of h.2), js_exp (C := C) je⟩
    · cases h
  case ret =>
    intro e C sc s hc h
    simp only [chkS] at h
    split at h
    · rename_i v q1
      obtain ⟨p, rfl⟩ := asRet_of q1
      obtain ⟨te, pe, je⟩ := snd_e (C := C) (w := w) e sc v hc h
      exact ⟨tRet te, fun X g => ps_ret (pe X g), js_ret (C := C) je⟩
    · cases h
  case retN =>
    intro C sc s hc h
    simp only [chkS] at h
    split at h
    · rename_i q1
      obtain ⟨p, rfl⟩ := asRet_of q1
      exact ⟨tRetN, fun X g => ps_retN, js_retN⟩
    · cases h
  case cond =>
    intro c a b iha ihb C sc s hc h
    simp only [chkS] at h
    split at h
    · rename_i t x y q1
      simp only [Bool.and_eq_true] at h
      obtain ⟨h1, h2, h3⟩ := h
      obtain ⟨p, rfl⟩ := asIfS_of q1
      obtain ⟨tt, pt, jt⟩ := snd_t (C := C) (w := w) c sc t hc h1
      obtain ⟨ta, pa, ja⟩ := iha C sc x hc h2
      obtain ⟨tb, pb, jb⟩ := ihb C sc y hc h3
      exact ⟨tIfS tt ta tb, fun X g => ps_if (pt X g) (pa X g) (pb X g), js_if (C := C) jt ja jb⟩
    · cases h
  case wh =>
    intro c a iha C sc s hc h
    simp only [chkS] at h
    split at h
    · rename_i t x q1
      simp only [Bool.and_eq_true] at h
      obtain ⟨p, rfl⟩ := asWhS_of q1
      obtain ⟨tt, pt, jt⟩ := snd_t (C := C) (w := w) c sc t hc h.1
      obtain ⟨ta, pa, ja⟩ := iha C sc x hc h.2
      exact ⟨tWhile tt ta, fun X g => ps_while g.po (pt X g) (pa X g), js_while (C := C) IL.fuel jt ja⟩
    · cases h
  case loop =>
    intro g it a iha C sc s hc h
    simp only [chkS] at h
    split at h
    · rename_i t i x q1
      simp only [Bool.and_eq_true, Bool.or_eq_true] at h
      obtain ⟨h0, h1, h2, h3, h4⟩ := h
      obtain ⟨p, rfl⟩ := asForS_of q1
      obtain ⟨gt, pg, jg⟩ := chkG_ok (C := C) (w := w) (call := call) h1
      obtain ⟨ta, pa, ja⟩ := iha C sc x hc h4
      cases hcalm : sc.calm with
      | true =>
        obtain ⟨wi, pi, ji⟩ := snd_i (C := C) (w := w) it sc i hc h2
        exact ⟨tFor wi gt ta, fun X g => ps_for g.po (g.calm hcalm) (pi X t g) (pg X g) (pa X g) (fold_of h3), js_for (C := C) ji jg ja⟩
      | false =>
        have h0 : hotL g it = true := h0.resolve_left (fun z => by rw [hcalm] at z; cases z)
        cases it with
        | of _ => cases g <;> cases h0
        | rng2 _ _ => cases g <;> cases h0
        | rng1 e =>
          simp only [chkI] at h2
          split at h2
          · rename_i n y q2
            simp only [Bool.and_eq_true, decide_eq_true_eq] at h2
            obtain ⟨rfl, k2, k3, k4⟩ := h2
            obtain ⟨pq, p2, rfl⟩ := asCall_of q2
            obtain ⟨te, pe, je⟩ := snd_e (C := C) (w := w) e sc y hc k3
            refine ⟨tFor (iRng1 (tCons te tNil)) gt ta, fun X gd => ?_, js_for (C := C) (ji_rng1 je) jg ja⟩
            obtain ⟨xc, oe, z1, z2, _, _⟩ := gd.heat hcalm
            exact L2H.ps_forH gd.po ⟨_, z2, z1⟩ (L2H.pi_range1H (gd.gl k2) (gd.mg _ (by decide +kernel)) (pa_cons (pe X gd) pa_nil (star_of k4)) (star_of k4)) (pg X gd) (pa X gd) (fold_of h3)
          · cases h2
    · cases h
  case brk =>
    intro C sc s hc h
    obtain ⟨p, rfl⟩ := asBrk_of (show asBrk s = true from h)
    exact ⟨tBreak, fun X g => ps_break, js_break⟩
  case cont =>
    intro C sc s hc h
    obtain ⟨p, rfl⟩ := asCnt_of (show asCnt s = true from h)
    exact ⟨tCont, fun X g => ps_continue, js_cont⟩
  case dset =>
    intro i k e C sc s hc h
    simp only [chkS] at h
    split at h
    · rename_i t v q1
      split at h
      · rename_i o x q2
        simp only [Bool.and_eq_true] at h
        obtain ⟨h1, h2, h3, h4, h5⟩ := h
        obtain ⟨p, rfl⟩ := asAsg_of q1
        obtain ⟨p2, rfl⟩ := asSub_of q2
        obtain ⟨t1, p1, j1⟩ := snd_e (C := C) (w := w) k sc x hc h2
        obtain ⟨t2, pe2, j2⟩ := snd_e (C := C) (w := w) e sc v hc h4
        refine ⟨sDPut (tVar i) t1 t2, fun X g => ps_dput (by have := g.hu; omega) (chkName_ok h1 X g) (p1 X g) (pe2 X g) ?_, js_dset (C := C) i j1 j2⟩
        cases v <;> first | rfl | cases h5
      · cases h
    · cases h
  case raise =>
    intro c f e C sc s hc h
    simp only [chkS] at h
    split at h
    · rename_i n y q1
      simp only [Bool.and_eq_true, decide_eq_true_eq] at h
      obtain ⟨h1, h2, h3, h4, h5, h6⟩ := h
      obtain ⟨q, p, p2, rfl⟩ := asRaise_of q1
      obtain ⟨te, pe, je⟩ := snd_e (C := C) (w := w) e sc y hc h5
      by_cases hG : ∃ X, Good C w call sc X
      · obtain ⟨X1, g1⟩ := hG
        obtain ⟨A, _, _, _, _, hA, _⟩ := (g1.xs c n f h2).ex
        refine ⟨_, fun X g => ?_, js_raise (C := C) (f := f) c hA je⟩
        obtain ⟨A2, fI, fd, ps, k, hA2, hm, ho, _, _, hi, ht, hF, hk, hb⟩ := (g.xs c n f h2).ex
        have eA : A2 = A := by
          have z := hA2.symm.trans hA
          cases z
          rfl
        subst eA
        have hF0 := hF CX0
        exact L2N.ps_raise (W := fun cls d σ H => C.es σ cls d H) (g.calm h1) g.tk (pmk_oexN (CX := CX0) ho hi ht hF0 ((g.room h1).mono (by omega)) hb (fun _ _ _ _ _ _ _ z => z.elim) (g.gl h3) hm (pa_cons (pe X g) pa_nil (star_of h6)) (okN_1 h4).1 (star_of h6) rfl)
      · exact ⟨fun _ _ _ => True, fun X g => absurd ⟨X, g⟩ hG, fun _ _ _ _ _ _ _ => True.intro⟩
    · cases h
  case tryx =>
    intro b n cs ns i h' ihb ihh C sc s hc h
    simp only [chkS] at h
    split at h
    · rename_i body x nm suite q1
      simp only [Bool.and_eq_true, decide_eq_true_eq, Bool.not_eq_true'] at h
      obtain ⟨h1, h2, h3, h4, rfl, h6, h7, h8, h9, h10, h11⟩ := h
      obtain ⟨q, p, p2, rfl⟩ := asTry_of q1
      have ⟨b0, rest, hs⟩ : ∃ b0 rest, suite = b0 :: rest := by
        cases suite with
        | nil => cases h10
        | cons b0 rest => exact ⟨b0, rest, rfl⟩
      by_cases hG : ∃ X, Good C w call sc X
      · obtain ⟨X1, g1⟩ := hG
        obtain ⟨hlt, ⟨cv, r1, r2, _, ky, kn⟩⟩ := g1.xb x cs ns h8
        have kK : X1.K = C.K.K := g1.k
        have hn := g1.nox h1
        have sb : ∀ W : WX, SndB (C.un fun σ cls d H => W cls d σ H) w call b sc body := fun W => ihb _ sc body hc h9
        have sx : ∀ xc : XC, SndB ⟨⟨C.K.K, some xc⟩, C.kp, C.xv, C.nv, fun _ _ _ _ => False⟩ w call h' { sc with calm := false } suite := fun xc => ihh _ { sc with calm := false } suite hc h11
        refine ⟨fun De σ H => Classical.choose (sb (wAs C.K cv i (tSuite C.xv cs fun xc => Classical.choose (sx xc)) (fun cls d σ H => C.es σ cls d H) De)) De σ H, fun X g => ?_,
          js_try (C := C) (cv := cv) (tb := fun W => Classical.choose (sb W)) (tx := fun xc => Classical.choose (sx xc)) (fb := IL.exs ⟨C.kp, call⟩ b) (fh := IL.exs ⟨C.kp, call⟩ h') (cs := cs) (ns := ns) (i := i) hn (fun c hc => by rw [← kK]; exact (ky c hc).1) (fun c hc => by rw [← kK]; exact (kn c hc).1) (fun W => (Classical.choose_spec (sb W)).2) (fun xc _ => (Classical.choose_spec (sx xc)).2)⟩
        obtain ⟨_, ⟨cv2, s1, s2, s3, _⟩⟩ := g.xb x cs ns h8
        have ecv : cv2 = cv := (r2 cv2 s1)
        subst ecv
        have kk : X.K = C.K.K := g.k
        · have z := L2N.ps_try_as (X := X) (x := x) (n := nm) (c := cv2) (i := i) (body := body) (suite := rest) (b₀ := b0) (np := q) (pos := p2) (pos' := p) (tb := fun W => Classical.choose (sb W)) (ts := tSuite C.xv cs fun xc => Classical.choose (sx xc)) (Wout := fun cls d σ H => C.es σ cls d H)
            (g.stk h2).1 (g.stk h2).2 g.nd (by rw [g.N]; exact h3) (by unfold Env.kindOf; rw [g.scope]; exact h4) ⟨g.gl h6, (okN_1 h7).1, s3⟩ g.tk
            (fun W pn xe tkW po => (Classical.choose_spec (sb W)).1 (X.tr pn xe) ⟨g.k, g.w, g.N, g.nd, g.scope, g.calm, g.nox, g.clr, g.hu, po, tkW, g.mg, g.fn, g.stk, g.room, g.calls, g.hots, g.gc, g.xs, g.xb, (fun y hy => by
              have hy' : C.K.xc = some y := hy
              rw [hn] at hy'
              cases hy'), g.hx⟩)
            (fun a oe cls d pn hz hf => hs ▸ ⟨fun pins s σ H D I ⟨xc, ea, ec, ed, hcs, hq⟩ => by
              subst ea ec ed
              refine ((Classical.choose_spec (sx xc)).1 (X.suite xc.a ((xc.a, oe) :: pn)) ⟨g.k, g.w, g.N, g.nd, g.scope, fun h => (by cases h), fun h => (by cases h), g.clr, g.hu, PassesOwn.never, fun u s' ⟨_, _, _, _, _, _, _, _, _, _, _, _, _, _, _, _, z⟩ => z, g.mg, g.fn, g.stk, fun h => (by cases h), fun h => (by cases h), fun f x n e1 e2 => ?_, g.gc, g.xs, g.xb, fun y hy => ?_, fun _ => ⟨xc, rfl⟩⟩).run pins s σ H D I hq
              · obtain ⟨fa, fd, ps, k, u1, u2, u3, u4, u5, u6⟩ := g.hots f x n e1 e2
                exact ⟨fa, fd, ps, k, u1, u2, u3, ⟨u4.dp, u4.un⟩, u5, u6⟩
              · cases hy
                exact ⟨⟨_, _, List.getElem?_eq_getElem (hlt _ hcs)⟩, oe, List.mem_cons_self, hz, hf, rfl⟩⟩)
          rw [kk, ← hs] at z
          exact z
      · exact ⟨fun _ _ _ => True, fun X g => absurd ⟨X, g⟩ hG, fun _ _ _ _ _ _ _ => True.intro⟩
    · cases h
  case nil =>
    intro C sc s hc h
    simp only [chkB, List.isEmpty_iff] at h
    subst h
    exact ⟨tNext, fun X g => pss_nil, js_next⟩
  case cons =>
    intro s b ihs ihb C sc ss hc h
    simp only [chkB] at h
    split at h
    · rename_i x xs
      simp only [Bool.and_eq_true] at h
      obtain ⟨t1, p1, j1⟩ := ihs C sc x hc h.1
      obtain ⟨t2, p2, j2⟩ := ihb C sc xs hc h.2
      exact ⟨tSeq t1 t2, fun X g => pss_cons (p1 X g) (p2 X g), js_seq (C := C) j1 j2⟩
    · cases h
theorem snd_b (c : CB) (sc : Sc) (x : List Stmt) (hc : Ar call sc) (h : chkB c sc x = true) : SndB C w call c sc x := snd_stmts.2 c C sc x hc h
end
end J
end
section
set_option Elab.async false
set_option linter.all false
set_option autoImplicit false
set_option maxRecDepth 100000
set_option maxHeartbeats 4000000
/-! J13: defs, level by level; the end of a law. -/
namespace J
open PySem L2 PyProof.Rows
open IL (D Ow Slot Val CR RV Fl Bop Cop Tg wipeE ownIx putBack argSlot CE CEs CT CO CI CS CB Fn Mt backE)
open DG (Clr FnG FnX)
theorem backE_get : ∀ {δ δ' : Env} {i : Nat} {s : Slot}, (backE δ δ')[i]? = some s → (∃ o, δ[i]? = some (.ow o) ∧ (δ'[i]? = some s ∨ s = .ow o)) ∨ ((∀ o, s ≠ .ow o) ∧ δ[i]? = some s)
  | [], δ', i, s, h => by
    simp [IL.backE] at h
  | .ow o :: δ, [], 0, s, h => by
    simp [IL.backE] at h
    subst h
    exact .inl ⟨o, rfl, .inr rfl⟩
  | .ow o :: δ, s' :: δ', 0, s, h => by
    simp [IL.backE] at h
    subst h
    exact .inl ⟨o, rfl, .inl rfl⟩
  | .un :: δ, [], 0, s, h => by
    simp [IL.backE] at h
    subst h
    exact .inr ⟨(by intro o z; cases z), rfl⟩
  | .un :: δ, s' :: δ', 0, s, h => by
    simp [IL.backE] at h
    subst h
    exact .inr ⟨(by intro o z; cases z), rfl⟩
  | .im d :: δ, [], 0, s, h => by
    simp [IL.backE] at h
    subst h
    exact .inr ⟨(by intro o z; cases z), rfl⟩
  | .im d :: δ, s' :: δ', 0, s, h => by
    simp [IL.backE] at h
    subst h
    exact .inr ⟨(by intro o z; cases z), rfl⟩
  | .xc c d :: δ, [], 0, s, h => by
    simp [IL.backE] at h
    subst h
    exact .inr ⟨(by intro o z; cases z), rfl⟩
  | .xc c d :: δ, s' :: δ', 0, s, h => by
    simp [IL.backE] at h
    subst h
    exact .inr ⟨(by intro o z; cases z), rfl⟩
  | x :: δ, [], i + 1, s, h => by
    have h' : δ[i]? = some s := by
      cases x <;> simpa [IL.backE] using h
    cases s with
    | ow o => exact .inl ⟨o, by simpa using h', .inr rfl⟩
    | un => exact .inr ⟨(by intro o z; cases z), by simpa using h'⟩
    | im d => exact .inr ⟨(by intro o z; cases z), by simpa using h'⟩
    | xc c d => exact .inr ⟨(by intro o z; cases z), by simpa using h'⟩
  | x :: δ, s' :: δ', i + 1, s, h => by
    have h' : (backE δ δ')[i]? = some s := by
      cases x <;> simpa [IL.backE] using h
    rcases backE_get h' with ⟨o, a, b⟩ | ⟨a, b⟩
    · exact .inl ⟨o, by simpa using a, by simpa using b⟩
    · exact .inr ⟨a, by simpa using b⟩
theorem backE_len : ∀ {δ δ' : Env}, (backE δ δ').length = δ.length
  | [], _ => by simp [IL.backE]
  | .ow o :: δ, [] => by simp [IL.backE]
  | .un :: δ, [] => by simp [IL.backE]
  | .im o :: δ, [] => by simp [IL.backE]
  | .xc c d :: δ, [] => by simp [IL.backE]
  | .xc c d :: δ, s :: δ' => by simp [IL.backE, backE_len]
  | .ow o :: δ, s :: δ' => by simp [IL.backE, backE_len]
  | .un :: δ, s :: δ' => by simp [IL.backE, backE_len]
  | .im o :: δ, s :: δ' => by simp [IL.backE, backE_len]
theorem backE_own : ∀ {δ δ' : Env} {i : Nat} {o : Ow} {s : Slot}, δ[i]? = some (.ow o) → δ'[i]? = some s → (backE δ δ')[i]? = some s
  | [], δ', i, o, s, h, _ => by simp at h
  | x :: δ, [], i, o, s, h, h2 => by simp at h2
  | x :: δ, s' :: δ', 0, o, s, h, h2 => by
    simp at h h2
    subst h h2
    simp [IL.backE]
  | x :: δ, s' :: δ', i + 1, o, s, h, h2 => by
    have e : (backE δ δ')[i]? = some s := backE_own (by simpa using h) (by simpa using h2)
    cases x <;> simpa [IL.backE] using e
/-- at the end of a def: seen by the caller -/
theorem aft_end {K : KX} {kp : Nat} {xv : Nat → Value} {nv : Str → V} {es : St → XK} {δ : Env} {vs : List V} {m : Nat} {G H : Hp} {δ' : Env} {σ' : St} {G' H' : Hp} (hk : kp = vs.length) (S : Stt K δ (vs.map some) G H)
    (a : Aft ⟨K, kp, xv, nv, es⟩ (δ ++ List.replicate m .un) (vs.map some ++ List.replicate m none) G H δ' σ' G' H') : AftF K vs δ G H (backE δ δ') G' H' ∧ ∀ j l, OwnAt (backE δ δ') (vs.map some) j l → j < kp ∧ OwnAt δ' σ' j l := by
  have hl : δ.length = vs.length := by rw [S.len, List.length_map]
  have up : ∀ j l, OwnAt δ (vs.map some) j l → OwnAt (δ ++ List.replicate m .un) (vs.map some ++ List.replicate m none) j l := fun j l ⟨⟨o, e⟩, e2⟩ => by
    have hj := (List.getElem?_eq_some_iff.mp e).1
    exact ⟨⟨o, by rw [List.getElem?_append_left hj]; exact e⟩, by rw [List.getElem?_append_left (by rw [List.length_map]; omega)]; exact e2⟩
  have dn : ∀ j l, OwnAt (δ ++ List.replicate m .un) (vs.map some ++ List.replicate m none) j l → OwnAt δ (vs.map some) j l := fun j l ⟨⟨o, e⟩, e2⟩ => by
    by_cases hj : j < δ.length
    · rw [List.getElem?_append_left hj] at e
      rw [List.getElem?_append_left (by rw [List.length_map]; omega)] at e2
      exact ⟨⟨o, e⟩, e2⟩
    · rw [List.getElem?_append_right (by omega), List.getElem?_replicate] at e
      split at e <;> cases e
  -- an owned parameter is where it was
  have keep : ∀ (i : Nat) (o : Ow), δ[i]? = some (.ow o) → ∃ l, OwnAt δ (vs.map some) i l ∧ OwnAt δ' σ' i l := fun i o e => by
    obtain ⟨l, ho, e1, _⟩ := S.env i _ e
    have oi : OwnAt δ (vs.map some) i l := ⟨⟨o, e⟩, e1⟩
    have hi : i < kp := by
      have := (List.getElem?_eq_some_iff.mp e).1
      omega
    exact ⟨l, oi, a.kp i l hi (up i l oi)⟩
  have own2 : ∀ j l, OwnAt (backE δ δ') (vs.map some) j l → ∃ o, δ[j]? = some (.ow o) ∧ OwnAt δ (vs.map some) j l ∧ OwnAt δ' σ' j l := fun j l ⟨⟨o, e⟩, e2⟩ => by
    rcases backE_get e with ⟨o', q, _⟩ | ⟨q, _⟩
    · obtain ⟨l', h1, h2⟩ := keep j o' q
      have e3 := h1.2
      rw [e2] at e3
      cases e3
      exact ⟨o', q, h1, h2⟩
    · exact absurd rfl (q o)
  refine ⟨⟨⟨a.st.gh, fun i s e => ?_, fun i j l h1 h2 => ?_, by rw [backE_len]; exact S.len, a.st.xd⟩, ⟨a.nx.gg, fun b o hm e => a.nx.hh b o (fun ⟨i, h⟩ => hm ⟨i, dn i b h⟩) e, fun b o hm e => a.nx.fr b o (fun ⟨i, h⟩ => hm ⟨i, dn i b h⟩) e, a.nx.dom⟩, fun l ⟨j, h⟩ => .inl ?_, fun i l hi h => ?_, backE_len⟩, fun j l h => ?_⟩
  · rcases backE_get e with ⟨o, q, r⟩ | ⟨q, r⟩
    · obtain ⟨l, h1, h2⟩ := keep i o q
      obtain ⟨⟨o2, e2⟩, e3⟩ := id h2
      have z := a.st.env i _ e2
      obtain ⟨l', ho, z1, z2, z3, z4⟩ := z
      rw [e3] at z1
      cases z1
      have es : s = .ow o2 := by
        have w := backE_own q e2
        rw [e] at w
        exact Option.some.inj w
      subst es
      exact ⟨l, ho, h1.2, z2, z3, z4⟩
    · cases s with
      | un => trivial
      | im d =>
        obtain ⟨u, z1, z2⟩ := S.env i _ r
        exact ⟨u, z1, Dp.ex a.nx.gg _ _ z2⟩
      | ow o => exact absurd rfl (q o)
      | xc c fs => exact S.env i _ r
  · obtain ⟨_, _, _, q1⟩ := own2 i l h1
    obtain ⟨_, _, _, q2⟩ := own2 j l h2
    exact a.st.dis i j l q1 q2
  · obtain ⟨_, _, q, _⟩ := own2 j l h
    exact ⟨j, q⟩
  · obtain ⟨⟨o, e⟩, e2⟩ := h
    obtain ⟨l', h1, h2⟩ := keep i o e
    have e3 := h1.2
    rw [e2] at e3
    cases e3
    obtain ⟨⟨o2, e4⟩, _⟩ := h2
    exact ⟨⟨o2, backE_own e e4⟩, e2⟩
  · obtain ⟨o, q, _, h2⟩ := own2 j l h
    refine ⟨?_, h2⟩
    have := (List.getElem?_eq_some_iff.mp q).1
    omega
theorem stt_start {K : KX} {δ : Env} {vs : List V} {G H : Hp} {N : List Str} (S : Stt K δ (vs.map some) G H) : Stt K (δ ++ List.replicate (N.length - vs.length) .un) (L2.start N vs) G H := by
  have hl : δ.length = vs.length := by rw [S.len, List.length_map]
  have dn : ∀ j l, OwnAt (δ ++ List.replicate (N.length - vs.length) .un) (L2.start N vs) j l → OwnAt δ (vs.map some) j l := fun j l ⟨⟨o, e⟩, e2⟩ => by
    unfold L2.start at e2
    by_cases hj : j < δ.length
    · rw [List.getElem?_append_left hj] at e
      rw [List.getElem?_append_left (by rw [List.length_map]; omega)] at e2
      exact ⟨⟨o, e⟩, e2⟩
    · rw [List.getElem?_append_right (by omega), List.getElem?_replicate] at e
      split at e <;> cases e
  refine ⟨S.gh, fun i s e => ?_, fun i j l h1 h2 => S.dis i j l (dn _ _ h1) (dn _ _ h2), by simp [L2.start, hl], S.xd⟩
  by_cases hi : i < δ.length
  · rw [List.getElem?_append_left hi] at e
    unfold L2.start
    rw [List.getElem?_append_left (by rw [List.length_map]; omega)]
    exact S.env i s e
  · rw [List.getElem?_append_right (by omega), List.getElem?_replicate] at e
    split at e
    · cases e
      trivial
    · cases e
/-- one def's walk: what the small language says, from the state at its entry -/
theorem read_def {K : KX} {xv : Nat → Value} {nv : Str → V} {call : Nat → Env → CR} {d : IL.Def} {N : List Str} {vs : List V} {t : TS} {H : Hp} {Q : VK} {E : XK} (hN : N.length = d.ns) (hj : JS ⟨K, d.kp, xv, nv, fun _ => E⟩ t (IL.exs ⟨d.kp, call⟩ d.body)) (hsp : spF K xv d.kp (IL.runDef call d) vs H Q E) :
    t { nx := fun _ H' => Q .non H', rt := Q } (L2.start N vs) H := by
  obtain ⟨hl, G, δ, S, hm⟩ := hsp
  have hd : δ.length = d.kp := by
    have q := S.len
    rw [List.length_map] at q
    omega
  unfold IL.runDef at hm
  rw [if_pos hd] at hm
  have S' : Stt K (δ ++ List.replicate (d.ns - d.kp) .un) (L2.start N vs) G H := by
    have z := stt_start (N := N) S
    rw [hN, hl] at z
    exact z
  have back : ∀ {δ' : Env} {σ' : St} {G' H' : Hp}, Aft ⟨K, d.kp, xv, nv, fun _ => E⟩ (δ ++ List.replicate (d.ns - d.kp) .un) (L2.start N vs) G H δ' σ' G' H' → AftF K vs δ G H (backE δ δ') G' H' ∧ ∀ j l, OwnAt (backE δ δ') (vs.map some) j l → j < d.kp ∧ OwnAt δ' σ' j l := fun {δ' σ' G' H'} a => by
    unfold L2.start at a
    rw [hN, hl] at a
    exact aft_end hl.symm S a
  refine hj _ _ G H S' _ ?_
  cases e : IL.exs ⟨d.kp, call⟩ d.body (δ ++ List.replicate (d.ns - d.kp) .un) with
  | no => rw [e] at hm; exact hm
  | ex c fs δ' =>
    rw [e] at hm
    exact fun d σ' G' H' a r => hm d G' H' (back a).1 r
  | ok f δ' =>
    rw [e] at hm
    cases f with
    | nx => exact fun σ' G' H' a => hm .non G' H' (back a).1 .non
    | bk => exact hm.elim
    | ct => exact hm.elim
    | rt v =>
      cases v with
      | dat d => exact fun v σ' G' H' a r => hm v G' H' (back a).1 r
      | new o =>
        intro p ho σ' G' H' a lc n g e r
        have z := back a
        refine hm p ho G' H' z.1 ?_ g e r fun ⟨j, hj⟩ => n j (z.2 j p hj).1 (z.2 j p hj).2
        rcases lc with ⟨i, hi, ⟨⟨o', e'⟩, _⟩⟩ | lc
        · exfalso
          have hi' : d.kp ≤ i := hi
          rw [List.getElem?_append_right (by omega), List.getElem?_replicate] at e'
          split at e' <;> cases e'
        · exact lc
/-! ### the defs of a law's text -/
structure DefR where
  name : Str
  qual : Str
  st : Stmt
  N : List Str
  kp : Nat
  core : CB
abbrev DefR.il (d : DefR) : IL.Def := ⟨d.kp, d.N.length, d.core⟩
abbrev DefR.ps (d : DefR) : List Str := d.N.take d.kp
def fsOf (ds : List DefR) : List (Str × Nat) := ds.map fun d => (d.name, d.kp)
def locB (sc : Scope) (x : Str) : Bool := match sc.names.lookup x with
  | some .local => true
  | some .cell => true
  | _ => false
def notFree : NameKind → Bool
  | .free => false
  | _ => true
def nodupB : List Str → Bool
  | [] => true
  | x :: xs => !(xs.any fun y => decide (x = y)) && nodupB xs
theorem nodupB_of : ∀ {xs : List Str}, nodupB xs = true → xs.Nodup
  | [], _ => List.nodup_nil
  | x :: xs, h => by
    simp only [nodupB, Bool.and_eq_true, Bool.not_eq_true', List.any_eq_false, decide_eq_true_eq] at h
    exact List.nodup_cons.mpr ⟨fun hm => h.1 x hm rfl, nodupB_of h.2⟩
def fscB (N : List Str) (kp : Nat) (sc : Scope) : Bool := isFun sc.kind && (!sc.isCoroutine && (!sc.isGenerator && (nodupB N && (decide (kp ≤ N.length) && ((N.take kp).all (locB sc) && sc.names.all fun y => notFree y.2)))))
theorem fscB_of {N : List Str} {kp : Nat} {sc : Scope} (h : fscB N kp sc = true) : FnScope N (N.take kp) sc ∧ (N.take kp).length = kp := by
  simp only [fscB, Bool.and_eq_true, Bool.not_eq_true', decide_eq_true_eq, List.all_eq_true] at h
  obtain ⟨h1, h2, h3, h4, h5, h6, h7⟩ := h
  have hl : (N.take kp).length = kp := by rw [List.length_take]; omega
  refine ⟨⟨?_, h2, h3, nodupB_of h4, by rw [hl], fun x hx => ?_, fun y hy e => ?_⟩, hl⟩
  · unfold isFun at h1
    split at h1
    · assumption
    · cases h1
  · have q := h6 x hx
    unfold locB at q
    split at q
    · rename_i e; exact .inl e
    · rename_i e; exact .inr e
    · cases q
  · have q := h7 y hy
    rw [e] at q
    cases q
/-- what the module says beside the defs -/
structure Md where
  xs : List (Str × Str)
  xb : List (Str × List Nat × List Nat)
  gc : List (Str × Const)
  hot : List Nat
abbrev scOf (M : Md) (fs : List (Str × Nat)) (d : DefR) : Sc := ⟨d.N, defScope d.st, fs, true, true, M.xs, M.xb, M.gc, M.hot⟩
def chkDef (M : Md) (fs : List (Str × Nat)) (d : DefR) : Bool := fscB d.N d.kp (defScope d.st) && chkB d.core (scOf M fs d) (defBody d.st)
def chkHot (M : Md) (fs : List (Str × Nat)) (d : DefR) : Bool := chkB d.core { scOf M fs d with calm := false } (defBody d.st)
def chkHots (M : Md) (ds : List DefR) : Bool := M.hot.all fun f => match ds[f]? with
  | some d => chkHot M (fsOf ds) d
  | none => false
structure MdOk (P : Program) (w : World) (K : PySem.W.Frag) (mg : Str → Option Value) (base : Heap) (xv : Nat → Value) (nv : Str → V) (M : Md) : Prop where
  gc : ∀ x c, M.gc.lookup x = some c → ∃ u, mg x = some u ∧ RelV (constV c) u
  xs : ∀ (c : Nat) (n f : Str), M.xs[c]? = some (n, f) → XsOk K mg P w base (M.xs.map (·.2)) (xv c) n f
  xb : ∀ n cs ns, M.xb.lookup n = some (cs, ns) → (∀ c ∈ cs, c < M.xs.length) ∧ XbOk K mg xv (nv n) n cs ns
/-- the def stands -/
def Stands (K : PySem.W.Frag) (mg : Str → Option Value) (d : DefR) : Prop := ∃ f fd, Fun K d.name d.qual d.st f fd ∧ mg d.name = some (.ref f) ∧ ∀ us : List Value, us.length = d.ps.length → bindArgs fd ⟨us, []⟩ = pure (d.ps.zip us)
theorem stands_mk {K : PySem.W.Frag} {mg : Str → Option Value} {h : Heap} {x : Str} {st : Stmt} {N : List Str} {kp : Nat} {core : CB} {f : Addr} {oc : Value} {od an : Option Addr} {osl : Array (Option Value)} {kV doc pm cdv ct : Value}
    (X : K.In h) (G : h.Ns mainGlobals mg) (a : PySem.W.nsIn K mainGlobals x = some (some (.ref f))) (l : K.lookup f = some ⟨oc, od, .func (PySem.W.fnOf x x (defArgs st) (defBody st) (defScope st) .none kV doc pm an cdv ct), osl⟩)
    (c : PySem.W.codeIn K cdv x = true) (k : PySem.W.keepIn K (.ref f) = true) (b : ∀ (kV doc pm : Value) (an : Option Addr) (cdv ct : Value) (us : List Value), us.length = (N.take kp).length → bindArgs (PySem.W.fnOf x x (defArgs st) (defBody st) (defScope st) .none kV doc pm an cdv ct) ⟨us, []⟩ = pure ((N.take kp).zip us)) : Stands K mg ⟨x, x, st, N, kp, core⟩ :=
  ⟨f, _, fun_mk l c k, PySem.W.mg_of X G a, b kV doc pm an cdv ct⟩
theorem all_cons {α : Type} {P : α → Prop} {a : α} {l : List α} (h : P a) (t : ∀ d ∈ l, P d) : ∀ d ∈ a :: l, P d := fun d hd => (List.mem_cons.mp hd).elim (fun e => e ▸ h) (t d)
theorem all_nil {α : Type} {P : α → Prop} : ∀ d ∈ ([] : List α), P d := fun _ h => nomatch h
theorem fs_get {ds : List DefR} {f : Nat} {x : Str} {n : Nat} (h : (fsOf ds)[f]? = some (x, n)) : ∃ d, ds[f]? = some d ∧ d.name = x ∧ d.kp = n := by
  unfold fsOf at h
  rw [List.getElem?_map] at h
  cases e : ds[f]? with
  | none => rw [e] at h; cases h
  | some d =>
    rw [e] at h
    simp only [Option.map_some, Option.some.injEq, Prod.mk.injEq] at h
    exact ⟨d, rfl, h.1, h.2⟩
theorem tbl_ar {ds : List DefR} {n f : Nat} {d : DefR} (h : ds[f]? = some d) : ∀ δ, IL.tbl (ds.map DefR.il) n f δ ≠ .no → δ.length = d.kp := fun δ hne => by
  cases n with
  | zero => exact absurd rfl hne
  | succ n =>
    simp only [IL.tbl, List.getElem?_map, h, Option.map_some] at hne
    unfold IL.runDef at hne
    by_cases hl : δ.length = d.kp
    · exact hl
    · rw [if_neg hl] at hne
      exact absurd rfl hne
section
variable {P : Program} {w : World} {K : PySem.W.Frag} {mg : Str → Option Value} {base : Heap} {xv : Nat → Value} {nv : Str → V} {M : Md}
theorem levels {ds : List DefR} (hall : ds.all (chkDef M (fsOf ds)) = true) (hhot : chkHots M ds = true) (hst : ∀ d ∈ ds, Stands K mg d) (hmg : ∀ b ∈ blts, mg b = none) (hM : MdOk P w K mg base xv nv M) :
    ∀ (n f : Nat) (d : DefR), ds[f]? = some d → ∀ fa fd, Fun K d.name d.qual d.st fa fd →
      FnG P w K mg base (L2N.CX P w) (n + 3) fa fd d.ps (spF ⟨K, none⟩ xv d.kp (IL.tbl (ds.map DefR.il) n f)) ∧ (f ∈ M.hot → FnX P w K mg base (L2N.CX P w) (n + 3) fa fd d.ps (spH K xv M.xs.length d.kp (IL.tbl (ds.map DefR.il) n f))) := by
  intro n
  induction n with
  | zero =>
    intro f d hd fa fd F
    have hc := fscB_of ((Bool.and_eq_true _ _ ▸ List.all_eq_true.mp hall d (List.mem_of_getElem? hd) : _ ∧ _).1)
    exact ⟨⟨fun vs H Q E h => by rw [h.1]; exact hc.2.symm, fun A o s H as us vs Q E c r e b rv h => by
      obtain ⟨_, G, δ, S, hm⟩ := h
      exact hm.elim⟩, fun _ => ⟨fun p vs H Q E h => by
      obtain ⟨xc, _, _, _, h⟩ := h
      rw [h.1]
      exact hc.2.symm, fun A o s H as us vs Q E p c r ho pk e b rv h => by
      obtain ⟨xc, _, _, _, _, G, δ, S, hm⟩ := h
      exact hm.elim⟩⟩
  | succ n ih =>
    intro f d hd fa fd F
    have hck := (Bool.and_eq_true _ _ ▸ List.all_eq_true.mp hall d (List.mem_of_getElem? hd) : _ ∧ _)
    have hc := fscB_of hck.1
    have hAr : ∀ b : Bool, Ar (IL.tbl (ds.map DefR.il) n) { scOf M (fsOf ds) d with calm := b } := fun b g x m hg => by
      obtain ⟨d', e1, _, e3⟩ := fs_get hg
      rw [← e3]
      exact tbl_ar e1
    have eT : IL.tbl (ds.map DefR.il) (n + 1) f = IL.runDef (IL.tbl (ds.map DefR.il) n) d.il := by
      funext δ
      simp only [IL.tbl, List.getElem?_map, hd, Option.map_some]
    have hots : ∀ {A : Around}, L2H.RoomH (n + 3) A → ∀ g x m, (fsOf ds)[g]? = some (x, m) → g ∈ M.hot → ∃ fa fd ps k, mg x = some (.ref fa) ∧ ps.length = m ∧ FnX P w K mg base (L2N.CX P w) k fa fd ps (spH K xv M.xs.length m (IL.tbl (ds.map DefR.il) n g)) ∧ L2H.RoomH k A ∧ PySem.W.keepIn K (.ref fa) = true ∧ Binds K fd ps [] := fun hr g x m hg hh => by
      obtain ⟨d', e1, e2, e3⟩ := fs_get hg
      subst e2 e3
      obtain ⟨fa', fd', F', m', b'⟩ := hst d' (List.mem_of_getElem? e1)
      have hc' := fscB_of ((Bool.and_eq_true _ _ ▸ List.all_eq_true.mp hall d' (List.mem_of_getElem? e1) : _ ∧ _).1)
      exact ⟨fa', fd', d'.ps, n + 3, m', hc'.2, (ih g d' e1 fa' fd' F').2 hh, hr, F'.kp, .all b'⟩
    refine ⟨?_, fun hh => ?_⟩
    · refine (DG.fnG_mk F hc.1 (fun vs H Q E h => h.1.trans hc.2.symm) fun cdv A o s H vs Q E c hr hs => ?_ : FnG P w K mg base (L2N.CX P w) ((n + 3) + 1) fa fd d.ps (spF ⟨K, none⟩ xv d.kp (IL.tbl (ds.map DefR.il) (n + 1) f)))
      obtain ⟨ts, p1, j1⟩ := snd_b (C := ⟨⟨K, none⟩, d.kp, xv, nv, fun _ => E⟩) (w := w) (call := IL.tbl (ds.map DefR.il) n) d.core (scOf M (fsOf ds) d) (defBody d.st) (hAr true) hck.2
      refine ⟨ts, p1 _ ⟨rfl, rfl, rfl, hc.1.nd, rfl, fun _ => rfl, fun _ => rfl, c, hr.units, passes_of rfl, L2N.takes_of rfl rfl rfl rfl, hmg, fun _ _ => rfl, fun _ => ⟨rfl, rfl⟩, fun _ => hr.mono (by omega), fun _ g x m hg => ?_, hots (L2H.roomH_of hr), hM.gc, hM.xs, hM.xb, fun x hx => (by cases hx), fun h => (by cases h)⟩, read_def (d := d.il) (E := E) (xv := xv) (nv := nv) (call := IL.tbl (ds.map DefR.il) n) rfl j1 ?_⟩
      · obtain ⟨d', e1, e2, e3⟩ := fs_get hg
        subst e2 e3
        obtain ⟨fa', fd', F', m', b'⟩ := hst d' (List.mem_of_getElem? e1)
        have hc' := fscB_of ((Bool.and_eq_true _ _ ▸ List.all_eq_true.mp hall d' (List.mem_of_getElem? e1) : _ ∧ _).1)
        exact ⟨fa', fd', d'.ps, n + 3, m', hc'.2, (ih g d' e1 fa' fd' F').1, hr, F'.kp, .all b'⟩
      · rw [eT] at hs
        exact hs
    · have hk : chkHot M (fsOf ds) d = true := by
        have z := List.all_eq_true.mp hhot f hh
        rw [hd] at z
        exact z
      refine (DG.fnX_mk F hc.1 (fun p vs H Q E h => by
        obtain ⟨xc, _, _, _, h⟩ := h
        exact h.1.trans hc.2.symm) fun cdv A o s H vs Q E p hot c hr hs => ?_ : FnX P w K mg base (L2N.CX P w) ((n + 3) + 1) fa fd d.ps (spH K xv M.xs.length d.kp (IL.tbl (ds.map DefR.il) (n + 1) f)))
      obtain ⟨xc, e1, e2, e3, hs⟩ := hs
      obtain ⟨ts, p1, j1⟩ := snd_b (C := ⟨⟨K, some xc⟩, d.kp, xv, nv, fun _ => E⟩) (w := w) (call := IL.tbl (ds.map DefR.il) n) d.core { scOf M (fsOf ds) d with calm := false } (defBody d.st) (hAr false) hk
      refine ⟨ts, p1 _ ⟨rfl, rfl, rfl, hc.1.nd, rfl, fun h => (by cases h), fun h => (by cases h), c, (by
        have z := hr.un
        show (A.deeper (envOfC d.qual (defScope d.st) s.heap.objs.size fa cdv)).units + 64 < cLine
        omega), passes_of rfl, L2N.takes_of rfl rfl rfl rfl, hmg, fun _ _ => rfl, fun _ => ⟨rfl, rfl⟩, fun h => (by cases h), fun h => (by cases h), hots hr, hM.gc, hM.xs, hM.xb, fun x hx => ?_, fun _ => ⟨xc, rfl⟩⟩, read_def (d := d.il) (E := E) (xv := xv) (nv := nv) (call := IL.tbl (ds.map DefR.il) n) rfl j1 ?_⟩
      · cases hx
        obtain ⟨hh1, vs', hh2, _⟩ := hot
        refine ⟨⟨_, _, List.getElem?_eq_getElem e2⟩, p.2, ?_, e3, ⟨vs', hh2⟩, ?_⟩
        · rw [e1]
          exact List.mem_singleton.mpr rfl
        · rw [e1]
          exact hh1
      · rw [eT] at hs
        exact hs
/-- the law's def is called with the script -/
theorem law_sp {F : Env → CR} {H : Hp} {a : Addr} {ns : List Int} {E : XK} {δ' : Env} (hS : SqL K H a (ns.map V.int)) (hF : F [.im (.list (IL.intsD ns))] = .ret (.dat (.bool true)) δ') : spF ⟨K, none⟩ xv 1 F [.ref a] H (fun v _ => v = .bl true) E := by
  have hd : Dp K H (.ref a) (.list (IL.intsD ns)) := .lst hS (DpAll.of_ints ns)
  refine ⟨rfl, H, [.im (.list (IL.intsD ns))], ⟨Evl.Ex.refl H, fun i s e => ?_, fun i j l h1 h2 => ?_, rfl, fun x hx => by cases hx⟩, ?_⟩
  · cases i with
    | zero =>
      simp at e
      subst e
      exact ⟨.ref a, rfl, hd⟩
    | succ i => simp at e
  · obtain ⟨⟨o, e⟩, _⟩ := h1
    cases i with
    | zero => simp at e
    | succ i => simp at e
  · rw [hF]
    exact fun v G' H' _ r => Dp.bool_of r
/-- what the walk of a law wants of the law's def -/
theorem law_F {ds : List DefR} {fl n : Nat} {d : DefR} {x : Str} {fa : Addr} (hall : ds.all (chkDef M (fsOf ds)) = true) (hhot : chkHots M ds = true) (hst : ∀ d ∈ ds, Stands K mg d) (hmg : ∀ b ∈ blts, mg b = none) (hd : ds[fl]? = some d) (hx : d.ps = [x]) (hfa : mg d.name = some (.ref fa)) :
    ∃ fd : FuncData, (∀ (s : Shared) (u : Value), BindsTo s fd ⟨[u], []⟩ [(x, u)]) ∧ ∀ base : Heap, MdOk P w K mg base xv nv M → FnG P w K mg base (L2N.CX P w) (n + 3) fa fd [x] (spF ⟨K, none⟩ xv d.kp (IL.tbl (ds.map DefR.il) n fl)) := by
  obtain ⟨f, fd, F, m, b⟩ := hst d (List.mem_of_getElem? hd)
  rw [hfa] at m
  cases m
  refine ⟨fd, fun s u => ?_, fun base hM => ?_⟩
  · have z := b [u] (by rw [hx]; rfl)
    rw [hx] at z
    exact .of_eq z
  · have z := (levels (P := P) (w := w) (base := base) hall hhot hst hmg hM n fl d hd fa fd F).1
    rw [hx] at z
    exact z
end
end J
end
section
set_option Elab.async false
set_option linter.all false
set_option autoImplicit false
set_option maxRecDepth 100000
set_option maxHeartbeats 4000000
/-! J14: the module's classes of exceptions, from what the top has written. -/
namespace J
open PySem L2 PyProof.Rows PySem.W
/-- the first def of a class -/
def clsInit (s : Stmt) : Stmt := match s with
  | .ClassDef (body := b) .. => b.getD 0 (.Pass ⟨0, 0, 0, 0⟩)
  | _ => .Pass ⟨0, 0, 0, 0⟩
theorem super_of2 {K : Frag} {C R : Addr} {n : Str} {v : Option Value} {nm q : Str} {N : Addr} {bs r : List Value} {sn : List Str} {sub : List Value} {ab : Bool} {col : Option Bool} {dd : Option Addr} {k0 k1 k2 k3 k5 : Option Value} {nw : String}
    {nm' q' : Str} {N' : Addr} {bs' : List Value} {hd' : Bool} {sn' : List Str} {sub' : List Value} {ab' : Bool} {col' : Option Bool} {dd' : Option Addr} {k0' k1' k2' k3' k5' : Option Value} {nw' : String}
    (hC : K.lookup C = some (excClassObj nm q C N bs (.ref R :: r) true sn sub ab col dd k0 k1 k2 k3 k5 nw)) (hR : K.lookup R = some (excClassObj nm' q' R N' bs' r hd' sn' sub' ab' col' dd' k0' k1' k2' k3' k5' nw'))
    (hf : findIn K (.ref R) n = some v) : ks_superIn K C C n = some v := by
  have hcl : clsIn K C = some { name := nm, bases := bs, mro := .ref C :: .ref R :: r, ns := N, qualname := q, hasDict := true, slotNames := sn, subclasses := sub, abstract := ab, collection := col, hasDel := false } := by unfold clsIn; rw [hC] <;> rfl
  unfold ks_superIn
  rw [hcl]
  unfold findIn at hf
  simp only [hR] at hf
  have e : (Value.ref C != Value.ref C) = false := by simp
  simp only [Option.bind_some, List.dropWhile_cons, e]
  exact hf
theorem kit_of {K : Frag} {E N : Addr} {b : Bool} (h1 : (clsIn K N).isSome = true) (h2 : typeIn K (.ref N) = some (.type "type")) (h3 : subIn K (.ref N) (.type "BaseException") = some true) (hs : subIn K (.ref E) (.ref N) = some b) (he : subIn K (.ref E) (.ref E) = some true) :
    exmOne K (.ref E) (.ref N) = some b ∧ kitOne K (.ref E) (.ref N) = some b := by
  have e : kitCls K (.ref E) (.ref N) = some b := by
    unfold kitCls
    simp only
    rw [h1, h2]
    rw [if_pos (by simp)]
    exact hs
  refine ⟨?_, ?_⟩
  · unfold exmOne
    rw [h3, if_pos (by simp)]
    exact e
  · unfold kitOne
    by_cases q : E = N
    · subst q
      rw [he] at hs
      rw [if_pos (by simp)]
      exact hs
    · rw [if_neg (by simpa using q)]
      exact e
theorem cls_some {K : Frag} {C : Addr} {nm q : Str} {N : Addr} {bs bm : List Value} {hd : Bool} {sn : List Str} {sub : List Value} {ab : Bool} {col : Option Bool} {dd : Option Addr} {k0 k1 k2 k3 k5 : Option Value} {nw : String}
    (hC : K.lookup C = some (excClassObj nm q C N bs bm hd sn sub ab col dd k0 k1 k2 k3 k5 nw)) : (clsIn K C).isSome = true := by
  unfold clsIn
  rw [hC] <;> rfl
/-- a class of exceptions with one field -/
theorem xs_mk {P : Program} {w : World} {K : Frag} {mg : Str → Option Value} {base h : Heap} {fields : List Str} {C R fI cc cda : Addr} {n f pn txt qual : Str} {st : Stmt} {kd : Nat} {p0 p1 p2 p3 p4 p5 q0 q1 q2 q3 : Pos}
    {nm q : Str} {N : Addr} {bs r : List Value} {sn : List Str} {sub : List Value} {ab : Bool} {col : Option Bool} {dd : Option Addr} {k0 k1 k2 k3 k5 : Option Value}
    {nm' q' : Str} {N' : Addr} {bs' : List Value} {hd' : Bool} {sn' : List Str} {sub' : List Value} {ab' : Bool} {col' : Option Bool} {dd' : Option Addr} {k0' k1' k2' k3' k5' : Option Value} {nw' : String}
    {oc kV doc pm ct ccl cl : Value} {od an cdd cld : Option Addr} {osl ccs csl : Array (Option Value)} {vs : Array Value} {file : Str} {tf : Tok}
    (X : K.In h) (G : h.Ns mainGlobals mg) (a : nsIn K mainGlobals n = some (some (.ref C)))
    (l : K.lookup C = some (excClassObj nm q C N bs (.ref R :: r) true sn sub ab col dd k0 k1 k2 k3 k5 "ValueError.__new__"))
    (lR : K.lookup R = some (excClassObj nm' q' R N' bs' r hd' sn' sub' ab' col' dd' k0' k1' k2' k3' k5' nw'))
    (ve : PySem.HandSPX.refsVE (.ref R :: r) = true)
    (sa : findIn K (.ref C) "__setattr__" = some (some (.builtin "object.__setattr__")))
    (sb : subIn K (.ref C) (.type "BaseException") = some true) (sv : subIn K (.ref C) (.type "ValueError") = some true)
    (ty : typeIn K (.ref C) = some (.type "type")) (kp : keepIn K (.ref C) = true) (mr : mroIn K C (.ref C) = some true)
    (ga : findIn K (.ref C) "__getattribute__" = some (some (.builtin "BaseException.__getattribute__"))) (gg : findIn K (.ref C) "__getattr__" = some none) (hd : hasDictIn K C = true)
    (kc : findIn K (.ref C) "__class__" = some (some (.builtin "object.__class__"))) (kn : specialIn K (.builtin "object.__class__") "__get__" = some (some (.builtin "getset_descriptor.__get__")))
    (kt : takesIn K (.builtin "object.__class__") = some true) (km : mroIn K C (.type "object") = some true)
    (fl : ∀ g ∈ fields, findIn K (.ref C) g = some none) (ff : f ∈ fields)
    (ini : findIn K (.ref C) "__init__" = some (some (.ref fI))) (tyI : typeIn K (.ref fI) = some (.type "function"))
    (lI : K.lookup fI = some ⟨oc, od, .func (ksFn "__init__" qual (defArgs st) (defBody st) (defScope st) .none kV doc pm an (.ref cda) ct cc), osl⟩)
    (cd : codeIn K (.ref cda) qual = true) (lcd : K.lookup cda = some ⟨ccl, cdd, .fields vs, ccs⟩) (lcc : K.lookup cc = some ⟨cl, cld, .cell (some (.ref C)), csl⟩)
    (op : nsIn K cStatics "thirdparty.any" = some none) (su : nsIn K mainGlobals "super" = some none) (sR : findIn K (.ref R) "__init__" = some (some (.builtin "ValueError.__init__")))
    (fi : vs[2]? = some (.str file tf)) (fe : ((P.main.file : Str) == file) = true) (top : (P.main.scope.names.lookup ("super" : Str)).isSome = false)
    (hb : defBody st = XI.bodyXi txt f pn p0 p1 p2 p3 p4 p5 q0 q1 q2 q3 kd) (FM : XI.Form (defScope st) txt f pn p0 p1 p2 p3 p4 p5 q0 q1 q2 q3 kd)
    (hs1 : (defScope st).names.lookup ("super" : Str) = some .globalImplicit) (hs2 : (defScope st).names.lookup ("__class__" : Str) = some .free) (hs3 : (defScope st).names.lookup ("self" : Str) = some .local) (hs4 : (defScope st).names.lookup pn = some .local)
    (hs5 : (defScope st).kind = .function) (hs6 : ∀ x ∈ (defScope st).names, x.2 ≠ .cell) (hs7 : (defScope st).isCoroutine = false) (hs8 : (defScope st).isGenerator = false) (hp1 : pn ≠ "self") (hp2 : (pn == ("__debug__" : Str)) = false)
    (hps : ((defArgs st).posonlyargs ++ (defArgs st).args).head?.map (·.arg) = some "self")
    (hbd : ∀ (kV doc pm : Value) (an : Option Addr) (cdv ct : Value) (us : List Value), us.length = 2 → bindArgs (ksFn "__init__" qual (defArgs st) (defBody st) (defScope st) .none kV doc pm an cdv ct cc) ⟨us, []⟩ = pure ((["self", pn] : List Str).zip us)) :
    XsOk K mg P w base fields (.ref C) n f := by
  have O : OexC K C := ⟨⟨nm, q, N, bs, .ref R :: r, sn, sub, ab, col, dd, k0, k1, k2, k3, k5, l, ve⟩, sa, sb, ty, kp⟩
  refine ⟨C, fI, _, ["self", pn], 1, rfl, mg_of X G a, O, ⟨cls_some l, ga, gg, sb, hd, kc, kn, kt, km⟩, fl, ini, tyI, fun CX => ?_, by decide, .all fun us hl => hbd kV doc pm an (.ref cda) ct us hl⟩
  exact XI.xi_ok (k := 0) FM ⟨O, fl f ff, op, super_of2 l lR sR, sv, mr, ⟨ccl, cdd, vs, ccs, file, tf, lcd, fi, fe⟩, ⟨cl, cld, csl, lcc⟩, top, mg_none_of X G su, hs1, hs2, hs3, hs4, hs5, hs6, hs7, hs8, hp1, hp2⟩ (by rw [hb]) lI cd hps
/-- a class named behind isinstance, except -/
theorem xb_mk {K : Frag} {mg : Str → Option Value} {h : Heap} {xv : Nat → Value} {n : Str} {cs ns : List Nat} {N : Addr} {nm q : Str} {Nn : Addr} {bs bm : List Value} {hd : Bool} {sn : List Str} {sub : List Value} {ab : Bool} {col : Option Bool} {dd : Option Addr} {k0 k1 k2 k3 k5 : Option Value} {nw : String}
    (X : K.In h) (G : h.Ns mainGlobals mg) (a : nsIn K mainGlobals n = some (some (.ref N))) (l : K.lookup N = some (excClassObj nm q N Nn bs bm hd sn sub ab col dd k0 k1 k2 k3 k5 nw)) (ty : typeIn K (.ref N) = some (.type "type")) (sb : subIn K (.ref N) (.type "BaseException") = some true)
    (hy : ∀ e ∈ cs, ∃ E, xv e = .ref E ∧ subIn K (.ref E) (.ref N) = some true ∧ subIn K (.ref E) (.ref E) = some true) (hn : ∀ e ∈ ns, ∃ E, xv e = .ref E ∧ subIn K (.ref E) (.ref N) = some false ∧ subIn K (.ref E) (.ref E) = some true) : XbOk K mg xv (.ref N) n cs ns := by
  refine ⟨.ref N, rfl, fun u hu => hu, .inl (mg_of X G a), fun e he => ?_, fun e he => ?_⟩
  · obtain ⟨E, e1, e2, e3⟩ := hy e he
    rw [e1]
    exact kit_of (cls_some l) ty sb e2 e3
  · obtain ⟨E, e1, e2, e3⟩ := hn e he
    rw [e1]
    exact kit_of (cls_some l) ty sb e2 e3
/-- a built-in class named so -/
theorem xb_blt {K : Frag} {mg : Str → Option Value} {h : Heap} {xv : Nat → Value} {n : Str} {cs ns : List Nat} {T : String} (X : K.In h) (G : h.Ns mainGlobals mg) (a : nsIn K mainGlobals n = some none) (hv : bootBuiltins n = some (.type T)) (hn : n ≠ "__name__") (hk : kitMeta T = true)
    (sb : subIn K (.type T) (.type "BaseException") = some true) (hy : ∀ e ∈ cs, ∃ E, xv e = .ref E ∧ subIn K (.ref E) (.type T) = some true) (hz : ∀ e ∈ ns, ∃ E, xv e = .ref E ∧ subIn K (.ref E) (.type T) = some false) : XbOk K mg xv (.ty T) n cs ns := by
  have main : ∀ {E : Addr} {b : Bool}, subIn K (.ref E) (.type T) = some b → exmOne K (.ref E) (.type T) = some b ∧ kitOne K (.ref E) (.type T) = some b := fun {E b} hs => by
    have e : kitCls K (.ref E) (.type T) = some b := by
      unfold kitCls
      simp only
      rw [if_pos hk]
      exact hs
    refine ⟨?_, ?_⟩
    · unfold exmOne
      rw [sb, if_pos (by simp)]
      exact e
    · unfold kitOne
      rw [if_neg (by simp)]
      exact e
  refine ⟨.type T, rfl, fun u hu => hu, .inr ⟨mg_none_of X G a, hv, hn⟩, fun e he => ?_, fun e he => ?_⟩
  · obtain ⟨E, e1, e2⟩ := hy e he
    rw [e1]
    exact main e2
  · obtain ⟨E, e1, e2⟩ := hz e he
    rw [e1]
    exact main e2
theorem gc_nil {P : Str → Const → Prop} : ∀ x c, ([] : List (Str × Const)).lookup x = some c → P x c := fun _ _ h => by cases h
theorem gc_cons {P : Str → Const → Prop} {a : Str} {b : Const} {l : List (Str × Const)} (h : P a b) (t : ∀ x c, l.lookup x = some c → P x c) : ∀ x c, ((a, b) :: l).lookup x = some c → P x c := fun x c e => by
  rw [List.lookup_cons] at e
  by_cases q : x = a
  · subst q
    rw [beq_self_eq_true] at e
    cases e
    exact h
  · have : (x == a) = false := by simpa using q
    rw [this] at e
    exact t x c e
theorem g3n {P : Nat → Str → Str → Prop} {k : Nat} : ∀ (c : Nat) (n f : Str), ([] : List (Str × Str))[c]? = some (n, f) → P (k + c) n f := fun c _ _ h => by simp at h
theorem g3c {P : Nat → Str → Str → Prop} {k : Nat} {a b : Str} {l : List (Str × Str)} (h : P k a b) (t : ∀ (c : Nat) (n f : Str), l[c]? = some (n, f) → P (k + 1 + c) n f) : ∀ (c : Nat) (n f : Str), ((a, b) :: l)[c]? = some (n, f) → P (k + c) n f := fun c n f e => by
  cases c with
  | zero =>
    simp at e
    obtain ⟨rfl, rfl⟩ := e
    exact h
  | succ c =>
    have z := t c n f (by simpa using e)
    rw [show k + (c + 1) = k + 1 + c by omega]
    exact z
theorem get3 {P : Nat → Str → Str → Prop} {l : List (Str × Str)} (h : ∀ (c : Nat) (n f : Str), l[c]? = some (n, f) → P (0 + c) n f) : ∀ (c : Nat) (n f : Str), l[c]? = some (n, f) → P c n f := fun c n f e => by
  have z := h c n f e
  rw [Nat.zero_add] at z
  exact z
theorem l3n {P : Str → List Nat → List Nat → Prop} : ∀ (x : Str) (c d : List Nat), ([] : List (Str × List Nat × List Nat)).lookup x = some (c, d) → P x c d := fun _ _ _ h => by cases h
theorem l3c {P : Str → List Nat → List Nat → Prop} {a : Str} {b b' : List Nat} {l : List (Str × List Nat × List Nat)} (h : P a b b') (t : ∀ (x : Str) (c d : List Nat), l.lookup x = some (c, d) → P x c d) : ∀ (x : Str) (c d : List Nat), ((a, b, b') :: l).lookup x = some (c, d) → P x c d := fun x c d e => by
  rw [List.lookup_cons] at e
  by_cases q : x = a
  · subst q
    rw [beq_self_eq_true] at e
    cases e
    exact h
  · have : (x == a) = false := by simpa using q
    rw [this] at e
    exact t x c d e
theorem cx_none {P : Program} {w : World} {o : List PySem.Env} {H : Hp} {s : Shared} {e : Value} {s' : Shared} (h : L2N.CX P w o H s (fun _ _ _ => False) e s') : False := by
  unfold L2N.CX at h
  obtain ⟨_, _, _, _, _, _, _, _, _, _, _, _, z⟩ := h
  exact z
theorem inter_of {env : PySem.Env} {sc : Scope} (h : env.scope = sc) (e : (sc.kind == ScopeKind.module) = false) : interactive env = false := by
  unfold interactive
  rw [h, e, Bool.false_and]
end J
end
section
set_option Elab.async false
set_option linter.all false
set_option autoImplicit false
set_option maxHeartbeats 1000000
/-! J0S: how a text of the small language is run by simp: from the left, each value first. -/
namespace IL
open PySem
section
variable {α β : Type} {C : Cfg} {δ : Env}
/-! ### slots -/
@[simp] theorem cur_dat (d : D) : cur δ (.dat d) = some d := rfl
@[simp] theorem cur_lst (ds : List D) : cur δ (.new (.lst ds)) = some (.list ds) := rfl
@[simp] theorem cur_own (i : Nat) : cur δ (.own i) = (match δ[i]? with
    | some (.im d) => some d
    | some (.ow (.lst ds)) => some (.list ds)
    | _ => none) := rfl
@[simp] theorem dem_dat (kp : Nat) (d : D) : dem kp (.dat d) δ = .ok d δ := rfl
@[simp] theorem dem_lst (kp : Nat) (ds : List D) : dem kp (.new (.lst ds)) δ = .ok (.list ds) δ := rfl
@[simp] theorem dem_own (kp i : Nat) : dem kp (.own i) δ = (match δ[i]? with
    | some (.im d) => .ok d δ
    | some (.ow (.lst ds)) => if kp ≤ i then .ok (.list ds) (δ.set i (.im (.list ds))) else .no
    | _ => .no) := rfl
@[simp] theorem freeB_eq (kp i : Nat) : freeB kp δ i = (decide (kp ≤ i) || (match δ[i]? with
  | some (.ow _) => false
  | _ => true)) := rfl
@[simp] theorem optR_some (a : α) : optR δ (some a) = .ok a δ := rfl
@[simp] theorem optR_none : optR δ (none : Option α) = .no := rfl
@[simp] theorem op1_eq (o : D → Option α) (x : Val) : op1 o x δ = optR δ ((cur δ x).bind o) := rfl
@[simp] theorem op2_eq (o : D → D → Option α) (x y : Val) : op2 o x y δ = optR δ ((cur δ x).bind fun d => (cur δ y).bind fun e => o d e) := rfl
@[simp] theorem intD_int (i : Int) : intD (.int i) = some i := rfl
@[simp] theorem isNoneD_none : isNoneD .none = true := rfl
@[simp] theorem isNoneD_int (i : Int) : isNoneD (.int i) = false := rfl
@[simp] theorem isNoneD_str (i : Str) : isNoneD (.str i) = false := rfl
@[simp] theorem isNoneD_bool (i : Bool) : isNoneD (.bool i) = false := rfl
@[simp] theorem isNoneD_list (i : List D) : isNoneD (.list i) = false := rfl
@[simp] theorem isNoneD_tuple (i : List D) : isNoneD (.tuple i) = false := rfl
@[simp] theorem cmpV_eq (o : Cop) (d e : D) : cmpV o d e = (cmpop o d e).map fun b => .dat (.bool b) := rfl
@[simp] theorem idxV_eq (d e : D) : idxV d e = (idxop d e).map .dat := rfl
@[simp] theorem negV_int (i : Int) : negV (.int i) = some (.dat (.int (-i))) := rfl
@[simp] theorem idxop_list (ds : List D) (i : Int) : idxop (.list ds) (.int i) = L2.atI ds i := rfl
@[simp] theorem idxop_tuple (ds : List D) (i : Int) : idxop (.tuple ds) (.int i) = L2.atI ds i := rfl
theorem atI_ofNat {γ : Type} (ds : List γ) (n : Nat) : L2.atI ds (n : Int) = ds[n]? := by
  unfold L2.atI L2.ixN
  rw [if_pos (Int.natCast_nonneg n)]
  by_cases h : (n : Int) < ds.length
  · rw [if_pos h]
    simp
  · rw [if_neg h, List.getElem?_eq_none (by omega)]
    rfl
@[simp] theorem atI_0 {γ : Type} (ds : List γ) : L2.atI ds 0 = ds[0]? := atI_ofNat ds 0
@[simp] theorem atI_2 {γ : Type} (ds : List γ) : L2.atI ds 2 = ds[2]? := atI_ofNat ds 2
@[simp] theorem atI_3 {γ : Type} (ds : List γ) : L2.atI ds 3 = ds[3]? := atI_ofNat ds 3
@[simp] theorem atI_4 {γ : Type} (ds : List γ) : L2.atI ds 4 = ds[4]? := atI_ofNat ds 4
@[simp] theorem atI_5 {γ : Type} (ds : List γ) : L2.atI ds 5 = ds[5]? := atI_ofNat ds 5
@[simp] theorem atI_6 {γ : Type} (ds : List γ) : L2.atI ds 6 = ds[6]? := atI_ofNat ds 6
@[simp] theorem atI_7 {γ : Type} (ds : List γ) : L2.atI ds 7 = ds[7]? := atI_ofNat ds 7
@[simp] theorem atI_8 {γ : Type} (ds : List γ) : L2.atI ds 8 = ds[8]? := atI_ofNat ds 8
@[simp] theorem atI_9 {γ : Type} (ds : List γ) : L2.atI ds 9 = ds[9]? := atI_ofNat ds 9
@[simp] theorem atI_1 {γ : Type} (ds : List γ) : L2.atI ds 1 = ds[1]? := atI_ofNat ds 1
theorem ixN_ofNat (l n : Nat) : L2.ixN l (n : Int) = if n < l then some n else none := by
  unfold L2.ixN
  rw [if_pos (Int.natCast_nonneg n)]
  by_cases h : (n : Int) < l
  · rw [if_pos h, if_pos (by omega)]
    simp
  · rw [if_neg h, if_neg (by omega)]
@[simp] theorem ixN_0 (l : Nat) : L2.ixN l 0 = if 0 < l then some 0 else none := ixN_ofNat l 0
@[simp] theorem ixN_1 (l : Nat) : L2.ixN l 1 = if 1 < l then some 1 else none := ixN_ofNat l 1
@[simp] theorem ixN_2 (l : Nat) : L2.ixN l 2 = if 2 < l then some 2 else none := ixN_ofNat l 2
@[simp] theorem ixN_3 (l : Nat) : L2.ixN l 3 = if 3 < l then some 3 else none := ixN_ofNat l 3
@[simp] theorem ixN_4 (l : Nat) : L2.ixN l 4 = if 4 < l then some 4 else none := ixN_ofNat l 4
@[simp] theorem ixN_5 (l : Nat) : L2.ixN l 5 = if 5 < l then some 5 else none := ixN_ofNat l 5
@[simp] theorem ixN_6 (l : Nat) : L2.ixN l 6 = if 6 < l then some 6 else none := ixN_ofNat l 6
@[simp] theorem ixN_7 (l : Nat) : L2.ixN l 7 = if 7 < l then some 7 else none := ixN_ofNat l 7
@[simp] theorem ixN_8 (l : Nat) : L2.ixN l 8 = if 8 < l then some 8 else none := ixN_ofNat l 8
@[simp] theorem ixN_9 (l : Nat) : L2.ixN l 9 = if 9 < l then some 9 else none := ixN_ofNat l 9
/-! ### operators -/
@[simp] theorem add_int (i j : Int) : binop .add (.int i) (.int j) = some (.dat (.int (i + j))) := rfl
@[simp] theorem sub_int (i j : Int) : binop .sub (.int i) (.int j) = some (.dat (.int (i - j))) := rfl
theorem mul_int (i j : Int) : binop .mul (.int i) (.int j) = if (i.natAbs < 2 ^ 64 ∨ j.natAbs < 2 ^ 64) ∨ i.natAbs.log2 + j.natAbs.log2 < 1000000 then some (.dat (.int (i * j))) else none := rfl
@[simp] theorem mul_left (i j : Int) (h : i.natAbs < 2 ^ 64) : binop .mul (.int i) (.int j) = some (.dat (.int (i * j))) := by
  rw [mul_int, if_pos (.inl (.inl h))]
@[simp] theorem mul_right (i j : Int) (h : j.natAbs < 2 ^ 64) : binop .mul (.int i) (.int j) = some (.dat (.int (i * j))) := by
  rw [mul_int, if_pos (.inl (.inr h))]
theorem fdiv_int (i j : Int) : binop .fdiv (.int i) (.int j) = if 0 < j ∧ j.natAbs.log2 < 9000 then some (.dat (.int (i / j))) else none := rfl
theorem log2_small {n : Nat} (h : n < 2 ^ 64) : n.log2 < 9000 := by
  by_cases h0 : n = 0
  · subst h0
    decide
  · exact Nat.lt_of_lt_of_le ((Nat.log2_lt h0).mpr h) (by decide)
@[simp] theorem fdiv_small (i j : Int) (h : 0 < j) (h2 : j.natAbs < 2 ^ 64) : binop .fdiv (.int i) (.int j) = some (.dat (.int (i / j))) := by
  rw [fdiv_int, if_pos ⟨h, log2_small h2⟩]
theorem mod_int (i j : Int) : binop .mod (.int i) (.int j) = if 0 < j then some (.dat (.int (i % j))) else none := rfl
@[simp] theorem mod_pos (i j : Int) (h : 0 < j) : binop .mod (.int i) (.int j) = some (.dat (.int (i % j))) := by
  rw [mod_int, if_pos h]
theorem pow_int (i j : Int) : binop .pow (.int i) (.int j) = if 0 ≤ j ∧ j ≤ 1000000 ∧ i.natAbs < 2 ^ 64 then some (.dat (.int (i ^ j.toNat))) else none := rfl
@[simp] theorem pow_small (i j : Int) (h0 : 0 ≤ j) (h1 : j ≤ 1000000) (h2 : i.natAbs < 2 ^ 64) : binop .pow (.int i) (.int j) = some (.dat (.int (i ^ j.toNat))) := by
  rw [pow_int, if_pos ⟨h0, h1, h2⟩]
@[simp] theorem add_list (a b : List D) (h : a.length + b.length ≤ sizeLine) : binop .add (.list a) (.list b) = some (.new (.lst (a ++ b))) := if_pos h
@[simp] theorem add_tuple (a b : List D) (h : a.length + b.length ≤ sizeLine) : binop .add (.tuple a) (.tuple b) = some (.dat (.tuple (a ++ b))) := if_pos h
@[simp] theorem plain_int (i : Int) : PyData.plain (.int i) = true := rfl
@[simp] theorem cmp_eq (d e : D) (h : plain2 d e = true) : cmpop .eq d e = some (PyData.eqv d e) := if_pos h
@[simp] theorem cmp_ne (d e : D) (h : plain2 d e = true) : cmpop .ne d e = some (!PyData.eqv d e) := if_pos h
@[simp] theorem plain2_int (i j : Int) : plain2 (.int i) (.int j) = true := by
  simp [plain2, PyData.plain, PyData.depth]
@[simp] theorem eqv_int (i j : Int) : PyData.eqv (.int i) (.int j) = decide (i = j) := by
  simp [PyData.eqv, Bool.beq_eq_decide_eq]
@[simp] theorem lt_int (i j : Int) : cmpop .lt (.int i) (.int j) = some (decide (i < j)) := by
  have h : orderd (.int i) (.int j) = true := by simp [orderd, PySem.W.alike, PyData.depth]
  refine (if_pos (e := none) h).trans ?_
  rw [PySem.W.dataLt_int]
@[simp] theorem gt_int (i j : Int) : cmpop .gt (.int i) (.int j) = some (decide (j < i)) := by
  have h : orderd (.int i) (.int j) = true := by simp [orderd, PySem.W.alike, PyData.depth]
  refine (if_pos (e := none) h).trans ?_
  rw [PySem.W.dataLt_int]
@[simp] theorem le_int (i j : Int) : cmpop .le (.int i) (.int j) = some (decide (i ≤ j)) := by
  have h : orderd (.int i) (.int j) = true := by simp [orderd, PySem.W.alike, PyData.depth]
  refine (if_pos (e := none) h).trans ?_
  rw [PySem.W.dataLt_int]
  congr 1
  by_cases q : i ≤ j
  · have : ¬ j < i := by omega
    simp [q, this]
  · have : j < i := by omega
    simp [q, this]
@[simp] theorem ge_int (i j : Int) : cmpop .ge (.int i) (.int j) = some (decide (j ≤ i)) := by
  have h : orderd (.int i) (.int j) = true := by simp [orderd, PySem.W.alike, PyData.depth]
  refine (if_pos (e := none) h).trans ?_
  rw [PySem.W.dataLt_int]
  congr 1
  by_cases q : j ≤ i
  · have : ¬ i < j := by omega
    simp [q, this]
  · have : i < j := by omega
    simp [q, this]
@[simp] theorem notin_eq (d e : D) : cmpop .notin d e = (cmpop .isin d e).map (! ·) := rfl
@[simp] theorem in_list (d : D) (es : List D) (h : memOk d es = true) : cmpop .isin d (.list es) = some (mem d es) := by
  show isIn d (.list es) = _
  have e : isIn d (.list es) = if memOk d es = true then some (mem d es) else none := by cases d <;> rfl
  rw [e, if_pos h]
@[simp] theorem in_tuple (d : D) (es : List D) (h : memOk d es = true) : cmpop .isin d (.tuple es) = some (mem d es) := by
  show isIn d (.tuple es) = _
  have e : isIn d (.tuple es) = if memOk d es = true then some (mem d es) else none := by cases d <;> rfl
  rw [e, if_pos h]
@[simp] theorem truth_none : truth .none = some false := rfl
@[simp] theorem truth_bool (b : Bool) : truth (.bool b) = some b := rfl
@[simp] theorem truth_int (i : Int) : truth (.int i) = some (i != 0) := rfl
@[simp] theorem truth_list (ds : List D) : truth (.list ds) = some (!ds.isEmpty) := rfl
@[simp] theorem truth_tuple (ds : List D) : truth (.tuple ds) = some (!ds.isEmpty) := rfl
/-! ### built-ins -/
@[simp] theorem len_list (ds : List D) : fn .len [.list ds] = some (.dat (.int ds.length)) := rfl
@[simp] theorem len_tuple (ds : List D) : fn .len [.tuple ds] = some (.dat (.int ds.length)) := rfl
@[simp] theorem fn_int (i : Int) : fn .int [.int i] = some (.dat (.int i)) := rfl
@[simp] theorem fn_abs (i : Int) : fn .abs [.int i] = some (.dat (.int (if i < 0 then -i else i))) := rfl
theorem asInts_ints : ∀ ns : List Int, asInts (intsD ns) = some ns
  | [] => rfl
  | n :: ns => by
    show (asInts (intsD ns)).map (n :: ·) = _
    rw [asInts_ints ns]
    rfl
@[simp] theorem fn_sum (ns : List Int) : fn .sum [.list (intsD ns)] = some (.dat (.int ns.sum)) := by
  show (asInts (intsD ns)).map _ = _
  rw [asInts_ints]
  rfl
def boolsD (bs : List Bool) : List D := bs.map PyData.bool
theorem asBools_bools : ∀ ns : List Bool, asBools (ns.map PyData.bool) = some ns
  | [] => rfl
  | n :: ns => by
    show (asBools (ns.map PyData.bool)).map (n :: ·) = _
    rw [asBools_bools ns]
    rfl
@[simp] theorem fn_any (ns : List Bool) : fn .any [.list (boolsD ns)] = some (.dat (.bool (ns.any id))) := by
  show (asBools (ns.map PyData.bool)).map _ = _
  rw [asBools_bools]
  rfl
@[simp] theorem fn_all (ns : List Bool) : fn .all [.list (boolsD ns)] = some (.dat (.bool (ns.all id))) := by
  show (asBools (ns.map PyData.bool)).map _ = _
  rw [asBools_bools]
  rfl
@[simp] theorem fn_tuple_list (ds : List D) : fn .tuple [.list ds] = some (.dat (.tuple ds)) := rfl
@[simp] theorem fn_tuple_tuple (ds : List D) : fn .tuple [.tuple ds] = some (.dat (.tuple ds)) := rfl
@[simp] theorem fn_list_list (ds : List D) : fn .list [.list ds] = some (.new (.lst ds)) := rfl
@[simp] theorem fn_list_tuple (ds : List D) : fn .list [.tuple ds] = some (.new (.lst ds)) := rfl
@[simp] theorem fn_sorted_list (ns : List Int) : fn .sorted [.list (intsD ns)] = some (.new (.lst (intsD (sortI ns)))) := by
  have e : ∀ ds, fn .sorted [.list ds] = (match asInts ds with
    | some ns => some (.new (.lst (intsD (sortI ns))))
    | none => if sortOk ds = true then some (.new (.lst (sortD ds))) else none) := fun _ => rfl
  rw [e, asInts_ints]
theorem fn_sorted_data (ds : List D) (h1 : asInts ds = none) (h2 : sortOk ds = true) : fn .sorted [.list ds] = some (.new (.lst (sortD ds))) := by
  have e : ∀ ds, fn .sorted [.list ds] = (match asInts ds with
    | some ns => some (.new (.lst (intsD (sortI ns))))
    | none => if sortOk ds = true then some (.new (.lst (sortD ds))) else none) := fun _ => rfl
  rw [e, h1]
  simp only
  rw [if_pos h2]
@[simp] theorem fn_str_str (s : Str) : fn .str [.str s] = some (.dat (.str s)) := rfl
@[simp] theorem fn_sorted_tuple (ns : List Int) : fn .sorted [.tuple (intsD ns)] = some (.new (.lst (intsD (sortI ns)))) := by
  show (asInts (intsD ns)).map _ = _
  rw [asInts_ints]
  rfl
@[simp] theorem fn_sset_list (ns : List Int) (h : ns.length < 60) : fn .sortedSet [.list (intsD ns)] = some (.new (.lst (intsD (sortI (uniqI ns))))) := by
  show (asInts (intsD ns)).bind _ = _
  rw [asInts_ints]
  exact if_pos h
@[simp] theorem fn_sset_tuple (ns : List Int) (h : ns.length < 60) : fn .sortedSet [.tuple (intsD ns)] = some (.new (.lst (intsD (sortI (uniqI ns))))) := by
  show (asInts (intsD ns)).bind _ = _
  rw [asInts_ints]
  exact if_pos h
@[simp] theorem sli_list (lo hi : Option Int) (ds : List D) : sliop lo hi (.list ds) = some (.new (.lst (cutD ds lo hi))) := rfl
@[simp] theorem sli_tuple (lo hi : Option Int) (ds : List D) : sliop lo hi (.tuple ds) = some (.dat (.tuple (cutD ds lo hi))) := rfl
@[simp] theorem rev_list (ds : List D) : revop (.list ds) = some (.new (.lst ds.reverse)) := rfl
@[simp] theorem itemsD_list (ds : List D) : itemsD (.list ds) = some ds := rfl
@[simp] theorem itemsD_tuple (ds : List D) : itemsD (.tuple ds) = some ds := rfl
theorem rng1D_int (j : Int) (h1 : -(2 ^ 62) ≤ j) (h2 : j < 2 ^ 62) : rng1D (.int j) = some (rngD 0 j.toNat) := if_pos ⟨h1, h2⟩
@[simp] theorem mapM_nil : ([] : List Val).mapM (cur δ) = some [] := rfl
@[simp] theorem mapM_cons (a : Val) (as : List Val) : (a :: as).mapM (cur δ) = (cur δ a).bind fun d => (as.mapM (cur δ)).bind fun ds => some (d :: ds) := by
  rw [List.mapM_cons]
  rfl
/-! ### expressions: what is left to do, by names -/
@[simp] theorem ev_var (i : Nat) : ev C (.var i) δ = (match δ[i]? with
    | some (.im d) => .ok (.dat d) δ
    | some (.ow _) => .ok (.own i) δ
    | some (.xc _ _) => .ok (.own i) δ
    | _ => .no) := rfl
@[simp] theorem ev_int (i : Int) : ev C (.int i) δ = .ok (.dat (.int i)) δ := rfl
@[simp] theorem ev_str (i : Str) : ev C (.str i) δ = .ok (.dat (.str i)) δ := rfl
@[simp] theorem ev_bool (i : Bool) : ev C (.bool i) δ = .ok (.dat (.bool i)) δ := rfl
@[simp] theorem ev_none  : ev C .none δ = .ok (.dat .none) δ := rfl
def kFz2 (C : Cfg)  (r : R D) : R Val := r.bind fun d δ => .ok (.dat d) δ
@[simp] theorem kFz2_ok (C : Cfg)  (d : D) (δ : Env) : kFz2 C  (.ok d δ) = .ok (.dat d) δ := rfl
def kFz1 (C : Cfg)  (r : R Val) : R Val := r.bind fun v δ => kFz2 C (dem C.kp v δ)
@[simp] theorem kFz1_ok (C : Cfg)  (v : Val) (δ : Env) : kFz1 C  (.ok v δ) = kFz2 C (dem C.kp v δ) := rfl
@[simp] theorem ev_fz (e : CE) : ev C (.fz e) δ = kFz1 C (ev C e δ) := rfl
def kBin2 (C : Cfg) (o : Bop) (x : Val) (r : R Val) : R Val := r.bind fun y δ => op2 (binop o) x y δ
@[simp] theorem kBin2_ok (C : Cfg) (o : Bop) (x : Val) (y : Val) (δ : Env) : kBin2 C o x (.ok y δ) = op2 (binop o) x y δ := rfl
def kBin1 (C : Cfg) (o : Bop) (b : CE) (r : R Val) : R Val := r.bind fun x δ => kBin2 C o x (ev C b δ)
@[simp] theorem kBin1_ok (C : Cfg) (o : Bop) (b : CE) (x : Val) (δ : Env) : kBin1 C o b (.ok x δ) = kBin2 C o x (ev C b δ) := rfl
@[simp] theorem ev_bin (o : Bop) (a b : CE) : ev C (.bin o a b) δ = kBin1 C o b (ev C a δ) := rfl
def kNeg (C : Cfg)  (r : R Val) : R Val := r.bind fun x δ => op1 negV x δ
@[simp] theorem kNeg_ok (C : Cfg)  (x : Val) (δ : Env) : kNeg C  (.ok x δ) = op1 negV x δ := rfl
@[simp] theorem ev_neg (a : CE) : ev C (.neg a) δ = kNeg C (ev C a δ) := rfl
def kCmp2 (C : Cfg) (o : Cop) (x : Val) (r : R Val) : R Val := r.bind fun y δ => op2 (cmpV o) x y δ
@[simp] theorem kCmp2_ok (C : Cfg) (o : Cop) (x : Val) (y : Val) (δ : Env) : kCmp2 C o x (.ok y δ) = op2 (cmpV o) x y δ := rfl
def kCmp1 (C : Cfg) (o : Cop) (b : CE) (r : R Val) : R Val := r.bind fun x δ => kCmp2 C o x (ev C b δ)
@[simp] theorem kCmp1_ok (C : Cfg) (o : Cop) (b : CE) (x : Val) (δ : Env) : kCmp1 C o b (.ok x δ) = kCmp2 C o x (ev C b δ) := rfl
@[simp] theorem ev_cmp (o : Cop) (a b : CE) : ev C (.cmp o a b) δ = kCmp1 C o b (ev C a δ) := rfl
def kIsN (C : Cfg)  (r : R Val) : R Val := r.bind fun x δ => op1 (fun d => some (.dat (.bool (isNoneD d)))) x δ
@[simp] theorem kIsN_ok (C : Cfg)  (x : Val) (δ : Env) : kIsN C  (.ok x δ) = op1 (fun d => some (.dat (.bool (isNoneD d)))) x δ := rfl
@[simp] theorem ev_isN (a : CE) : ev C (.isN a) δ = kIsN C (ev C a δ) := rfl
def kNotN (C : Cfg)  (r : R Val) : R Val := r.bind fun x δ => op1 (fun d => some (.dat (.bool (!isNoneD d)))) x δ
@[simp] theorem kNotN_ok (C : Cfg)  (x : Val) (δ : Env) : kNotN C  (.ok x δ) = op1 (fun d => some (.dat (.bool (!isNoneD d)))) x δ := rfl
@[simp] theorem ev_notN (a : CE) : ev C (.notN a) δ = kNotN C (ev C a δ) := rfl
def kNot (r : R Val) : R Val := r.bind fun x δ1 => match x with
    | .dat (.bool b) => .ok (.dat (.bool (!b))) δ1
    | _ => .no
@[simp] theorem kNot_ok (b : Bool) (δ : Env) : kNot (.ok (.dat (.bool b)) δ) = .ok (.dat (.bool (!b))) δ := rfl
@[simp] theorem ev_not (a : CE) : ev C (.not a) δ = kNot (ev C a δ) := rfl
def kAnd (C : Cfg) (b : CE) (r : R Val) : R Val := r.bind fun x δ1 => match x with
    | .dat (.bool true) => ev C b δ1
    | .dat (.bool false) => .ok (.dat (.bool false)) δ1
    | _ => .no
@[simp] theorem kAnd_true (C : Cfg) (b : CE) (δ : Env) : kAnd C b (.ok (.dat (.bool true)) δ) = ev C b δ := rfl
@[simp] theorem kAnd_false (C : Cfg) (b : CE) (δ : Env) : kAnd C b (.ok (.dat (.bool false)) δ) = .ok (.dat (.bool false)) δ := rfl
@[simp] theorem ev_and (a b : CE) : ev C (.and a b) δ = kAnd C b (ev C a δ) := rfl
def kOr (C : Cfg) (b : CE) (r : R Val) : R Val := r.bind fun x δ1 => match x with
    | .dat (.bool false) => ev C b δ1
    | .dat (.bool true) => .ok (.dat (.bool true)) δ1
    | _ => .no
@[simp] theorem kOr_false (C : Cfg) (b : CE) (δ : Env) : kOr C b (.ok (.dat (.bool false)) δ) = ev C b δ := rfl
@[simp] theorem kOr_true (C : Cfg) (b : CE) (δ : Env) : kOr C b (.ok (.dat (.bool true)) δ) = .ok (.dat (.bool true)) δ := rfl
@[simp] theorem ev_or (a b : CE) : ev C (.or a b) δ = kOr C b (ev C a δ) := rfl
def kIte (C : Cfg) (a b : CE) (r : R Bool) : R Val := r.bind fun k δ1 => if k = true then ev C a δ1 else ev C b δ1
@[simp] theorem kIte_true (C : Cfg) (a b : CE) (δ : Env) : kIte C a b (.ok true δ) = ev C a δ := rfl
@[simp] theorem kIte_false (C : Cfg) (a b : CE) (δ : Env) : kIte C a b (.ok false δ) = ev C b δ := rfl
@[simp] theorem ev_ite (c : CT) (a b : CE) : ev C (.ite c a b) δ = kIte C a b (evT C c δ) := rfl
def kTup (C : Cfg)  (r : R (List D)) : R Val := r.bind fun ds δ => (if ds.length ≤ sizeLine then .ok (.dat (.tuple ds)) δ else .no)
@[simp] theorem kTup_ok (C : Cfg)  (ds : (List D)) (δ : Env) : kTup C  (.ok ds δ) = (if ds.length ≤ sizeLine then .ok (.dat (.tuple ds)) δ else .no) := rfl
@[simp] theorem ev_tup (es : CEs) : ev C (.tup es) δ = kTup C (evD C es δ) := rfl
def kLst (C : Cfg)  (r : R (List D)) : R Val := r.bind fun ds δ => (if ds.length ≤ sizeLine then .ok (.new (.lst ds)) δ else .no)
@[simp] theorem kLst_ok (C : Cfg)  (ds : (List D)) (δ : Env) : kLst C  (.ok ds δ) = (if ds.length ≤ sizeLine then .ok (.new (.lst ds)) δ else .no) := rfl
@[simp] theorem ev_lst (es : CEs) : ev C (.lst es) δ = kLst C (evD C es δ) := rfl
def kIdx2 (C : Cfg) (x : Val) (r : R Val) : R Val := r.bind fun y δ => op2 idxV x y δ
@[simp] theorem kIdx2_ok (C : Cfg) (x : Val) (y : Val) (δ : Env) : kIdx2 C x (.ok y δ) = op2 idxV x y δ := rfl
def kIdx1 (C : Cfg) (b : CE) (r : R Val) : R Val := r.bind fun x δ => kIdx2 C x (ev C b δ)
@[simp] theorem kIdx1_ok (C : Cfg) (b : CE) (x : Val) (δ : Env) : kIdx1 C b (.ok x δ) = kIdx2 C x (ev C b δ) := rfl
@[simp] theorem ev_idx (a b : CE) : ev C (.idx a b) δ = kIdx1 C b (ev C a δ) := rfl
def kSli3 (C : Cfg) (x : Val) (l : Option Int) (r : R (Option Int)) : R Val := r.bind fun h δ => op1 (sliop l h) x δ
@[simp] theorem kSli3_ok (C : Cfg) (x : Val) (l : Option Int) (h : (Option Int)) (δ : Env) : kSli3 C x l (.ok h δ) = op1 (sliop l h) x δ := rfl
def kSli2 (C : Cfg) (x : Val) (hi : CO) (r : R (Option Int)) : R Val := r.bind fun l δ => kSli3 C x l (evO C hi δ)
@[simp] theorem kSli2_ok (C : Cfg) (x : Val) (hi : CO) (l : (Option Int)) (δ : Env) : kSli2 C x hi (.ok l δ) = kSli3 C x l (evO C hi δ) := rfl
def kSli1 (C : Cfg) (lo : CO) (hi : CO) (r : R Val) : R Val := r.bind fun x δ => kSli2 C x hi (evO C lo δ)
@[simp] theorem kSli1_ok (C : Cfg) (lo : CO) (hi : CO) (x : Val) (δ : Env) : kSli1 C lo hi (.ok x δ) = kSli2 C x hi (evO C lo δ) := rfl
@[simp] theorem ev_sli (a : CE) (lo hi : CO) : ev C (.sli a lo hi) δ = kSli1 C lo hi (ev C a δ) := rfl
def kRev (C : Cfg)  (r : R Val) : R Val := r.bind fun x δ => op1 revop x δ
@[simp] theorem kRev_ok (C : Cfg)  (x : Val) (δ : Env) : kRev C  (.ok x δ) = op1 revop x δ := rfl
@[simp] theorem ev_rev (a : CE) : ev C (.rev a) δ = kRev C (ev C a δ) := rfl
def kCall (C : Cfg) (f : Nat) (r : R (List Val)) : R Val := r.bind fun as δ => (if (ownIx as).Nodup then callR (C.call f (as.map (argSlot δ))) as δ else .no)
@[simp] theorem kCall_ok (C : Cfg) (f : Nat) (as : (List Val)) (δ : Env) : kCall C f (.ok as δ) = (if (ownIx as).Nodup then callR (C.call f (as.map (argSlot δ))) as δ else .no) := rfl
@[simp] theorem ev_call (f : Nat) (es : CEs) : ev C (.call f es) δ = kCall C f (evA C es δ) := rfl
def kBi (C : Cfg) (f : Fn) (r : R (List Val)) : R Val := r.bind fun as δ => optR δ ((as.mapM (cur δ)).bind (fn f))
@[simp] theorem kBi_ok (C : Cfg) (f : Fn) (as : (List Val)) (δ : Env) : kBi C f (.ok as δ) = optR δ ((as.mapM (cur δ)).bind (fn f)) := rfl
@[simp] theorem ev_bi (f : Fn) (es : CEs) : ev C (.bi f es) δ = kBi C f (evA C es δ) := rfl
def kMt (C : Cfg) (m : Mt) (i : Nat) (r : R (List D)) : R Val := r.bind fun ds δ => mtR m i ds δ
@[simp] theorem kMt_ok (C : Cfg) (m : Mt) (i : Nat) (ds : (List D)) (δ : Env) : kMt C m i (.ok ds δ) = mtR m i ds δ := rfl
@[simp] theorem ev_mt (m : Mt) (i : Nat) (es : CEs) : ev C (.mt m i es) δ = (match δ[i]? with
    | some (.ow (.lst _)) => kMt C m i (evD C es δ)
    | _ => .no) := rfl
def kExt (C : Cfg) (i : Nat) (r : R Val) : R Val := r.bind fun v δ => extR i v δ
@[simp] theorem kExt_ok (C : Cfg) (i : Nat) (v : Val) (δ : Env) : kExt C i (.ok v δ) = extR i v δ := rfl
@[simp] theorem ev_ext (i : Nat) (e : CE) : ev C (.ext i e) δ = (match δ[i]? with
    | some (.ow (.lst _)) => kExt C i (ev C e δ)
    | _ => .no) := rfl
def kLcE (C : Cfg) (vs : List Nat) (r : R (List D)) : R Val := r.bind fun ys δ => .ok (.new (.lst ys)) δ
@[simp] theorem kLcE_ok (C : Cfg) (vs : List Nat) (ys : (List D)) (δ : Env) : kLcE C vs (.ok ys δ) = .ok (.new (.lst ys)) δ := rfl
def cTT : Env → R Bool := fun δ => .ok true δ
@[simp] theorem cTT_eq : cTT δ = .ok true δ := rfl
def kDm (kp : Nat) (r : R Val) : R D := r.bind (dem kp)
@[simp] theorem kDm_ok (kp : Nat) (v : Val) : kDm kp (.ok v δ) = dem kp v δ := rfl
def evDm (C : Cfg) (e : CE) : Env → R D := fun δ => (ev C e δ).bind (dem C.kp)
@[simp] theorem evDm_eq (e : CE) : evDm C e δ = kDm C.kp (ev C e δ) := rfl
def kLc (C : Cfg) (e : CE) (g : Tg) (vs : List Nat) (r : R (List D)) : R Val := r.bind fun ds δ => (if vs.all (fun v => decide (C.kp ≤ v)) = true then kLcE C vs (lcGo C.kp g cTT (evDm C e) vs ds [] (wipeE δ vs)) else .no)
@[simp] theorem kLc_ok (C : Cfg) (e : CE) (g : Tg) (vs : List Nat) (ds : (List D)) (δ : Env) : kLc C e g vs (.ok ds δ) = (if vs.all (fun v => decide (C.kp ≤ v)) = true then kLcE C vs (lcGo C.kp g cTT (evDm C e) vs ds [] (wipeE δ vs)) else .no) := rfl
@[simp] theorem ev_lc (e : CE) (g : Tg) (it : CI) (vs : List Nat) : ev C (.lc e g it vs) δ = kLc C e g vs (evI C it δ) := rfl
def kLcIf (C : Cfg) (e : CE) (g : Tg) (c : CT) (vs : List Nat) (r : R (List D)) : R Val := r.bind fun ds δ => (if vs.all (fun v => decide (C.kp ≤ v)) = true then kLcE C vs (lcGo C.kp g (evT C c) (evDm C e) vs ds [] (wipeE δ vs)) else .no)
@[simp] theorem kLcIf_ok (C : Cfg) (e : CE) (g : Tg) (c : CT) (vs : List Nat) (ds : (List D)) (δ : Env) : kLcIf C e g c vs (.ok ds δ) = (if vs.all (fun v => decide (C.kp ≤ v)) = true then kLcE C vs (lcGo C.kp g (evT C c) (evDm C e) vs ds [] (wipeE δ vs)) else .no) := rfl
@[simp] theorem ev_lcIf (e : CE) (g : Tg) (it : CI) (c : CT) (vs : List Nat) : ev C (.lcIf e g it c vs) δ = kLcIf C e g c vs (evI C it δ) := rfl
def kTr (C : Cfg)  (r : R Val) : R Bool := r.bind fun v δ => op1 truth v δ
@[simp] theorem kTr_ok (C : Cfg)  (v : Val) (δ : Env) : kTr C  (.ok v δ) = op1 truth v δ := rfl
@[simp] theorem evT_tr (e : CE) : evT C (.tr e) δ = kTr C (ev C e δ) := rfl
def kTCmp2 (C : Cfg) (o : Cop) (x : Val) (r : R Val) : R Bool := r.bind fun y δ => op2 (cmpop o) x y δ
@[simp] theorem kTCmp2_ok (C : Cfg) (o : Cop) (x : Val) (y : Val) (δ : Env) : kTCmp2 C o x (.ok y δ) = op2 (cmpop o) x y δ := rfl
def kTCmp1 (C : Cfg) (o : Cop) (b : CE) (r : R Val) : R Bool := r.bind fun x δ => kTCmp2 C o x (ev C b δ)
@[simp] theorem kTCmp1_ok (C : Cfg) (o : Cop) (b : CE) (x : Val) (δ : Env) : kTCmp1 C o b (.ok x δ) = kTCmp2 C o x (ev C b δ) := rfl
@[simp] theorem evT_cmp (o : Cop) (a b : CE) : evT C (.cmp o a b) δ = kTCmp1 C o b (ev C a δ) := rfl
def kTIsN (C : Cfg)  (r : R Val) : R Bool := r.bind fun x δ => op1 (fun d => some (isNoneD d)) x δ
@[simp] theorem kTIsN_ok (C : Cfg)  (x : Val) (δ : Env) : kTIsN C  (.ok x δ) = op1 (fun d => some (isNoneD d)) x δ := rfl
@[simp] theorem evT_isN (a : CE) : evT C (.isN a) δ = kTIsN C (ev C a δ) := rfl
def kTNotN (C : Cfg)  (r : R Val) : R Bool := r.bind fun x δ => op1 (fun d => some (!isNoneD d)) x δ
@[simp] theorem kTNotN_ok (C : Cfg)  (x : Val) (δ : Env) : kTNotN C  (.ok x δ) = op1 (fun d => some (!isNoneD d)) x δ := rfl
@[simp] theorem evT_notN (a : CE) : evT C (.notN a) δ = kTNotN C (ev C a δ) := rfl
def kTNot (C : Cfg)  (r : R Bool) : R Bool := r.bind fun b δ => .ok (!b) δ
@[simp] theorem kTNot_ok (C : Cfg)  (b : Bool) (δ : Env) : kTNot C  (.ok b δ) = .ok (!b) δ := rfl
@[simp] theorem evT_not (a : CT) : evT C (.not a) δ = kTNot C (evT C a δ) := rfl
def kTAnd (C : Cfg) (b : CT) (r : R Bool) : R Bool := r.bind fun k δ1 => if k = true then evT C b δ1 else .ok false δ1
@[simp] theorem kTAnd_true (C : Cfg) (b : CT) (δ : Env) : kTAnd C b (.ok true δ) = evT C b δ := rfl
@[simp] theorem kTAnd_false (C : Cfg) (b : CT) (δ : Env) : kTAnd C b (.ok false δ) = .ok false δ := rfl
@[simp] theorem evT_and (a b : CT) : evT C (.and a b) δ = kTAnd C b (evT C a δ) := rfl
def kTOr (C : Cfg) (b : CT) (r : R Bool) : R Bool := r.bind fun k δ1 => if k = true then .ok true δ1 else evT C b δ1
@[simp] theorem kTOr_true (C : Cfg) (b : CT) (δ : Env) : kTOr C b (.ok true δ) = .ok true δ := rfl
@[simp] theorem kTOr_false (C : Cfg) (b : CT) (δ : Env) : kTOr C b (.ok false δ) = evT C b δ := rfl
@[simp] theorem evT_or (a b : CT) : evT C (.or a b) δ = kTOr C b (evT C a δ) := rfl
@[simp] theorem evD_nil  : evD C .nil δ = .ok [] δ := rfl
def kD3 (C : Cfg) (d : D) (r : R (List D)) : R (List D) := r.bind fun ds δ => .ok (d :: ds) δ
@[simp] theorem kD3_ok (C : Cfg) (d : D) (ds : (List D)) (δ : Env) : kD3 C d (.ok ds δ) = .ok (d :: ds) δ := rfl
def kD2 (C : Cfg) (es : CEs) (r : R D) : R (List D) := r.bind fun d δ => kD3 C d (evD C es δ)
@[simp] theorem kD2_ok (C : Cfg) (es : CEs) (d : D) (δ : Env) : kD2 C es (.ok d δ) = kD3 C d (evD C es δ) := rfl
def kD1 (C : Cfg) (es : CEs) (r : R Val) : R (List D) := r.bind fun v δ => kD2 C es (dem C.kp v δ)
@[simp] theorem kD1_ok (C : Cfg) (es : CEs) (v : Val) (δ : Env) : kD1 C es (.ok v δ) = kD2 C es (dem C.kp v δ) := rfl
@[simp] theorem evD_cons (e : CE) (es : CEs) : evD C (.cons e es) δ = kD1 C es (ev C e δ) := rfl
@[simp] theorem evA_nil  : evA C .nil δ = .ok [] δ := rfl
def kA2 (C : Cfg) (v : Val) (r : R (List Val)) : R (List Val) := r.bind fun vs δ => .ok (v :: vs) δ
@[simp] theorem kA2_ok (C : Cfg) (v : Val) (vs : (List Val)) (δ : Env) : kA2 C v (.ok vs δ) = .ok (v :: vs) δ := rfl
def kA1 (C : Cfg) (es : CEs) (r : R Val) : R (List Val) := r.bind fun v δ => kA2 C v (evA C es δ)
@[simp] theorem kA1_ok (C : Cfg) (es : CEs) (v : Val) (δ : Env) : kA1 C es (.ok v δ) = kA2 C v (evA C es δ) := rfl
@[simp] theorem evA_cons (e : CE) (es : CEs) : evA C (.cons e es) δ = kA1 C es (ev C e δ) := rfl
@[simp] theorem evO_no  : evO C .no δ = .ok none δ := rfl
def kO (C : Cfg)  (r : R Val) : R (Option Int) := r.bind fun v δ => op1 (fun d => (intD d).map some) v δ
@[simp] theorem kO_ok (C : Cfg)  (v : Val) (δ : Env) : kO C  (.ok v δ) = op1 (fun d => (intD d).map some) v δ := rfl
@[simp] theorem evO_yes (e : CE) : evO C (.yes e) δ = kO C (ev C e δ) := rfl
def kI2 (C : Cfg)  (r : R D) : R (List D) := r.bind fun d δ => optR δ (itemsD d)
@[simp] theorem kI2_ok (C : Cfg)  (d : D) (δ : Env) : kI2 C  (.ok d δ) = optR δ (itemsD d) := rfl
def kI1 (C : Cfg)  (r : R Val) : R (List D) := r.bind fun v δ => kI2 C (dem C.kp v δ)
@[simp] theorem kI1_ok (C : Cfg)  (v : Val) (δ : Env) : kI1 C  (.ok v δ) = kI2 C (dem C.kp v δ) := rfl
@[simp] theorem evI_of (e : CE) : evI C (.of e) δ = kI1 C (ev C e δ) := rfl
def kR1 (C : Cfg)  (r : R Val) : R (List D) := r.bind fun v δ => op1 rng1D v δ
@[simp] theorem kR1_ok (C : Cfg)  (v : Val) (δ : Env) : kR1 C  (.ok v δ) = op1 rng1D v δ := rfl
@[simp] theorem evI_rng1 (e : CE) : evI C (.rng1 e) δ = kR1 C (ev C e δ) := rfl
def kR3 (C : Cfg) (v : Val) (r : R Val) : R (List D) := r.bind fun u δ => op2 rng2D v u δ
@[simp] theorem kR3_ok (C : Cfg) (v : Val) (u : Val) (δ : Env) : kR3 C v (.ok u δ) = op2 rng2D v u δ := rfl
def kR2 (C : Cfg) (b : CE) (r : R Val) : R (List D) := r.bind fun v δ => kR3 C v (ev C b δ)
@[simp] theorem kR2_ok (C : Cfg) (b : CE) (v : Val) (δ : Env) : kR2 C b (.ok v δ) = kR3 C v (ev C b δ) := rfl
@[simp] theorem evI_rng2 (a b : CE) : evI C (.rng2 a b) δ = kR2 C b (ev C a δ) := rfl
/-! ### calls -/
@[simp] theorem argSlot_dat (d : D) : argSlot δ (.dat d) = .im d := rfl
@[simp] theorem noX_un : noX .un = .un := rfl
@[simp] theorem noX_im (d : D) : noX (.im d) = .im d := rfl
@[simp] theorem noX_ow (o : Ow) : noX (.ow o) = .ow o := rfl
@[simp] theorem noX_xc (c : Nat) (fs : List (Str × D)) : noX (.xc c fs) = .un := rfl
@[simp] theorem argSlot_own (i : Nat) : argSlot δ (.own i) = δ.getD i .un := rfl
@[simp] theorem argSlot_new (o : Ow) : argSlot δ (.new o) = .ow o := rfl
@[simp] theorem ownIx_nil : ownIx [] = [] := rfl
@[simp] theorem ownIx_dat (d : D) (as : List Val) : ownIx (.dat d :: as) = ownIx as := rfl
@[simp] theorem ownIx_new (d : Ow) (as : List Val) : ownIx (.new d :: as) = ownIx as := rfl
@[simp] theorem ownIx_own (i : Nat) (as : List Val) : ownIx (.own i :: as) = i :: ownIx as := rfl
@[simp] theorem putBack_nil (ss : Env) : putBack δ [] ss = δ := by cases ss <;> rfl
@[simp] theorem putBack_dat (d : D) (as : List Val) (s : Slot) (ss : Env) : putBack δ (.dat d :: as) (s :: ss) = putBack δ as ss := rfl
@[simp] theorem putBack_new (d : Ow) (as : List Val) (s : Slot) (ss : Env) : putBack δ (.new d :: as) (s :: ss) = putBack δ as ss := rfl
@[simp] theorem putBack_own (i : Nat) (as : List Val) (s : Slot) (ss : Env) : putBack δ (.own i :: as) (s :: ss) = putBack (match δ[i]? with
    | some (.ow _) => δ.set i s
    | _ => δ) as ss := rfl
@[simp] theorem callR_dat (d : D) (ss : Env) (as : List Val) : callR (.ret (.dat d) ss) as δ = .ok (.dat d) (putBack δ as ss) := rfl
@[simp] theorem callR_new (d : Ow) (ss : Env) (as : List Val) : callR (.ret (.new d) ss) as δ = .ok (.new d) (putBack δ as ss) := rfl
@[simp] theorem callR_ex (c : Nat) (fs : List (Str × D)) (ss : Env) (as : List Val) : callR (.ex c fs ss) as δ = .ex c fs (putBack δ as ss) := rfl
@[simp] theorem calm_ok {α : Type} (a : α) (δ : Env) : (R.ok a δ).calm = .ok a δ := rfl
@[simp] theorem mtR_eq (m : Mt) (i : Nat) (ds : List D) : mtR m i ds δ = (match δ[i]? with
  | some (.ow (.lst xs)) => (match mtop m xs ds with
    | some (d, ys) => .ok (.dat d) (δ.set i (.ow (.lst ys)))
    | none => .no)
  | _ => .no) := rfl
@[simp] theorem extR_new (i : Nat) (es : List D) : extR i (.new (.lst es)) δ = (match δ[i]? with
  | some (.ow (.lst xs)) => if xs.length + es.length ≤ sizeLine then .ok (.dat .none) (δ.set i (.ow (.lst (xs ++ es)))) else .no
  | _ => .no) := by
  unfold extR
  cases δ[i]? with
  | none => rfl
  | some s =>
    cases s with
    | un => rfl
    | xc _ _ => rfl
    | im d => rfl
    | ow o => cases o <;> rfl
@[simp] theorem append_eq (xs : List D) (d : D) (h : xs.length < sizeLine) : mtop .append xs [d] = some (.none, xs ++ [d]) := if_pos h
@[simp] theorem pop_eq (xs : List D) : mtop .pop xs [] = (xs[xs.length - 1]?).map fun d => (d, xs.dropLast) := rfl
@[simp] theorem insert_eq (xs : List D) (i : Int) (d : D) (h0 : 0 ≤ i) (h1 : i < 2 ^ 63) (h2 : xs.length < sizeLine) : mtop .insert xs [.int i, d] = some (.none, xs.take i.toNat ++ [d] ++ xs.drop i.toNat) := if_pos ⟨h0, h1, h2⟩
/-! ### statements -/
@[simp] theorem bindT_name (kp i : Nat) (d : D) : bindT kp (.name i) d δ = if freeB kp δ i = true then some (δ.set i (.im d)) else none := rfl
@[simp] theorem bindT_tup (kp : Nat) (is : List Nat) (ds : List D) : bindT kp (.tup is) (.tuple ds) δ = bindAll kp is ds δ := rfl
@[simp] theorem bindAll_nil (kp : Nat) : bindAll kp [] [] δ = some δ := rfl
@[simp] theorem bindAll_cons (kp i : Nat) (is : List Nat) (d : D) (ds : List D) : bindAll kp (i :: is) (d :: ds) δ = if freeB kp δ i = true then bindAll kp is ds (δ.set i (.im d)) else none := rfl
@[simp] theorem setV_dat (kp i : Nat) (d : D) : setV kp i (.dat d) δ = if freeB kp δ i = true then .ok .nx (δ.set i (.im d)) else .no := rfl
@[simp] theorem setV_new (kp i : Nat) (d : Ow) : setV kp i (.new d) δ = if freeB kp δ i = true then .ok .nx (δ.set i (.ow d)) else .no := rfl
@[simp] theorem setV_own (kp i j : Nat) : setV kp i (.own j) δ = (dem kp (.own j) δ).bind fun d δ2 => if freeB kp δ2 i = true then .ok .nx (δ2.set i (.im d)) else .no := rfl
@[simp] theorem setIR_eq (i : Nat) (d : D) (n : Int) : setIR i d n δ = (match δ[i]? with
    | some (.ow (.lst ds)) => (match L2.ixN ds.length n with
      | some j => .ok .nx (δ.set i (.ow (.lst (ds.set j d))))
      | none => .no)
    | _ => .no) := rfl
@[simp] theorem retV_dat (kp : Nat) (d : D) : retV kp (.dat d) δ = .ok (.rt (.dat d)) δ := rfl
@[simp] theorem retV_new (kp : Nat) (d : Ow) : retV kp (.new d) δ = .ok (.rt (.new d)) δ := rfl
@[simp] theorem retV_own (kp i : Nat) : retV kp (.own i) δ = (match δ[i]? with
    | some (.im d) => .ok (.rt (.dat d)) δ
    | some (.ow o) => if kp ≤ i then .ok (.rt (.new o)) δ else .no
    | _ => .no) := rfl
@[simp] theorem ex_pass  : ex C .pass δ = .ok .nx δ := rfl
def kSet (C : Cfg) (i : Nat) (r : R Val) : R Fl := r.bind fun v δ => setV C.kp i v δ
@[simp] theorem kSet_ok (C : Cfg) (i : Nat) (v : Val) (δ : Env) : kSet C i (.ok v δ) = setV C.kp i v δ := rfl
@[simp] theorem ex_set (i : Nat) (e : CE) : ex C (.set (.name i) e) δ = kSet C i (ev C e δ) := rfl
def kSetT3 (r : R Env) : R Fl := r.bind fun δ3 _ => .ok .nx δ3
@[simp] theorem kSetT3_ok (δ3 δ : Env) : kSetT3 (.ok δ3 δ) = .ok .nx δ3 := rfl
def kSetT2 (C : Cfg) (is : List Nat) (r : R D) : R Fl := r.bind fun d δ => kSetT3 (optR δ (bindT C.kp (.tup is) d δ))
@[simp] theorem kSetT2_ok (C : Cfg) (is : List Nat) (d : D) (δ : Env) : kSetT2 C is (.ok d δ) = kSetT3 (optR δ (bindT C.kp (.tup is) d δ)) := rfl
def kSetT1 (C : Cfg) (is : List Nat) (r : R Val) : R Fl := r.bind fun v δ => kSetT2 C is (dem C.kp v δ)
@[simp] theorem kSetT1_ok (C : Cfg) (is : List Nat) (v : Val) (δ : Env) : kSetT1 C is (.ok v δ) = kSetT2 C is (dem C.kp v δ) := rfl
@[simp] theorem ex_setT (is : List Nat) (e : CE) : ex C (.set (.tup is) e) δ = kSetT1 C is (ev C e δ) := rfl
def kSetI4 (C : Cfg) (i : Nat) (d : D) (r : R Int) : R Fl := r.bind fun n δ => setIR i d n δ
@[simp] theorem kSetI4_ok (C : Cfg) (i : Nat) (d : D) (n : Int) (δ : Env) : kSetI4 C i d (.ok n δ) = setIR i d n δ := rfl
def kSetI3 (C : Cfg) (i : Nat) (d : D) (r : R Val) : R Fl := r.bind fun k δ => kSetI4 C i d (op1 intD k δ)
@[simp] theorem kSetI3_ok (C : Cfg) (i : Nat) (d : D) (k : Val) (δ : Env) : kSetI3 C i d (.ok k δ) = kSetI4 C i d (op1 intD k δ) := rfl
def kSetI2 (C : Cfg) (i : Nat) (e1 : CE) (r : R D) : R Fl := r.bind fun d δ => (match δ[i]? with
    | some (.ow (.lst _)) => kSetI3 C i d (ev C e1 δ)
    | _ => .no)
@[simp] theorem kSetI2_ok (C : Cfg) (i : Nat) (e1 : CE) (d : D) (δ : Env) : kSetI2 C i e1 (.ok d δ) = (match δ[i]? with
    | some (.ow (.lst _)) => kSetI3 C i d (ev C e1 δ)
    | _ => .no) := rfl
def kSetI1 (C : Cfg) (i : Nat) (e1 : CE) (r : R Val) : R Fl := r.bind fun v δ => kSetI2 C i e1 (dem C.kp v δ)
@[simp] theorem kSetI1_ok (C : Cfg) (i : Nat) (e1 : CE) (v : Val) (δ : Env) : kSetI1 C i e1 (.ok v δ) = kSetI2 C i e1 (dem C.kp v δ) := rfl
@[simp] theorem ex_setI (i : Nat) (e1 e2 : CE) : ex C (.setI i e1 e2) δ = kSetI1 C i e1 (ev C e2 δ) := rfl
def kExp (C : Cfg)  (r : R Val) : R Fl := r.bind fun v δ => .ok .nx δ
@[simp] theorem kExp_ok (C : Cfg)  (v : Val) (δ : Env) : kExp C  (.ok v δ) = .ok .nx δ := rfl
@[simp] theorem ex_exp (e : CE) : ex C (.exp e) δ = kExp C (ev C e δ) := rfl
def kRet (C : Cfg)  (r : R Val) : R Fl := r.bind fun v δ => retV C.kp v δ
@[simp] theorem kRet_ok (C : Cfg)  (v : Val) (δ : Env) : kRet C  (.ok v δ) = retV C.kp v δ := rfl
@[simp] theorem ex_ret (e : CE) : ex C (.ret e) δ = kRet C (ev C e δ) := rfl
@[simp] theorem ex_retN  : ex C .retN δ = .ok (.rt (.dat .none)) δ := rfl
def kCond (C : Cfg) (a b : CB) (r : R Bool) : R Fl := r.bind fun k δ1 => if k = true then exs C a δ1 else exs C b δ1
@[simp] theorem kCond_true (C : Cfg) (a b : CB) (δ : Env) : kCond C a b (.ok true δ) = exs C a δ := rfl
@[simp] theorem kCond_false (C : Cfg) (a b : CB) (δ : Env) : kCond C a b (.ok false δ) = exs C b δ := rfl
@[simp] theorem ex_cond (c : CT) (a b : CB) : ex C (.cond c a b) δ = kCond C a b (evT C c δ) := rfl
@[simp] theorem ex_wh (c : CT) (a : CB) : ex C (.wh c a) δ = whGo (evT C c) (exs C a) fuel δ := rfl
def kLoop (C : Cfg) (g : Tg) (a : CB) (r : R (List D)) : R Fl := r.bind fun ds δ => forGo C.kp g (exs C a) ds δ
@[simp] theorem kLoop_ok (C : Cfg) (g : Tg) (a : CB) (ds : (List D)) (δ : Env) : kLoop C g a (.ok ds δ) = forGo C.kp g (exs C a) ds δ := rfl
@[simp] theorem ex_loop (g : Tg) (it : CI) (a : CB) : ex C (.loop g it a) δ = kLoop C g a (evI C it δ) := rfl
@[simp] theorem ex_brk  : ex C .brk δ = .ok .bk δ := rfl
@[simp] theorem ex_cont  : ex C .cont δ = .ok .ct δ := rfl
@[simp] theorem exs_nil  : exs C .nil δ = .ok .nx δ := rfl
def kSeq (C : Cfg) (b : CB) (r : R Fl) : R Fl := r.bind fun f δ1 => match f with
    | .nx => exs C b δ1
    | f => .ok f δ1
@[simp] theorem kSeq_nx (C : Cfg) (b : CB) (δ : Env) : kSeq C b (.ok .nx δ) = exs C b δ := rfl
@[simp] theorem kSeq_rt (C : Cfg) (b : CB) (v : RV) (δ : Env) : kSeq C b (.ok (.rt v) δ) = .ok (.rt v) δ := rfl
@[simp] theorem kSeq_bk (C : Cfg) (b : CB) (δ : Env) : kSeq C b (.ok .bk δ) = .ok .bk δ := rfl
@[simp] theorem kSeq_ct (C : Cfg) (b : CB) (δ : Env) : kSeq C b (.ok .ct δ) = .ok .ct δ := rfl
@[simp] theorem exs_cons (s : CS) (b : CB) : exs C (.cons s b) δ = kSeq C b (ex C s δ) := rfl
@[simp] theorem backE_ow (o : Ow) (s : Slot) (a b : Env) : backE (.ow o :: a) (s :: b) = s :: backE a b := rfl
@[simp] theorem backE_im (o : D) (s : Slot) (a b : Env) : backE (.im o :: a) (s :: b) = .im o :: backE a b := rfl
@[simp] theorem backE_nil (b : Env) : backE [] b = [] := by cases b <;> rfl
/-- a def's answer from its body's -/
def outR (δ : Env) : R Fl → CR
  | .ok .nx δ' => .ret (.dat .none) (backE δ δ')
  | .ok (.rt v) δ' => .ret v (backE δ δ')
  | .ok _ _ => .no
  | .ex c fs δ' => .ex c fs (backE δ δ')
  | .no => .no
@[simp] theorem outR_nx (δ' : Env) : outR δ (.ok .nx δ') = .ret (.dat .none) (backE δ δ') := rfl
@[simp] theorem outR_ex (c : Nat) (fs : List (Str × D)) (δ' : Env) : outR δ (.ex c fs δ') = .ex c fs (backE δ δ') := rfl
@[simp] theorem outR_rt (v : RV) (δ' : Env) : outR δ (.ok (.rt v) δ') = .ret v (backE δ δ') := rfl
theorem tbl_succ {ds : List Def} {n f : Nat} {d : Def} (hd : ds[f]? = some d) (hl : δ.length = d.kp) : tbl ds (n + 1) f δ = outR δ (exs ⟨d.kp, tbl ds n⟩ d.body (δ ++ List.replicate (d.ns - d.kp) .un)) := by
  simp only [tbl, hd]
  unfold runDef
  rw [if_pos hl]
  cases exs ⟨d.kp, tbl ds n⟩ d.body (δ ++ List.replicate (d.ns - d.kp) .un) with
  | ok f δ' => cases f <;> rfl
  | ex _ _ _ => rfl
  | no => rfl

/-! ### version 2 -/
@[simp] theorem isaD_nil (d : D) : isaD [] d = false := rfl
@[simp] theorem isaD_cons (k : Kd) (ks : List Kd) (d : D) : isaD (k :: ks) d = (kitD d k || isaD ks d) := rfl
@[simp] theorem kit_int_none  : kitD (.none) .int = false := rfl
@[simp] theorem kit_int_bool (x : Bool) : kitD (.bool x) .int = true := rfl
@[simp] theorem kit_int_int (x : Int) : kitD (.int x) .int = true := rfl
@[simp] theorem kit_int_str (x : Str) : kitD (.str x) .int = false := rfl
@[simp] theorem kit_int_list (x : List D) : kitD (.list x) .int = false := rfl
@[simp] theorem kit_int_tuple (x : List D) : kitD (.tuple x) .int = false := rfl
@[simp] theorem kit_bool_none  : kitD (.none) .bool = false := rfl
@[simp] theorem kit_bool_bool (x : Bool) : kitD (.bool x) .bool = true := rfl
@[simp] theorem kit_bool_int (x : Int) : kitD (.int x) .bool = false := rfl
@[simp] theorem kit_bool_str (x : Str) : kitD (.str x) .bool = false := rfl
@[simp] theorem kit_bool_list (x : List D) : kitD (.list x) .bool = false := rfl
@[simp] theorem kit_bool_tuple (x : List D) : kitD (.tuple x) .bool = false := rfl
@[simp] theorem kit_str_none  : kitD (.none) .str = false := rfl
@[simp] theorem kit_str_bool (x : Bool) : kitD (.bool x) .str = false := rfl
@[simp] theorem kit_str_int (x : Int) : kitD (.int x) .str = false := rfl
@[simp] theorem kit_str_str (x : Str) : kitD (.str x) .str = true := rfl
@[simp] theorem kit_str_list (x : List D) : kitD (.list x) .str = false := rfl
@[simp] theorem kit_str_tuple (x : List D) : kitD (.tuple x) .str = false := rfl
@[simp] theorem kit_list_none  : kitD (.none) .list = false := rfl
@[simp] theorem kit_list_bool (x : Bool) : kitD (.bool x) .list = false := rfl
@[simp] theorem kit_list_int (x : Int) : kitD (.int x) .list = false := rfl
@[simp] theorem kit_list_str (x : Str) : kitD (.str x) .list = false := rfl
@[simp] theorem kit_list_list (x : List D) : kitD (.list x) .list = true := rfl
@[simp] theorem kit_list_tuple (x : List D) : kitD (.tuple x) .list = false := rfl
@[simp] theorem kit_tuple_none  : kitD (.none) .tuple = false := rfl
@[simp] theorem kit_tuple_bool (x : Bool) : kitD (.bool x) .tuple = false := rfl
@[simp] theorem kit_tuple_int (x : Int) : kitD (.int x) .tuple = false := rfl
@[simp] theorem kit_tuple_str (x : Str) : kitD (.str x) .tuple = false := rfl
@[simp] theorem kit_tuple_list (x : List D) : kitD (.list x) .tuple = false := rfl
@[simp] theorem kit_tuple_tuple (x : List D) : kitD (.tuple x) .tuple = true := rfl
def kIsa (C : Cfg) (ks : List Kd) (r : R Val) : R Val := r.bind fun x δ1 => op1 (fun d => some (.dat (.bool (isaD ks d)))) x δ1
@[simp] theorem kIsa_ok (C : Cfg) (ks : List Kd) (x : Val) (δ : Env) : kIsa C ks (.ok x δ) = op1 (fun d => some (.dat (.bool (isaD ks d)))) x δ := rfl
@[simp] theorem ev_isa (a : CE) (ks : List Kd) : ev C (.isa a ks) δ = kIsa C ks (ev C a δ) := rfl
@[simp] theorem ev_xf (i : Nat) (f : Str) : ev C (.xf i f) δ = (match δ[i]? with
    | some (.xc _ fs) => optR δ ((fs.lookup f).map .dat)
    | _ => .no) := rfl
@[simp] theorem lookup_self (f : Str) (d : D) : [(f, d)].lookup f = some d := by simp [List.lookup]
@[simp] theorem ev_xis (i : Nat) (n : Str) (cs ns : List Nat) : ev C (.xis i n cs ns) δ = (match δ[i]? with
    | some (.xc c _) => if c ∈ cs then .ok (.dat (.bool true)) δ else if c ∈ ns then .ok (.dat (.bool false)) δ else .no
    | _ => .no) := rfl
@[simp] theorem ev_dnew : ev C .dnew δ = .ok (.new (.dct [])) δ := rfl
def kDget (C : Cfg) (i : Nat) (r : R Val) : R Val := r.bind fun v δ1 => getDR i v δ1
@[simp] theorem kDget_ok (C : Cfg) (i : Nat) (v : Val) (δ : Env) : kDget C i (.ok v δ) = getDR i v δ := rfl
@[simp] theorem ev_dget (i : Nat) (k : CE) : ev C (.dget i k) δ = (match δ[i]? with
    | some (.ow (.dct _)) => kDget C i (ev C k δ)
    | _ => .no) := rfl
def kDhas (C : Cfg) (i : Nat) (r : R Val) : R Val := r.bind fun v δ1 => hasDR i v δ1
@[simp] theorem kDhas_ok (C : Cfg) (i : Nat) (v : Val) (δ : Env) : kDhas C i (.ok v δ) = hasDR i v δ := rfl
@[simp] theorem ev_dhas (i : Nat) (k : CE) : ev C (.dhas i k) δ = kDhas C i (ev C k δ) := rfl
@[simp] theorem dctAt_eq (i : Nat) : dctAt δ i = (match δ[i]? with
  | some (.ow (.dct kvs)) => some kvs
  | _ => none) := rfl
@[simp] theorem getDR_eq (i : Nat) (v : Val) : getDR i v δ = op1 (fun d => (dctAt δ i).bind fun kvs => (keyD d).bind fun k => (atD kvs k).map .dat) v δ := rfl
@[simp] theorem hasDR_eq (i : Nat) (v : Val) : hasDR i v δ = op1 (fun d => (dctAt δ i).bind fun kvs => (keyD d).map fun k => .dat (.bool (atD kvs k).isSome)) v δ := rfl
@[simp] theorem keyD_str (s : Str) : keyD (.str s) = some (.inr s) := rfl
def kTm (C : Cfg) (m : Tm) (r : R Val) : R Val := r.bind fun x δ1 => op1 (tmop m) x δ1
@[simp] theorem kTm_ok (C : Cfg) (m : Tm) (x : Val) (δ : Env) : kTm C m (.ok x δ) = op1 (tmop m) x δ := rfl
@[simp] theorem ev_tm (m : Tm) (a : CE) : ev C (.tm m a) δ = kTm C m (ev C a δ) := rfl
def kTmb (C : Cfg) (m : Tm1) (s : Str) (r : R Val) : R Val := r.bind fun y δ2 => op1 (tm1op s m) y δ2
@[simp] theorem kTmb_ok (C : Cfg) (m : Tm1) (s : Str) (y : Val) (δ : Env) : kTmb C m s (.ok y δ) = op1 (tm1op s m) y δ := rfl
def kTma (C : Cfg) (m : Tm1) (b : CE) (r : R Val) : R Val := r.bind fun x δ1 => match x with
    | .dat (.str s) => kTmb C m s (ev C b δ1)
    | _ => .no
@[simp] theorem kTma_ok (C : Cfg) (m : Tm1) (b : CE) (s : Str) (δ : Env) : kTma C m b (.ok (.dat (.str s)) δ) = kTmb C m s (ev C b δ) := rfl
@[simp] theorem ev_tm1 (m : Tm1) (a b : CE) : ev C (.tm1 m a b) δ = kTma C m b (ev C a δ) := rfl
/-! f-strings -/
def kF2 (C : Cfg) (es : CEs) (acc : Str) (r : R D) : R Str := r.bind fun d δ2 => match fmtD d with
    | some s => if (acc ++ s).length ≤ sizeLine then evF C es (acc ++ s) δ2 else .no
    | none => .no
theorem kF2_ok (C : Cfg) (es : CEs) (acc : Str) (d : D) (δ : Env) : kF2 C es acc (.ok d δ) = (match fmtD d with
    | some s => if (acc ++ s).length ≤ sizeLine then evF C es (acc ++ s) δ else .no
    | none => .no) := rfl
def kF1 (C : Cfg) (es : CEs) (acc : Str) (r : R Val) : R Str := r.bind fun v δ1 => kF2 C es acc (dem C.kp v δ1)
@[simp] theorem kF1_ok (C : Cfg) (es : CEs) (acc : Str) (v : Val) (δ : Env) : kF1 C es acc (.ok v δ) = kF2 C es acc (dem C.kp v δ) := rfl
@[simp] theorem evF_nil (acc : Str) : evF C .nil acc δ = .ok acc δ := rfl
@[simp] theorem evF_cons (e : CE) (es : CEs) (acc : Str) : evF C (.cons e es) acc δ = kF1 C es acc (ev C e δ) := rfl
def kFst (r : R Str) : R Val := r.bind fun s δ => .ok (.dat (.str s)) δ
@[simp] theorem kFst_ok (s : Str) (δ : Env) : kFst (.ok s δ) = .ok (.dat (.str s)) δ := rfl
@[simp] theorem ev_fst (es : CEs) : ev C (.fst es) δ = kFst (evF C es Str.empty δ) := rfl
def kDs3 (C : Cfg) (i : Nat) (d : D) (r : R Val) : R Fl := r.bind fun u δ3 => setDR i d u δ3
@[simp] theorem kDs3_ok (C : Cfg) (i : Nat) (d : D) (u : Val) (δ : Env) : kDs3 C i d (.ok u δ) = setDR i d u δ := rfl
def kDs2 (C : Cfg) (i : Nat) (k : CE) (r : R D) : R Fl := r.bind fun d δ => (match δ[i]? with
    | some (.ow (.dct _)) => kDs3 C i d (ev C k δ)
    | _ => .no)
@[simp] theorem kDs2_ok (C : Cfg) (i : Nat) (k : CE) (d : D) (δ : Env) : kDs2 C i k (.ok d δ) = (match δ[i]? with
    | some (.ow (.dct _)) => kDs3 C i d (ev C k δ)
    | _ => .no) := rfl
def kDs1 (C : Cfg) (i : Nat) (k : CE) (r : R Val) : R Fl := r.bind fun v δ => kDs2 C i k (dem C.kp v δ)
@[simp] theorem kDs1_ok (C : Cfg) (i : Nat) (k : CE) (v : Val) (δ : Env) : kDs1 C i k (.ok v δ) = kDs2 C i k (dem C.kp v δ) := rfl
@[simp] theorem ex_dset (i : Nat) (k e : CE) : ex C (.dset i k e) δ = kDs1 C i k (ev C e δ) := rfl
def kDs4 (i : Nat) (d : D) (kvs : List (L2.Key × D)) (r : R L2.Key) : R Fl := r.bind fun k δ1 => if kvs.length < sizeLine then .ok .nx (δ1.set i (.ow (.dct (putD kvs k d)))) else .no
@[simp] theorem kDs4_ok (i : Nat) (d : D) (kvs : List (L2.Key × D)) (k : L2.Key) (δ : Env) : kDs4 i d kvs (.ok k δ) = if kvs.length < sizeLine then .ok .nx (δ.set i (.ow (.dct (putD kvs k d)))) else .no := rfl
@[simp] theorem setDR_eq (i : Nat) (d : D) (v : Val) : setDR i d v δ = (match δ[i]? with
  | some (.ow (.dct kvs)) => kDs4 i d kvs (op1 keyD v δ)
  | _ => .no) := rfl
def kRz2 (c : Nat) (f : Str) (r : R D) : R Fl := r.bind fun d δ2 => .ex c [(f, d)] δ2
@[simp] theorem kRz2_ok (c : Nat) (f : Str) (d : D) (δ : Env) : kRz2 c f (.ok d δ) = .ex c [(f, d)] δ := rfl
def kRz1 (C : Cfg) (c : Nat) (f : Str) (r : R Val) : R Fl := r.bind fun v δ1 => kRz2 c f (dem C.kp v δ1)
@[simp] theorem kRz1_ok (C : Cfg) (c : Nat) (f : Str) (v : Val) (δ : Env) : kRz1 C c f (.ok v δ) = kRz2 c f (dem C.kp v δ) := rfl
@[simp] theorem ex_raise (c : Nat) (f : Str) (e : CE) : ex C (.raise c f e) δ = kRz1 C c f (ev C e δ) := rfl
@[simp] theorem ex_tryx (b : CB) (n : Str) (cs ns : List Nat) (i : Nat) (h : CB) : ex C (.tryx b n cs ns i h) δ = caught cs ns i C.kp (exs C h) (exs C b δ) := rfl
@[simp] theorem caught_ok (cs ns : List Nat) (i kp : Nat) (h : Env → R Fl) (f : Fl) : caught cs ns i kp h (.ok f δ) = .ok f δ := rfl
@[simp] theorem caught_ex (cs ns : List Nat) (i kp : Nat) (h : Env → R Fl) (c : Nat) (fs : List (Str × D)) : caught cs ns i kp h (.ex c fs δ) = if c ∈ cs then (if kp ≤ i then gone i (h (δ.set i (.xc c fs))) else .no) else if c ∈ ns then .ex c fs δ else .no := rfl
@[simp] theorem gone_rt (i : Nat) (v : RV) : gone i (.ok (.rt v) δ) = .ok (.rt v) (δ.map noX) := rfl
@[simp] theorem gone_nx (i : Nat) : gone i (.ok .nx δ) = .ok .nx ((δ.map noX).set i .un) := rfl
@[simp] theorem gone_ct (i : Nat) : gone i (.ok .ct δ) = .ok .ct ((δ.map noX).set i .un) := rfl
@[simp] theorem gone_bk (i : Nat) : gone i (.ok .bk δ) = .ok .bk ((δ.map noX).set i .un) := rfl
@[simp] theorem itemsD_str (s : Str) : itemsD (.str s) = some (s.cps.toList.map fun c => .str ⟨#[c]⟩) := rfl
/-! ### an exception goes through -/
@[simp] theorem kFz2_ex (C : Cfg) (c' : Nat) (fs' : List (Str × D)) (δ : Env) : kFz2 C (.ex c' fs' δ) = .ex c' fs' δ := rfl
@[simp] theorem kFz1_ex (C : Cfg) (c' : Nat) (fs' : List (Str × D)) (δ : Env) : kFz1 C (.ex c' fs' δ) = .ex c' fs' δ := rfl
@[simp] theorem kBin2_ex (C : Cfg) (o : Bop) (x : Val) (c' : Nat) (fs' : List (Str × D)) (δ : Env) : kBin2 C o x (.ex c' fs' δ) = .ex c' fs' δ := rfl
@[simp] theorem kBin1_ex (C : Cfg) (o : Bop) (b : CE) (c' : Nat) (fs' : List (Str × D)) (δ : Env) : kBin1 C o b (.ex c' fs' δ) = .ex c' fs' δ := rfl
@[simp] theorem kNeg_ex (C : Cfg) (c' : Nat) (fs' : List (Str × D)) (δ : Env) : kNeg C (.ex c' fs' δ) = .ex c' fs' δ := rfl
@[simp] theorem kCmp2_ex (C : Cfg) (o : Cop) (x : Val) (c' : Nat) (fs' : List (Str × D)) (δ : Env) : kCmp2 C o x (.ex c' fs' δ) = .ex c' fs' δ := rfl
@[simp] theorem kCmp1_ex (C : Cfg) (o : Cop) (b : CE) (c' : Nat) (fs' : List (Str × D)) (δ : Env) : kCmp1 C o b (.ex c' fs' δ) = .ex c' fs' δ := rfl
@[simp] theorem kIsN_ex (C : Cfg) (c' : Nat) (fs' : List (Str × D)) (δ : Env) : kIsN C (.ex c' fs' δ) = .ex c' fs' δ := rfl
@[simp] theorem kNotN_ex (C : Cfg) (c' : Nat) (fs' : List (Str × D)) (δ : Env) : kNotN C (.ex c' fs' δ) = .ex c' fs' δ := rfl
@[simp] theorem kNot_ex  (c' : Nat) (fs' : List (Str × D)) (δ : Env) : kNot  (.ex c' fs' δ) = .ex c' fs' δ := rfl
@[simp] theorem kAnd_ex (C : Cfg) (b : CE) (c' : Nat) (fs' : List (Str × D)) (δ : Env) : kAnd C b (.ex c' fs' δ) = .ex c' fs' δ := rfl
@[simp] theorem kOr_ex (C : Cfg) (b : CE) (c' : Nat) (fs' : List (Str × D)) (δ : Env) : kOr C b (.ex c' fs' δ) = .ex c' fs' δ := rfl
@[simp] theorem kIte_ex (C : Cfg) (a b : CE) (c' : Nat) (fs' : List (Str × D)) (δ : Env) : kIte C a b (.ex c' fs' δ) = .ex c' fs' δ := rfl
@[simp] theorem kTup_ex (C : Cfg) (c' : Nat) (fs' : List (Str × D)) (δ : Env) : kTup C (.ex c' fs' δ) = .ex c' fs' δ := rfl
@[simp] theorem kLst_ex (C : Cfg) (c' : Nat) (fs' : List (Str × D)) (δ : Env) : kLst C (.ex c' fs' δ) = .ex c' fs' δ := rfl
@[simp] theorem kIdx2_ex (C : Cfg) (x : Val) (c' : Nat) (fs' : List (Str × D)) (δ : Env) : kIdx2 C x (.ex c' fs' δ) = .ex c' fs' δ := rfl
@[simp] theorem kIdx1_ex (C : Cfg) (b : CE) (c' : Nat) (fs' : List (Str × D)) (δ : Env) : kIdx1 C b (.ex c' fs' δ) = .ex c' fs' δ := rfl
@[simp] theorem kSli3_ex (C : Cfg) (x : Val) (l : Option Int) (c' : Nat) (fs' : List (Str × D)) (δ : Env) : kSli3 C x l (.ex c' fs' δ) = .ex c' fs' δ := rfl
@[simp] theorem kSli2_ex (C : Cfg) (x : Val) (hi : CO) (c' : Nat) (fs' : List (Str × D)) (δ : Env) : kSli2 C x hi (.ex c' fs' δ) = .ex c' fs' δ := rfl
@[simp] theorem kSli1_ex (C : Cfg) (lo : CO) (hi : CO) (c' : Nat) (fs' : List (Str × D)) (δ : Env) : kSli1 C lo hi (.ex c' fs' δ) = .ex c' fs' δ := rfl
@[simp] theorem kRev_ex (C : Cfg) (c' : Nat) (fs' : List (Str × D)) (δ : Env) : kRev C (.ex c' fs' δ) = .ex c' fs' δ := rfl
@[simp] theorem kCall_ex (C : Cfg) (f : Nat) (c' : Nat) (fs' : List (Str × D)) (δ : Env) : kCall C f (.ex c' fs' δ) = .ex c' fs' δ := rfl
@[simp] theorem kBi_ex (C : Cfg) (f : Fn) (c' : Nat) (fs' : List (Str × D)) (δ : Env) : kBi C f (.ex c' fs' δ) = .ex c' fs' δ := rfl
@[simp] theorem kMt_ex (C : Cfg) (m : Mt) (i : Nat) (c' : Nat) (fs' : List (Str × D)) (δ : Env) : kMt C m i (.ex c' fs' δ) = .ex c' fs' δ := rfl
@[simp] theorem kExt_ex (C : Cfg) (i : Nat) (c' : Nat) (fs' : List (Str × D)) (δ : Env) : kExt C i (.ex c' fs' δ) = .ex c' fs' δ := rfl
@[simp] theorem kLcE_ex (C : Cfg) (vs : List Nat) (c' : Nat) (fs' : List (Str × D)) (δ : Env) : kLcE C vs (.ex c' fs' δ) = .ex c' fs' δ := rfl
@[simp] theorem kDm_ex (kp : Nat) (c' : Nat) (fs' : List (Str × D)) (δ : Env) : kDm kp (.ex c' fs' δ) = .ex c' fs' δ := rfl
@[simp] theorem kLc_ex (C : Cfg) (e : CE) (g : Tg) (vs : List Nat) (c' : Nat) (fs' : List (Str × D)) (δ : Env) : kLc C e g vs (.ex c' fs' δ) = .ex c' fs' δ := rfl
@[simp] theorem kLcIf_ex (C : Cfg) (e : CE) (g : Tg) (c : CT) (vs : List Nat) (c' : Nat) (fs' : List (Str × D)) (δ : Env) : kLcIf C e g c vs (.ex c' fs' δ) = .ex c' fs' δ := rfl
@[simp] theorem kTr_ex (C : Cfg) (c' : Nat) (fs' : List (Str × D)) (δ : Env) : kTr C (.ex c' fs' δ) = .ex c' fs' δ := rfl
@[simp] theorem kTCmp2_ex (C : Cfg) (o : Cop) (x : Val) (c' : Nat) (fs' : List (Str × D)) (δ : Env) : kTCmp2 C o x (.ex c' fs' δ) = .ex c' fs' δ := rfl
@[simp] theorem kTCmp1_ex (C : Cfg) (o : Cop) (b : CE) (c' : Nat) (fs' : List (Str × D)) (δ : Env) : kTCmp1 C o b (.ex c' fs' δ) = .ex c' fs' δ := rfl
@[simp] theorem kTIsN_ex (C : Cfg) (c' : Nat) (fs' : List (Str × D)) (δ : Env) : kTIsN C (.ex c' fs' δ) = .ex c' fs' δ := rfl
@[simp] theorem kTNotN_ex (C : Cfg) (c' : Nat) (fs' : List (Str × D)) (δ : Env) : kTNotN C (.ex c' fs' δ) = .ex c' fs' δ := rfl
@[simp] theorem kTNot_ex (C : Cfg) (c' : Nat) (fs' : List (Str × D)) (δ : Env) : kTNot C (.ex c' fs' δ) = .ex c' fs' δ := rfl
@[simp] theorem kTAnd_ex (C : Cfg) (b : CT) (c' : Nat) (fs' : List (Str × D)) (δ : Env) : kTAnd C b (.ex c' fs' δ) = .ex c' fs' δ := rfl
@[simp] theorem kTOr_ex (C : Cfg) (b : CT) (c' : Nat) (fs' : List (Str × D)) (δ : Env) : kTOr C b (.ex c' fs' δ) = .ex c' fs' δ := rfl
@[simp] theorem kD3_ex (C : Cfg) (d : D) (c' : Nat) (fs' : List (Str × D)) (δ : Env) : kD3 C d (.ex c' fs' δ) = .ex c' fs' δ := rfl
@[simp] theorem kD2_ex (C : Cfg) (es : CEs) (c' : Nat) (fs' : List (Str × D)) (δ : Env) : kD2 C es (.ex c' fs' δ) = .ex c' fs' δ := rfl
@[simp] theorem kD1_ex (C : Cfg) (es : CEs) (c' : Nat) (fs' : List (Str × D)) (δ : Env) : kD1 C es (.ex c' fs' δ) = .ex c' fs' δ := rfl
@[simp] theorem kA2_ex (C : Cfg) (v : Val) (c' : Nat) (fs' : List (Str × D)) (δ : Env) : kA2 C v (.ex c' fs' δ) = .ex c' fs' δ := rfl
@[simp] theorem kA1_ex (C : Cfg) (es : CEs) (c' : Nat) (fs' : List (Str × D)) (δ : Env) : kA1 C es (.ex c' fs' δ) = .ex c' fs' δ := rfl
@[simp] theorem kO_ex (C : Cfg) (c' : Nat) (fs' : List (Str × D)) (δ : Env) : kO C (.ex c' fs' δ) = .ex c' fs' δ := rfl
@[simp] theorem kI2_ex (C : Cfg) (c' : Nat) (fs' : List (Str × D)) (δ : Env) : kI2 C (.ex c' fs' δ) = .ex c' fs' δ := rfl
@[simp] theorem kI1_ex (C : Cfg) (c' : Nat) (fs' : List (Str × D)) (δ : Env) : kI1 C (.ex c' fs' δ) = .ex c' fs' δ := rfl
@[simp] theorem kR1_ex (C : Cfg) (c' : Nat) (fs' : List (Str × D)) (δ : Env) : kR1 C (.ex c' fs' δ) = .ex c' fs' δ := rfl
@[simp] theorem kR3_ex (C : Cfg) (v : Val) (c' : Nat) (fs' : List (Str × D)) (δ : Env) : kR3 C v (.ex c' fs' δ) = .ex c' fs' δ := rfl
@[simp] theorem kR2_ex (C : Cfg) (b : CE) (c' : Nat) (fs' : List (Str × D)) (δ : Env) : kR2 C b (.ex c' fs' δ) = .ex c' fs' δ := rfl
@[simp] theorem kSet_ex (C : Cfg) (i : Nat) (c' : Nat) (fs' : List (Str × D)) (δ : Env) : kSet C i (.ex c' fs' δ) = .ex c' fs' δ := rfl
@[simp] theorem kSetT3_ex  (c' : Nat) (fs' : List (Str × D)) (δ : Env) : kSetT3  (.ex c' fs' δ) = .ex c' fs' δ := rfl
@[simp] theorem kSetT2_ex (C : Cfg) (is : List Nat) (c' : Nat) (fs' : List (Str × D)) (δ : Env) : kSetT2 C is (.ex c' fs' δ) = .ex c' fs' δ := rfl
@[simp] theorem kSetT1_ex (C : Cfg) (is : List Nat) (c' : Nat) (fs' : List (Str × D)) (δ : Env) : kSetT1 C is (.ex c' fs' δ) = .ex c' fs' δ := rfl
@[simp] theorem kSetI4_ex (C : Cfg) (i : Nat) (d : D) (c' : Nat) (fs' : List (Str × D)) (δ : Env) : kSetI4 C i d (.ex c' fs' δ) = .ex c' fs' δ := rfl
@[simp] theorem kSetI3_ex (C : Cfg) (i : Nat) (d : D) (c' : Nat) (fs' : List (Str × D)) (δ : Env) : kSetI3 C i d (.ex c' fs' δ) = .ex c' fs' δ := rfl
@[simp] theorem kSetI2_ex (C : Cfg) (i : Nat) (e1 : CE) (c' : Nat) (fs' : List (Str × D)) (δ : Env) : kSetI2 C i e1 (.ex c' fs' δ) = .ex c' fs' δ := rfl
@[simp] theorem kSetI1_ex (C : Cfg) (i : Nat) (e1 : CE) (c' : Nat) (fs' : List (Str × D)) (δ : Env) : kSetI1 C i e1 (.ex c' fs' δ) = .ex c' fs' δ := rfl
@[simp] theorem kExp_ex (C : Cfg) (c' : Nat) (fs' : List (Str × D)) (δ : Env) : kExp C (.ex c' fs' δ) = .ex c' fs' δ := rfl
@[simp] theorem kRet_ex (C : Cfg) (c' : Nat) (fs' : List (Str × D)) (δ : Env) : kRet C (.ex c' fs' δ) = .ex c' fs' δ := rfl
@[simp] theorem kCond_ex (C : Cfg) (a b : CB) (c' : Nat) (fs' : List (Str × D)) (δ : Env) : kCond C a b (.ex c' fs' δ) = .ex c' fs' δ := rfl
@[simp] theorem kLoop_ex (C : Cfg) (g : Tg) (a : CB) (c' : Nat) (fs' : List (Str × D)) (δ : Env) : kLoop C g a (.ex c' fs' δ) = .ex c' fs' δ := rfl
@[simp] theorem kSeq_ex (C : Cfg) (b : CB) (c' : Nat) (fs' : List (Str × D)) (δ : Env) : kSeq C b (.ex c' fs' δ) = .ex c' fs' δ := rfl
@[simp] theorem kIsa_ex (C : Cfg) (ks : List Kd) (c' : Nat) (fs' : List (Str × D)) (δ : Env) : kIsa C ks (.ex c' fs' δ) = .ex c' fs' δ := rfl
@[simp] theorem kDget_ex (C : Cfg) (i : Nat) (c' : Nat) (fs' : List (Str × D)) (δ : Env) : kDget C i (.ex c' fs' δ) = .ex c' fs' δ := rfl
@[simp] theorem kDhas_ex (C : Cfg) (i : Nat) (c' : Nat) (fs' : List (Str × D)) (δ : Env) : kDhas C i (.ex c' fs' δ) = .ex c' fs' δ := rfl
@[simp] theorem kTm_ex (C : Cfg) (m : Tm) (c' : Nat) (fs' : List (Str × D)) (δ : Env) : kTm C m (.ex c' fs' δ) = .ex c' fs' δ := rfl
@[simp] theorem kTmb_ex (C : Cfg) (m : Tm1) (s : Str) (c' : Nat) (fs' : List (Str × D)) (δ : Env) : kTmb C m s (.ex c' fs' δ) = .ex c' fs' δ := rfl
@[simp] theorem kTma_ex (C : Cfg) (m : Tm1) (b : CE) (c' : Nat) (fs' : List (Str × D)) (δ : Env) : kTma C m b (.ex c' fs' δ) = .ex c' fs' δ := rfl
@[simp] theorem kF2_ex (C : Cfg) (es : CEs) (acc : Str) (c' : Nat) (fs' : List (Str × D)) (δ : Env) : kF2 C es acc (.ex c' fs' δ) = .ex c' fs' δ := rfl
@[simp] theorem kF1_ex (C : Cfg) (es : CEs) (acc : Str) (c' : Nat) (fs' : List (Str × D)) (δ : Env) : kF1 C es acc (.ex c' fs' δ) = .ex c' fs' δ := rfl
@[simp] theorem kFst_ex (c' : Nat) (fs' : List (Str × D)) (δ : Env) : kFst (.ex c' fs' δ) = .ex c' fs' δ := rfl
@[simp] theorem kDs3_ex (C : Cfg) (i : Nat) (d : D) (c' : Nat) (fs' : List (Str × D)) (δ : Env) : kDs3 C i d (.ex c' fs' δ) = .ex c' fs' δ := rfl
@[simp] theorem kDs2_ex (C : Cfg) (i : Nat) (k : CE) (c' : Nat) (fs' : List (Str × D)) (δ : Env) : kDs2 C i k (.ex c' fs' δ) = .ex c' fs' δ := rfl
@[simp] theorem kDs1_ex (C : Cfg) (i : Nat) (k : CE) (c' : Nat) (fs' : List (Str × D)) (δ : Env) : kDs1 C i k (.ex c' fs' δ) = .ex c' fs' δ := rfl
@[simp] theorem kDs4_ex (i : Nat) (d : D) (kvs : List (L2.Key × D)) (c' : Nat) (fs' : List (Str × D)) (δ : Env) : kDs4 i d kvs (.ex c' fs' δ) = .ex c' fs' δ := rfl
@[simp] theorem kRz2_ex (c : Nat) (f : Str) (c' : Nat) (fs' : List (Str × D)) (δ : Env) : kRz2 c f (.ex c' fs' δ) = .ex c' fs' δ := rfl
@[simp] theorem kRz1_ex (C : Cfg) (c : Nat) (f : Str) (c' : Nat) (fs' : List (Str × D)) (δ : Env) : kRz1 C c f (.ex c' fs' δ) = .ex c' fs' δ := rfl
end
end IL
end
section
set_option Elab.async false
set_option linter.all false
set_option autoImplicit false
set_option maxHeartbeats 1000000
/-! J0L: loops and comprehensions of the small language; rows of ints; keys. -/
namespace IL
open PySem
@[simp] theorem wipeE_nil (δ : Env) : wipeE δ [] = δ := rfl
@[simp] theorem wipeE_cons (δ : Env) (v : Nat) (vs : List Nat) : wipeE δ (v :: vs) = (wipeE δ vs).set v .un := rfl
theorem size_val : sizeLine = 16777216 := Eq.trans rfl (Eq.refl 16777216)
/-- two rows, item by item -/
inductive All2 {α β : Type} (P : α → β → Prop) : List α → List β → Prop where
  | nil : All2 P [] []
  | cons {a : α} {b : β} {as : List α} {bs : List β} (h : P a b) (t : All2 P as bs) : All2 P (a :: as) (b :: bs)
theorem All2.length {α β : Type} {P : α → β → Prop} {as : List α} {bs : List β} (h : All2 P as bs) : bs.length = as.length := by
  induction h with
  | nil => rfl
  | cons h t ih => simp [ih]
theorem All2.right {α β : Type} {P : α → β → Prop} {as : List α} {bs : List β} (h : All2 P as bs) : ∀ b ∈ bs, ∃ a ∈ as, P a b := by
  induction h with
  | nil => simp
  | cons h t ih =>
    intro b hb
    cases List.mem_cons.mp hb with
    | inl e => exact ⟨_, List.mem_cons_self, e ▸ h⟩
    | inr m => exact (ih b m).elim fun a q => ⟨a, List.mem_cons_of_mem _ q.1, q.2⟩
theorem All2.snd {α β : Type} {f : β → α} {as : List α} {bs : List β} (h : All2 (fun a b => f b = a) as bs) : bs.map f = as := by
  induction h with
  | nil => rfl
  | cons h t ih => simp [ih, h]
section
variable {kp : Nat} {g : Tg}
/-! ### comprehensions -/
def kLs2 (vs : List Nat) (r : R D) : R (List D) := r.bind fun y δ => .ok [y] (wipeE δ vs)
@[simp] theorem kLs2_ok (vs : List Nat) (y : D) (δ : Env) : kLs2 vs (.ok y δ) = .ok [y] (wipeE δ vs) := rfl
def kLs1 (e : Env → R D) (vs : List Nat) (r : R Bool) : R (List D) := r.bind fun b δ => if b = true then kLs2 vs (e δ) else .ok [] (wipeE δ vs)
@[simp] theorem kLs1_true (e : Env → R D) (vs : List Nat) (δ : Env) : kLs1 e vs (.ok true δ) = kLs2 vs (e δ) := rfl
@[simp] theorem kLs1_false (e : Env → R D) (vs : List Nat) (δ : Env) : kLs1 e vs (.ok false δ) = .ok [] (wipeE δ vs) := rfl
/-- one turn of a comprehension -/
def lcStep (kp : Nat) (g : Tg) (c : Env → R Bool) (e : Env → R D) (vs : List Nat) (d : D) (δ : Env) : R (List D) := match bindT kp g d δ with
  | none => .no
  | some δ1 => kLs1 e vs (c δ1)
@[simp] theorem lcStep_name (i : Nat) (c : Env → R Bool) (e : Env → R D) (vs : List Nat) (d : D) (δ : Env) : lcStep kp (.name i) c e vs d δ = if freeB kp δ i = true then kLs1 e vs (c (δ.set i (.im d))) else .no := by
  unfold lcStep
  rw [bindT_name]
  by_cases h : freeB kp δ i = true
  · rw [if_pos h, if_pos h]
  · rw [if_neg h, if_neg h]
variable {c : Env → R Bool} {e : Env → R D} {vs : List Nat}
theorem lcGo_one (d : D) (ds acc : List D) (δ δ' : Env) (y : D) (h : lcStep kp g c e vs d δ = .ok [y] δ') (hs : acc.length < sizeLine) : lcGo kp g c e vs (d :: ds) acc δ = lcGo kp g c e vs ds (acc ++ [y]) δ' := by
  unfold lcStep at h
  rw [lcGo]
  cases hb : bindT kp g d δ with
  | none =>
    rw [hb] at h
    cases h
  | some δ1 =>
    rw [hb] at h
    simp only at h ⊢
    cases hc : c δ1 with
    | no => rw [hc] at h; cases h
    | ex _ _ _ => rw [hc] at h; cases h
    | ok b δ2 =>
      rw [hc] at h
      rw [calm_ok, bind_ok]
      cases b with
      | false => simp at h
      | true =>
        rw [kLs1_true] at h
        rw [if_pos rfl]
        cases he : e δ2 with
        | no => rw [he] at h; cases h
        | ex _ _ _ => rw [he] at h; cases h
        | ok y' δ3 =>
          rw [he, kLs2_ok] at h
          injection h with h1 h2
          injection h1 with h1
          rw [calm_ok, bind_ok, if_pos hs, h1, h2]
theorem lcGo_none (d : D) (ds acc : List D) (δ δ' : Env) (h : lcStep kp g c e vs d δ = .ok [] δ') : lcGo kp g c e vs (d :: ds) acc δ = lcGo kp g c e vs ds acc δ' := by
  unfold lcStep at h
  rw [lcGo]
  cases hb : bindT kp g d δ with
  | none =>
    rw [hb] at h
    cases h
  | some δ1 =>
    rw [hb] at h
    simp only at h ⊢
    cases hc : c δ1 with
    | no => rw [hc] at h; cases h
    | ex _ _ _ => rw [hc] at h; cases h
    | ok b δ2 =>
      rw [hc] at h
      rw [calm_ok, bind_ok]
      cases b with
      | false =>
        rw [kLs1_false] at h
        injection h with h1 h2
        rw [if_neg (by decide), h2]
      | true =>
        rw [kLs1_true] at h
        cases he : e δ2 with
        | no => rw [he] at h; cases h
        | ex _ _ _ => rw [he] at h; cases h
        | ok y' δ3 =>
          rw [he, kLs2_ok] at h
          injection h with h1 h2
          cases h1
theorem lcGo_filter {α : Type} (H F : α → D) (p : α → Bool) (δ : Env) : ∀ (as : List α) (acc : List D), (∀ a ∈ as, lcStep kp g c e vs (H a) δ = .ok (if p a = true then [F a] else []) δ) → acc.length + as.length ≤ sizeLine →
    lcGo kp g c e vs (as.map H) acc δ = .ok (acc ++ (as.filter p).map F) δ
  | [], acc, _, _ => by simp [lcGo]
  | a :: as, acc, h, hs => by
    have ha := h a List.mem_cons_self
    rw [List.length_cons] at hs
    rw [List.map_cons]
    by_cases hp : p a = true
    · rw [if_pos hp] at ha
      rw [lcGo_one _ _ _ _ _ _ ha (by omega), lcGo_filter H F p δ as _ (fun b hb => h b (List.mem_cons_of_mem _ hb)) (by rw [List.length_append]; simp; omega), List.filter_cons_of_pos hp]
      simp
    · rw [if_neg hp] at ha
      rw [lcGo_none _ _ _ _ _ ha, lcGo_filter H F p δ as _ (fun b hb => h b (List.mem_cons_of_mem _ hb)) (by omega), List.filter_cons_of_neg hp]
theorem lcGo_map {α : Type} (H F : α → D) (δ : Env) (as : List α) (acc : List D) (h : ∀ a ∈ as, lcStep kp g c e vs (H a) δ = .ok [F a] δ) (hs : acc.length + as.length ≤ sizeLine) :
    lcGo kp g c e vs (as.map H) acc δ = .ok (acc ++ as.map F) δ := by
  rw [lcGo_filter H F (fun _ => true) δ as acc (fun a ha => by rw [h a ha]; rfl) hs, List.filter_eq_self.mpr (fun _ _ => rfl)]
theorem lcGo_rel {α β σ : Type} (H : α → D) (F : β → D) (E : σ → Env) (P : α → β → Prop) : ∀ (as : List α) (acc : List D) (s : σ), (∀ a ∈ as, ∀ s, ∃ b s', lcStep kp g c e vs (H a) (E s) = .ok [F b] (E s') ∧ P a b) → acc.length + as.length ≤ sizeLine →
    ∃ bs s', lcGo kp g c e vs (as.map H) acc (E s) = .ok (acc ++ bs.map F) (E s') ∧ All2 P as bs
  | [], acc, s, _, _ => ⟨[], s, by simp [lcGo], .nil⟩
  | a :: as, acc, s, h, hs => by
    obtain ⟨b, s1, h1, p1⟩ := h a List.mem_cons_self s
    rw [List.length_cons] at hs
    obtain ⟨bs, s2, h2, p2⟩ := lcGo_rel H F E P as (acc ++ [F b]) s1 (fun b hb => h b (List.mem_cons_of_mem _ hb)) (by rw [List.length_append]; simp; omega)
    refine ⟨b :: bs, s2, ?_, .cons p1 p2⟩
    rw [List.map_cons, lcGo_one _ _ _ _ _ _ h1 (by omega), h2]
    simp
theorem lcGo_ints (F : Int → Int) (δ : Env) (ns : List Int) (h : ∀ a ∈ ns, lcStep kp g c e vs (.int a) δ = .ok [.int (F a)] δ) (hs : ns.length ≤ 16777216) :
    lcGo kp g c e vs (intsD ns) [] δ = .ok (intsD (ns.map F)) δ := by
  have := lcGo_map PyData.int (fun a => .int (F a)) δ ns [] h (by show 0 + _ ≤ 16777216; omega)
  refine this.trans ?_
  simp [intsD, List.map_map]
theorem lcGo_bools {α : Type} (H : α → D) (F : α → Bool) (δ : Env) (ns : List α) (h : ∀ a ∈ ns, lcStep kp g c e vs (H a) δ = .ok [.bool (F a)] δ) (hs : ns.length ≤ 16777216) :
    lcGo kp g c e vs (ns.map H) [] δ = .ok (boolsD (ns.map F)) δ := by
  have := lcGo_map H (fun a => .bool (F a)) δ ns [] h (by show 0 + _ ≤ 16777216; omega)
  refine this.trans ?_
  simp [boolsD, List.map_map]
theorem lcGo_ibools (F : Int → Bool) (δ : Env) (ns : List Int) (h : ∀ a ∈ ns, lcStep kp g c e vs (.int a) δ = .ok [.bool (F a)] δ) (hs : ns.length ≤ 16777216) :
    lcGo kp g c e vs (intsD ns) [] δ = .ok (boolsD (ns.map F)) δ := lcGo_bools PyData.int F δ ns h hs
/-! ### loops -/
/-- one turn of a for -/
def forStep (kp : Nat) (g : Tg) (b : Env → R Fl) (d : D) (δ : Env) : R Fl := match bindT kp g d δ with
  | none => .no
  | some δ1 => b δ1
@[simp] theorem forStep_name (i : Nat) (b : Env → R Fl) (d : D) (δ : Env) : forStep kp (.name i) b d δ = if freeB kp δ i = true then b (δ.set i (.im d)) else .no := by
  unfold forStep
  rw [bindT_name]
  by_cases h : freeB kp δ i = true
  · rw [if_pos h, if_pos h]
  · rw [if_neg h, if_neg h]
variable {b : Env → R Fl}
theorem forGo_nx (d : D) (ds : List D) (δ δ' : Env) (h : forStep kp g b d δ = .ok .nx δ' ∨ forStep kp g b d δ = .ok .ct δ') : forGo kp g b (d :: ds) δ = forGo kp g b ds δ' := by
  unfold forStep at h
  rw [forGo]
  cases hb : bindT kp g d δ with
  | none =>
    rw [hb] at h
    cases h with
    | inl h => cases h
    | inr h => cases h
  | some δ1 =>
    rw [hb] at h
    simp only at h ⊢
    cases h with
    | inl h => rw [h, bind_ok]
    | inr h => rw [h, bind_ok]
theorem forGo_rt (d : D) (ds : List D) (δ δ' : Env) (v : RV) (h : forStep kp g b d δ = .ok (.rt v) δ') : forGo kp g b (d :: ds) δ = .ok (.rt v) δ' := by
  unfold forStep at h
  rw [forGo]
  cases hb : bindT kp g d δ with
  | none =>
    rw [hb] at h
    cases h
  | some δ1 =>
    rw [hb] at h
    simp only at h ⊢
    rw [h, bind_ok]
theorem forGo_rel {α : Type} (H : α → D) (I : List α → Env → Prop) (Q : RV → Env → Prop) (hstep : ∀ a as δ, I (a :: as) δ → (∃ δ', (forStep kp g b (H a) δ = .ok .nx δ' ∨ forStep kp g b (H a) δ = .ok .ct δ') ∧ I as δ') ∨ (∃ v δ', forStep kp g b (H a) δ = .ok (.rt v) δ' ∧ Q v δ')) :
    ∀ (as : List α) (δ : Env), I as δ → (∃ δ', forGo kp g b (as.map H) δ = .ok .nx δ' ∧ I [] δ') ∨ (∃ v δ', forGo kp g b (as.map H) δ = .ok (.rt v) δ' ∧ Q v δ')
  | [], δ, i => .inl ⟨δ, rfl, i⟩
  | a :: as, δ, i => by
    rw [List.map_cons]
    rcases hstep a as δ i with ⟨δ', h, i'⟩ | ⟨v, δ', h, q⟩
    · rw [forGo_nx _ _ _ _ h]
      exact forGo_rel H I Q hstep as δ' i'
    · exact .inr ⟨v, δ', forGo_rt _ _ _ _ _ h, q⟩
theorem forGo_all {α : Type} (H : α → D) (I : List α → Env → Prop) (hstep : ∀ a as δ, I (a :: as) δ → ∃ δ', (forStep kp g b (H a) δ = .ok .nx δ' ∨ forStep kp g b (H a) δ = .ok .ct δ') ∧ I as δ') (as : List α) (δ : Env) (i : I as δ) : ∃ δ', forGo kp g b (as.map H) δ = .ok .nx δ' ∧ I [] δ' := by
  rcases forGo_rel (kp := kp) (g := g) (b := b) H I (fun _ _ => False) (fun a as δ i => .inl (hstep a as δ i)) as δ i with h | ⟨v, δ', h, q⟩
  · exact h
  · exact q.elim
theorem forGo_alls {α : Type} (H : α → D) (I : List α → Env → Prop) {as : List α} {δ : Env} {X : R Fl} (hX : forGo kp g b (as.map H) δ = X) (i : I as δ) (hstep : ∀ a as δ, I (a :: as) δ → ∃ δ', (forStep kp g b (H a) δ = .ok .nx δ' ∨ forStep kp g b (H a) δ = .ok .ct δ') ∧ I as δ') : ∃ δ', X = .ok .nx δ' ∧ I [] δ' := hX ▸ forGo_all H I hstep as δ i
theorem forGo_rels {α : Type} (H : α → D) (I : List α → Env → Prop) (Q : RV → Env → Prop) {as : List α} {δ : Env} {X : R Fl} (hX : forGo kp g b (as.map H) δ = X) (i : I as δ) (hstep : ∀ a as δ, I (a :: as) δ → (∃ δ', (forStep kp g b (H a) δ = .ok .nx δ' ∨ forStep kp g b (H a) δ = .ok .ct δ') ∧ I as δ') ∨ (∃ v δ', forStep kp g b (H a) δ = .ok (.rt v) δ' ∧ Q v δ')) : (∃ δ', X = .ok .nx δ' ∧ I [] δ') ∨ (∃ v δ', X = .ok (.rt v) δ' ∧ Q v δ') := hX ▸ forGo_rel H I Q hstep as δ i
theorem whGo_rel (t : Env → R Bool) (b : Env → R Fl) (I : Nat → Env → Prop) (P : Env → Prop)
    (hstep : ∀ m δ, I m δ → (∃ δ', t δ = .ok false δ' ∧ P δ') ∨ (∃ δ1 δ2, t δ = .ok true δ1 ∧ (b δ1 = .ok .nx δ2 ∨ b δ1 = .ok .ct δ2) ∧ ∃ m', m' < m ∧ I m' δ2)) :
    ∀ (n m : Nat) (δ : Env), I m δ → m < n → ∃ δ', whGo t b n δ = .ok .nx δ' ∧ P δ'
  | 0, m, _, _, h => absurd h (Nat.not_lt_zero m)
  | n + 1, m, δ, i, h => by
    rcases hstep m δ i with ⟨δ', e, p⟩ | ⟨δ1, δ2, e, eb, m', hm, i'⟩
    · refine ⟨δ', ?_, p⟩
      rw [whGo, e, bind_ok, if_neg (by decide)]
    · obtain ⟨δ', e2, p⟩ := whGo_rel t b I P hstep n m' δ2 i' (by omega)
      refine ⟨δ', ?_, p⟩
      rw [whGo, e, bind_ok, if_pos rfl]
      rcases eb with eb | eb
      · rw [eb, bind_ok]
        exact e2
      · rw [eb, bind_ok]
        exact e2
theorem whGo_rels {t : Env → R Bool} {b : Env → R Fl} (I : Nat → Env → Prop) (P : Env → Prop) {δ : Env} {X : R Fl} (m : Nat) (hX : whGo t b fuel δ = X) (i : I m δ) (hm : m < 10 ^ 30)
    (hstep : ∀ m δ, I m δ → (∃ δ', t δ = .ok false δ' ∧ P δ') ∨ (∃ δ1 δ2, t δ = .ok true δ1 ∧ (b δ1 = .ok .nx δ2 ∨ b δ1 = .ok .ct δ2) ∧ ∃ m', m' < m ∧ I m' δ2)) : ∃ δ', X = .ok .nx δ' ∧ P δ' := hX ▸ whGo_rel t b I P hstep fuel m δ i (by rw [fuel_eq]; exact hm)
end
/-! ### rows of ints -/
@[simp] theorem intsD_nil : intsD [] = [] := rfl
@[simp] theorem intsD_cons (n : Int) (ns : List Int) : intsD (n :: ns) = .int n :: intsD ns := rfl
@[simp] theorem intsD_app (ns ms : List Int) : intsD (ns ++ ms) = intsD ns ++ intsD ms := by simp [intsD]
@[simp] theorem intsD_len (ns : List Int) : (intsD ns).length = ns.length := List.length_map _
@[simp] theorem plainAll_ints : ∀ ns : List Int, PyData.plainAll (intsD ns) = true
  | [] => by simp [PyData.plainAll]
  | n :: ns => by
    show PyData.plainAll (.int n :: intsD ns) = true
    rw [PyData.plainAll, plainAll_ints ns]
    rfl
@[simp] theorem depthAll_ints (ns : List Int) : PyData.depthAll (intsD ns) = 0 := PySem.W.depth_ints ns
@[simp] theorem plain_tuple (ds : List D) : PyData.plain (.tuple ds) = PyData.plainAll ds := by rw [PyData.plain]
@[simp] theorem plain_list (ds : List D) : PyData.plain (.list ds) = PyData.plainAll ds := by rw [PyData.plain]
@[simp] theorem plain_none : PyData.plain .none = true := by rw [PyData.plain]
@[simp] theorem plain_bool (b : Bool) : PyData.plain (.bool b) = true := by rw [PyData.plain]
@[simp] theorem plain_str (b : Str) : PyData.plain (.str b) = true := by rw [PyData.plain]
@[simp] theorem plainAll_nil : PyData.plainAll [] = true := by rw [PyData.plainAll]
@[simp] theorem plainAll_cons (d : D) (ds : List D) : PyData.plainAll (d :: ds) = (d.plain && PyData.plainAll ds) := by rw [PyData.plainAll]
@[simp] theorem depth_tuple (ds : List D) : PyData.depth (.tuple ds) = PyData.depthAll ds + 1 := by rw [PyData.depth]
@[simp] theorem depth_list (ds : List D) : PyData.depth (.list ds) = PyData.depthAll ds + 1 := by rw [PyData.depth]
@[simp] theorem depth_int (i : Int) : PyData.depth (.int i) = 0 := by rw [PyData.depth]
@[simp] theorem depth_none : PyData.depth .none = 0 := by rw [PyData.depth]
@[simp] theorem depth_bool (b : Bool) : PyData.depth (.bool b) = 0 := by rw [PyData.depth]
@[simp] theorem depth_str (b : Str) : PyData.depth (.str b) = 0 := by rw [PyData.depth]
@[simp] theorem depthAll_nil : PyData.depthAll [] = 0 := by rw [PyData.depthAll]
@[simp] theorem depthAll_cons (d : D) (ds : List D) : PyData.depthAll (d :: ds) = max d.depth (PyData.depthAll ds) := by rw [PyData.depthAll]
theorem plainAll_map {α : Type} (H : α → D) (h : ∀ a, (H a).plain = true) : ∀ as : List α, PyData.plainAll (as.map H) = true
  | [] => by simp
  | a :: as => by simp [h a, plainAll_map H h as]
theorem depthAll_map {α : Type} (H : α → D) (n : Nat) (h : ∀ a, (H a).depth ≤ n) : ∀ as : List α, PyData.depthAll (as.map H) ≤ n
  | [] => by simp
  | a :: as => by
    have := depthAll_map H n h as
    have := h a
    rw [List.map_cons, depthAll_cons]
    omega
@[simp] theorem mem_ints (p : Int) (ns : List Int) : mem (.int p) (intsD ns) = decide (p ∈ ns) := by
  unfold mem intsD
  rw [List.any_map]
  induction ns with
  | nil => simp
  | cons n ns ih =>
    rw [List.any_cons, ih]
    simp
    by_cases h : n = p
    · simp [h]
    · have h' : ¬ p = n := fun q => h q.symm
      simp [h, h']
@[simp] theorem memOk_ints (p : Int) (ns : List Int) : memOk (.int p) (intsD ns) = true := by simp [memOk]
theorem eqv_self (d : D) (h : d.plain = true) : PyData.eqv d d = true := PySem.SeqAt.eqv_refl_plain d h
@[simp] theorem eqvAll_nil : PyData.eqvAll [] [] = true := by rw [PyData.eqvAll]
@[simp] theorem eqvAll_cons (x y : D) (xs ys : List D) : PyData.eqvAll (x :: xs) (y :: ys) = (PyData.eqv x y && PyData.eqvAll xs ys) := by rw [PyData.eqvAll]
@[simp] theorem eqvAll_nc (x : D) (xs : List D) : PyData.eqvAll [] (x :: xs) = false := by simp [PyData.eqvAll]
@[simp] theorem eqvAll_cn (x : D) (xs : List D) : PyData.eqvAll (x :: xs) [] = false := by simp [PyData.eqvAll]
@[simp] theorem eqv_list (x y : List D) : PyData.eqv (.list x) (.list y) = PyData.eqvAll x y := by rw [PyData.eqv]
@[simp] theorem eqv_tuple (x y : List D) : PyData.eqv (.tuple x) (.tuple y) = PyData.eqvAll x y := by rw [PyData.eqv]
@[simp] theorem intD_rngD (n : Nat) : rngD 0 n = intsD ((List.range n).map fun (i : Nat) => (i : Int)) := by
  unfold rngD intsD
  rw [List.map_map]
  apply List.map_congr_left
  intro a _
  simp
theorem natAbs_mod (x m : Int) (h0 : 0 < m) (h : m.natAbs < 2 ^ 64) : (x % m).natAbs < 18446744073709551616 := by
  have := Int.emod_nonneg x (by omega : m ≠ 0)
  have := Int.emod_lt_of_pos x h0
  omega
theorem argBest_le (bt : Nat → Nat → Bool) : ∀ k, argBest bt k ≤ k
  | 0 => Nat.le_refl _
  | k + 1 => by
    rw [argBest]
    have := argBest_le bt k
    by_cases h : bt (k + 1) (argBest bt k) = true
    · rw [if_pos h]
      exact Nat.le_refl _
    · rw [if_neg h]
      omega
/-- the least of rows: none of no rows, else one of them -/
theorem minLen_rows (ds : List D) (h : rowsD ds = true) : (ds = [] ∧ fn .minLen [.list ds] = some (.dat .none)) ∨ (∃ d ∈ ds, fn .minLen [.list ds] = some (.dat d)) := by
  cases ds with
  | nil => exact .inl ⟨rfl, by simp [fn, rowsD]⟩
  | cons d ds =>
    refine .inr ⟨(d :: ds)[minLenAt (d :: ds)]'?_, ?_, ?_⟩
    · have := argBest_le (fun i j => decide ((lenD ((d :: ds).getD i .none) : Int) < (lenD ((d :: ds).getD j .none) : Int))) ((d :: ds).length - 1)
      unfold minLenAt
      simp only [List.length_cons] at this ⊢
      omega
    · exact List.getElem_mem _
    · show (if rowsD (d :: ds) = true then _ else _) = _
      rw [if_pos h]
      show ((d :: ds)[minLenAt (d :: ds)]?).map _ = _
      rw [List.getElem?_eq_getElem]
      rfl
@[simp high] theorem pop_snoc (xs : List D) (x : D) : mtop .pop (xs ++ [x]) [] = some (x, xs) := by
  rw [pop_eq]
  simp
@[simp] theorem eqvAll_snoc (xs : List D) (x : D) : PyData.eqvAll (xs ++ [x]) [] = false := by
  cases xs <;> simp
theorem plainAll_app (xs ys : List D) : PyData.plainAll (xs ++ ys) = (PyData.plainAll xs && PyData.plainAll ys) := by
  induction xs with
  | nil => simp
  | cons x xs ih => simp [ih, Bool.and_assoc]
@[simp] theorem plain2_nil (xs : List D) : plain2 (.list xs) (.list []) = PyData.plainAll xs := by
  unfold plain2
  have : min (PyData.depth (.list xs)) (PyData.depth (.list [])) ≤ 60 := by simp
  simp [this]
@[simp] theorem plain2_tnil (xs : List D) : plain2 (.tuple xs) (.tuple []) = PyData.plainAll xs := by
  unfold plain2
  have : min (PyData.depth (.tuple xs)) (PyData.depth (.tuple [])) ≤ 60 := by simp
  simp [this]
/-! ### a row, as a list or a tuple -/
def seqD (b : Bool) (ds : List D) : D := if b = true then .tuple ds else .list ds
@[simp] theorem seqD_items (b : Bool) (ds : List D) : itemsD (seqD b ds) = some ds := by cases b <;> rfl
@[simp] theorem seqD_idx (b : Bool) (ds : List D) (i : Int) : idxop (seqD b ds) (.int i) = L2.atI ds i := by cases b <;> rfl
@[simp] theorem seqD_tuple (b : Bool) (ds : List D) : fn .tuple [seqD b ds] = some (.dat (.tuple ds)) := by cases b <;> rfl
@[simp] theorem seqD_list (b : Bool) (ds : List D) : fn .list [seqD b ds] = some (.new (.lst ds)) := by cases b <;> rfl
@[simp] theorem seqD_sset (b : Bool) (ns : List Int) (h : ns.length < 60) : fn .sortedSet [seqD b (intsD ns)] = some (.new (.lst (intsD (sortI (uniqI ns))))) := by
  cases b
  · exact fn_sset_list ns h
  · exact fn_sset_tuple ns h
@[simp] theorem seqD_plain (b : Bool) (ds : List D) : (seqD b ds).plain = PyData.plainAll ds := by cases b <;> simp [seqD]
@[simp] theorem seqD_depth (b : Bool) (ds : List D) : (seqD b ds).depth = PyData.depthAll ds + 1 := by cases b <;> simp [seqD]
@[simp] theorem seqD_notNone (b : Bool) (ds : List D) : isNoneD (seqD b ds) = false := by cases b <;> rfl
theorem rowsD_map {α : Type} (H : α → D) (h : ∀ a, ∃ b ds, H a = seqD b ds) : ∀ as : List α, rowsD (as.map H) = true
  | [] => rfl
  | a :: as => by
    obtain ⟨b, ds, e⟩ := h a
    rw [List.map_cons, e]
    cases b
    · exact rowsD_map H h as
    · exact rowsD_map H h as
@[simp] theorem size_simp : sizeLine = 16777216 := size_val
end IL
end
section
set_option Elab.async false
set_option linter.all false
set_option autoImplicit false
set_option maxHeartbeats 1000000
/-! J0T: texts as rows of signs, in the small language. -/
namespace IL
open PySem
/-- the text of these signs -/
@[irreducible] def txt (l : List Nat) : Str := SX.S l
theorem txt_eq (l : List Nat) : txt l = SX.S l := by unfold txt; rfl
theorem txt_cps (l : List Nat) : (txt l).cps.toList = l := by rw [txt_eq]
theorem txt_of (s : Str) : txt s.cps.toList = s := by rw [txt_eq]
@[simp] theorem txt_inj (a b : List Nat) : txt a = txt b ↔ a = b := by
  rw [txt_eq, txt_eq]
  exact ⟨SX.S_inj, fun h => by rw [h]⟩
theorem txt_len (a : List Nat) : (txt a).length = a.length := by rw [txt_eq]; exact SX.S_len a
theorem txt_one (c : Nat) : (⟨#[c]⟩ : Str) = txt [c] := by rw [txt_eq]
@[simp] theorem eqv_txt (a b : List Nat) : PyData.eqv (.str (txt a)) (.str (txt b)) = decide (a = b) := by
  rw [txt_eq, txt_eq]
  have : PyData.eqv (.str (SX.S a)) (.str (SX.S b)) = (SX.S a == SX.S b) := by rw [PyData.eqv]
  rw [this, SX.S_beq_eq]
@[simp] theorem add_txt (a b : List Nat) (h : a.length + b.length ≤ 16777216) : binop .add (.str (txt a)) (.str (txt b)) = some (.dat (.str (txt (a ++ b)))) := by
  have e : binop .add (.str (txt a)) (.str (txt b)) = if (txt a).length + (txt b).length ≤ sizeLine then some (.dat (.str (txt a ++ txt b))) else none := rfl
  rw [e, txt_len, txt_len, if_pos (by rw [size_val]; exact h), txt_eq, txt_eq, txt_eq, SX.S_cat]
@[simp] theorem len_txt (a : List Nat) (h : a.length ≤ 16777216) : fn .len [.str (txt a)] = some (.dat (.int a.length)) := by
  have e : fn .len [.str (txt a)] = if (txt a).length ≤ sizeLine then some (.dat (.int (txt a).length)) else none := rfl
  rw [e, txt_len, if_pos (by rw [size_val]; exact h)]
@[simp] theorem idx_txt (a : List Nat) (i : Int) (h : a.length ≤ 16777216) : idxop (.str (txt a)) (.int i) = (L2.atI a i).map fun c => .str (txt [c]) := by
  have e : idxop (.str (txt a)) (.int i) = if (txt a).length ≤ sizeLine then (L2.atI (txt a).cps.toList i).map fun c => .str ⟨#[c]⟩ else none := rfl
  rw [e, txt_len, if_pos (by rw [size_val]; exact h), txt_cps]
  simp only [txt_one]
@[simp] theorem sli_txt (a : List Nat) (lo hi : Option Int) (h : a.length ≤ 16777216) : sliop lo hi (.str (txt a)) = some (.dat (.str (txt (cutD a lo hi)))) := by
  have e : sliop lo hi (.str (txt a)) = if (txt a).length ≤ sizeLine then some (.dat (.str (L2.cutS (txt a) lo hi))) else none := rfl
  rw [e, txt_len, if_pos (by rw [size_val]; exact h)]
  have e2 : L2.cutS (txt a) lo hi = txt (cutD a lo hi) := by
    unfold L2.cutS cutD
    rw [txt_len, txt_cps, txt_eq]
  rw [e2]
@[simp high] theorem items_txt (a : List Nat) : itemsD (.str (txt a)) = some (a.map fun c => .str (txt [c])) := by
  rw [itemsD_str, txt_cps]
  simp only [txt_one]
@[simp] theorem in_txt (c : Nat) (z : List Nat) : cmpop .isin (.str (txt [c])) (.str (txt z)) = some (decide (c ∈ z)) := by
  have e : ∀ s t : Str, cmpop .isin (.str s) (.str t) = (match s.cps.toList with
    | [n] => some (decide (n ∈ t.cps.toList))
    | _ => none) := fun _ _ => rfl
  rw [e, txt_cps, txt_cps]
@[simp] theorem truth_txt (a : List Nat) (h : a.length ≤ 16777216) : truth (.str (txt a)) = some (a.length != 0) := by
  have e : truth (.str (txt a)) = if (txt a).length ≤ sizeLine then some ((txt a).length != 0) else none := rfl
  rw [e, txt_len, if_pos (by rw [size_val]; exact h)]
@[simp] theorem upper_txt (a : List Nat) (h : a.length ≤ 5592405) (h2 : a.all (· < 128) = true) : tmop .upper (.str (txt a)) = some (.dat (.str (txt (a.map PyProof.Rows.up1)))) := by
  have e : tmop .upper (.str (txt a)) = if (txt a).length ≤ 5592405 then some (.dat (.str (Txt.upper (txt a)))) else none := rfl
  rw [e, txt_len, if_pos h, txt_eq, SX.upper_S h2, txt_eq]
@[simp] theorem plain2_str_r (d : D) (s : Str) : plain2 d (.str s) = d.plain := by
  unfold plain2
  rw [depth_str, plain_str, Nat.min_zero]
  simp
@[simp] theorem plain2_str_l (d : D) (s : Str) : plain2 (.str s) d = d.plain := by
  unfold plain2
  rw [depth_str, plain_str, Nat.zero_min]
  simp
/-! ### other pairs -/
@[simp] theorem eqv_int_str (i : Int) (s : Str) : PyData.eqv (.int i) (.str s) = false := by simp [PyData.eqv]
@[simp] theorem eqv_none_str (s : Str) : PyData.eqv .none (.str s) = false := by simp [PyData.eqv]
@[simp] theorem eqv_bool_str (i : Bool) (s : Str) : PyData.eqv (.bool i) (.str s) = false := by simp [PyData.eqv]
@[simp] theorem eqv_list_str (i : List D) (s : Str) : PyData.eqv (.list i) (.str s) = false := by simp [PyData.eqv]
@[simp] theorem eqv_tuple_str (i : List D) (s : Str) : PyData.eqv (.tuple i) (.str s) = false := by simp [PyData.eqv]
/-! ### loops that an exception leaves -/
section
variable {kp : Nat} {g : Tg} {b : Env → R Fl}
theorem forGo_ex (d : D) (ds : List D) (δ δ' : Env) (c : Nat) (fs : List (Str × D)) (h : forStep kp g b d δ = .ex c fs δ') : forGo kp g b (d :: ds) δ = .ex c fs δ' := by
  unfold forStep at h
  rw [forGo]
  cases hb : bindT kp g d δ with
  | none =>
    rw [hb] at h
    cases h
  | some δ1 =>
    rw [hb] at h
    simp only at h ⊢
    rw [h, bind_ex]
end
/-! ### a dict with texts for keys -/
def dctD (kvs : List (List Nat × D)) : List (L2.Key × D) := kvs.map fun kv => (.inr (txt kv.1), kv.2)
@[simp] theorem dctD_nil : dctD [] = [] := rfl
@[simp] theorem dctD_len (kvs : List (List Nat × D)) : (dctD kvs).length = kvs.length := List.length_map _
def atL (kvs : List (List Nat × D)) (k : List Nat) : Option D := (kvs.find? fun kv => decide (kv.1 = k)).map (·.2)
def putL (kvs : List (List Nat × D)) (k : List Nat) (d : D) : List (List Nat × D) := if (kvs.any fun kv => decide (kv.1 = k)) = true then kvs.map fun kv => if kv.1 = k then (kv.1, d) else kv else kvs ++ [(k, d)]
theorem key_dec (a b : List Nat) : decide ((Sum.inr (txt a) : L2.Key) = Sum.inr (txt b)) = decide (a = b) := by
  by_cases h : a = b
  · subst h; simp
  · have : ¬ ((Sum.inr (txt a) : L2.Key) = Sum.inr (txt b)) := fun e => h ((txt_inj a b).mp (Sum.inr.inj e))
    simp [h, this]
@[simp] theorem atD_txt (kvs : List (List Nat × D)) (k : List Nat) : atD (dctD kvs) (.inr (txt k)) = atL kvs k := by
  unfold atD atL dctD
  induction kvs with
  | nil => rfl
  | cons kv kvs ih =>
    rw [List.map_cons, List.find?_cons, List.find?_cons]
    simp only [key_dec]
    by_cases h : kv.1 = k
    · simp [h]
    · simp only [h, decide_false]
      exact ih
@[simp] theorem putD_txt (kvs : List (List Nat × D)) (k : List Nat) (d : D) : putD (dctD kvs) (.inr (txt k)) d = dctD (putL kvs k d) := by
  unfold putD putL
  have e : ((dctD kvs).any fun kv => decide (kv.1 = Sum.inr (txt k))) = kvs.any fun kv => decide (kv.1 = k) := by
    unfold dctD
    rw [List.any_map]
    congr 1
    funext kv
    exact key_dec _ _
  rw [e]
  by_cases h : (kvs.any fun kv => decide (kv.1 = k)) = true
  · rw [if_pos h, if_pos h]
    unfold dctD
    rw [List.map_map, List.map_map]
    apply List.map_congr_left
    intro kv _
    simp only [Function.comp]
    by_cases q : kv.1 = k
    · subst q
      rw [if_pos rfl, if_pos rfl]
    · have : ¬ ((Sum.inr (txt kv.1) : L2.Key) = Sum.inr (txt k)) := fun e => q ((txt_inj _ _).mp (Sum.inr.inj e))
      rw [if_neg this, if_neg q]
  · rw [if_neg h, if_neg h]
    simp [dctD]
theorem atL_put (kvs : List (List Nat × D)) (k : List Nat) (d : D) (j : List Nat) : atL (putL kvs k d) j = if j = k then some d else atL kvs j := by
  unfold putL
  by_cases h : (kvs.any fun kv => decide (kv.1 = k)) = true
  · rw [if_pos h]
    unfold atL
    induction kvs with
    | nil => simp at h
    | cons kv kvs ih =>
      rw [List.map_cons, List.find?_cons, List.find?_cons]
      by_cases q : kv.1 = k
      · rw [if_pos q]
        by_cases r : kv.1 = j
        · subst r
          simp [q]
        · have : ¬ j = k := fun e => r (q.trans e.symm)
          simp only [r, decide_false, this, if_false]
          by_cases q2 : (kvs.any fun kv => decide (kv.1 = k)) = true
          · rw [ih q2, if_neg this]
          · have : (kvs.map fun kv => if kv.1 = k then (kv.1, d) else kv) = kvs := by
              refine (List.map_congr_left fun x hx => ?_).trans (List.map_id _)
              rw [if_neg]
              · rfl
              · intro e
                exact q2 (List.any_eq_true.mpr ⟨x, hx, by simpa using e⟩)
            rw [this]
      · rw [if_neg q]
        by_cases r : kv.1 = j
        · have : ¬ j = k := fun e => q (r.trans e)
          simp [r, this]
        · simp only [r, decide_false]
          refine ih ?_
          rw [List.any_cons] at h
          simpa [q] using h
  · rw [if_neg h]
    unfold atL
    rw [List.find?_append]
    by_cases r : j = k
    · subst r
      have : (kvs.find? fun kv => decide (kv.1 = j)) = none := by
        rw [List.find?_eq_none]
        intro x hx e
        exact h (List.any_eq_true.mpr ⟨x, hx, e⟩)
      rw [this]
      simp
    · have : ¬ k = j := fun e => r e.symm
      cases (kvs.find? fun kv => decide (kv.1 = j)) <;> simp [r, this]
theorem putL_len (kvs : List (List Nat × D)) (k : List Nat) (d : D) : (putL kvs k d).length ≤ kvs.length + 1 := by
  unfold putL
  split
  · simp
  · simp
end IL
end
section
set_option Elab.async false
set_option linter.all false
set_option autoImplicit false
set_option maxHeartbeats 1000000
/-! J0U: texts cut, joined, read as numbers, in the small language. -/
namespace IL
open PySem
/-! ### cut at one sign -/
def spl (c : Nat) (l : List Nat) : List (List Nat) := TL.spl [c] 0 [] l
theorem spl_no {c : Nat} {l : List Nat} (h : c ∉ l) : spl c l = [l] := by
  have := TL.spl_last1 (S := []) (acc := []) h
  simpa [spl] using this
theorem spl_cut {c : Nat} {p : List Nat} (q : List Nat) (h : c ∉ p) : spl c (p ++ c :: q) = p :: spl c q := SX.spl_free q (by simp) (SX.free_head h)
theorem cut_of {c : Nat} {l : List Nat} (h : c ∈ l) : ∃ p q, l = p ++ c :: q ∧ c ∉ p := List.eq_append_cons_of_mem h
theorem spl_ind {c : Nat} {P : List Nat → Prop} (h1 : ∀ l, c ∉ l → P l) (h2 : ∀ p q, c ∉ p → P q → P (p ++ c :: q)) (l : List Nat) : P l := by
  generalize hn : l.length = n
  induction n using Nat.strongRecOn generalizing l with
  | ind n ih =>
    by_cases h : c ∈ l
    · obtain ⟨p, q, rfl, hp⟩ := cut_of h
      exact h2 p q hp (ih q.length (by rw [← hn]; simp; omega) q rfl)
    · exact h1 l h
theorem spl_pos (c : Nat) (l : List Nat) : ∃ a as, spl c l = a :: as := by
  by_cases h : c ∈ l
  · obtain ⟨p, q, rfl, hp⟩ := cut_of h
    exact ⟨_, _, spl_cut q hp⟩
  · exact ⟨_, _, spl_no h⟩
theorem spl_lpos (c : Nat) (l : List Nat) : 0 < (spl c l).length := by
  obtain ⟨a, as, e⟩ := spl_pos c l
  rw [e]
  simp
theorem spl_two {c : Nat} {l : List Nat} (h : c ∈ l) : 2 ≤ (spl c l).length := by
  obtain ⟨p, q, rfl, hp⟩ := cut_of h
  rw [spl_cut q hp, List.length_cons]
  have := spl_lpos c q
  omega
theorem spl_len (c : Nat) (l : List Nat) : (spl c l).length ≤ l.length + 1 := by
  refine spl_ind (c := c) (P := fun l => (spl c l).length ≤ l.length + 1) ?_ ?_ l
  · intro l h
    rw [spl_no h]
    simp
  · intro p q hp ih
    rw [spl_cut q hp]
    simp
    omega
theorem spl_short (c : Nat) (l : List Nat) : ∀ a ∈ spl c l, a.length ≤ l.length := by
  refine spl_ind (c := c) (P := fun l => ∀ a ∈ spl c l, a.length ≤ l.length) ?_ ?_ l
  · intro l h a ha
    rw [spl_no h, List.mem_singleton] at ha
    rw [ha]
    exact Nat.le_refl _
  · intro p q hp ih a ha
    rw [spl_cut q hp] at ha
    rcases List.mem_cons.mp ha with rfl | ha
    · simp
    · have := ih a ha
      simp
      omega
/-- all the words' signs, and the cuts between them -/
theorem spl_sum (c : Nat) (l : List Nat) : ((spl c l).map (·.length)).sum + (spl c l).length = l.length + 1 := by
  refine spl_ind (c := c) (P := fun l => ((spl c l).map (·.length)).sum + (spl c l).length = l.length + 1) ?_ ?_ l
  · intro l h
    rw [spl_no h]
    simp
  · intro p q hp ih
    rw [spl_cut q hp]
    simp
    omega
def txtsD (ws : List (List Nat)) : List D := ws.map fun w => .str (txt w)
@[simp] theorem txtsD_nil : txtsD [] = [] := rfl
@[simp] theorem txtsD_len (ws : List (List Nat)) : (txtsD ws).length = ws.length := List.length_map _
@[simp] theorem split_txt (l : List Nat) (c : Nat) (h : l.length + 2 ≤ 16777216) (hc : c < 256) : tm1op (txt l) .split (.str (txt [c])) = some (.new (.lst (txtsD (spl c l)))) := by
  have e : tm1op (txt l) .split (.str (txt [c])) = if ((txt [c]).length == 0) = false ∧ (txt l).length + 2 ≤ sizeLine then some (.new (.lst ((Txt.split (txt l) (txt [c])).map PyData.str))) else none := rfl
  rw [e, txt_len, txt_len, if_pos ⟨rfl, by rw [size_val]; exact h⟩, txt_eq, txt_eq, SX.split_S (by simp) (by simpa using hc), List.map_map]
  unfold txtsD spl
  congr 3
  apply List.map_congr_left
  intro w _
  rw [txt_eq]
  rfl
theorem part_no (l : List Nat) (c : Nat) (h : l.length ≤ 16777216) (hc : c ∉ l) : tm1op (txt l) .partition (.str (txt [c])) = some (.dat (.tuple [.str (txt l), .str (txt []), .str (txt [])])) := by
  have e : tm1op (txt l) .partition (.str (txt [c])) = if ((txt [c]).length == 0) = false ∧ (txt l).length ≤ sizeLine then some (.dat (.tuple [.str (Txt.partition (txt l) (txt [c])).1, .str (Txt.partition (txt l) (txt [c])).2.1, .str (Txt.partition (txt l) (txt [c])).2.2])) else none := rfl
  rw [e, txt_len, txt_len, if_pos ⟨rfl, by rw [size_val]; exact h⟩, txt_eq, txt_eq, SX.partition_none (by simp) (SX.par_head_none hc), txt_eq]
theorem part_cut (p q : List Nat) (c : Nat) (h : (p ++ c :: q).length ≤ 16777216) (hc : c ∉ p) : tm1op (txt (p ++ c :: q)) .partition (.str (txt [c])) = some (.dat (.tuple [.str (txt p), .str (txt [c]), .str (txt q)])) := by
  have e : ∀ l, tm1op (txt l) .partition (.str (txt [c])) = if ((txt [c]).length == 0) = false ∧ (txt l).length ≤ sizeLine then some (.dat (.tuple [.str (Txt.partition (txt l) (txt [c])).1, .str (Txt.partition (txt l) (txt [c])).2.1, .str (Txt.partition (txt l) (txt [c])).2.2])) else none := fun _ => rfl
  rw [e, txt_len, txt_len, if_pos ⟨rfl, by rw [size_val]; exact h⟩, txt_eq, txt_eq, SX.partition_some (a := p ++ c :: q) (by simp) (SX.par_head (sep := []) q hc), txt_eq, txt_eq]
/-! ### joined -/
theorem asStrs_txts : ∀ ws : List (List Nat), asStrs (txtsD ws) = some (ws.map txt)
  | [] => rfl
  | w :: ws => by
    show (asStrs (txtsD ws)).map _ = _
    rw [asStrs_txts ws]
    rfl
theorem join_txt (s : List Nat) (ws : List (List Nat)) (h : (ws.map (·.length)).sum + ws.length * s.length ≤ 16777216) : tm1op (txt s) .join (.list (txtsD ws)) = some (.dat (.str (txt (TL.joinL s ws)))) := by
  have e : tm1op (txt s) .join (.list (txtsD ws)) = (asStrs (txtsD ws)).bind fun ys => if joinOk (txt s) ys = true then some (.dat (.str (Txt.join (txt s) ys))) else none := rfl
  rw [e, asStrs_txts]
  simp only [Option.bind_some]
  rw [if_pos]
  · rw [txt_eq, txt_eq, ← SX.join_S]
    have : ws.map txt = ws.map SX.S := List.map_congr_left fun w _ => txt_eq w
    rw [this]
  · unfold joinOk
    rw [decide_eq_true_iff, txt_len, List.map_map, List.length_map]
    have : (List.map ((fun x => x.length) ∘ txt) ws) = ws.map (·.length) := List.map_congr_left fun w _ => txt_len w
    rw [this]
    exact h
theorem joinL_len (s : List Nat) : ∀ ws : List (List Nat), (TL.joinL s ws).length ≤ (ws.map (·.length)).sum + ws.length * s.length
  | [] => by simp [TL.joinL]
  | [p] => by simp [TL.joinL]
  | p :: q :: r => by
    have ih := joinL_len s (q :: r)
    rw [TL.joinL, List.length_append, List.length_append]
    rw [List.length_cons, List.map_cons, List.sum_cons, Nat.succ_mul]
    omega
theorem sum_le (n : Nat) : ∀ ws : List (List Nat), (∀ w ∈ ws, w.length ≤ n) → (ws.map (·.length)).sum ≤ ws.length * n
  | [], _ => by simp
  | w :: ws, h => by
    have := sum_le n ws fun x hx => h x (List.mem_cons_of_mem _ hx)
    have := h w List.mem_cons_self
    rw [List.map_cons, List.sum_cons, List.length_cons, Nat.succ_mul]
    omega
/-! ### one sign ahead -/
def dropP (c : Nat) : List Nat → List Nat
  | [] => []
  | d :: l => if d = c then l else d :: l
@[simp] theorem rmprefix_txt (l : List Nat) (c : Nat) (h : l.length ≤ 16777216) : tm1op (txt l) .removeprefix (.str (txt [c])) = some (.dat (.str (txt (dropP c l)))) := by
  have e : tm1op (txt l) .removeprefix (.str (txt [c])) = if (txt l).length ≤ sizeLine then some (.dat (.str (Txt.removeprefix (txt l) (txt [c])))) else none := rfl
  rw [e, txt_len, if_pos (by rw [size_val]; exact h), StrLaws.removeprefix_eq, StrLaws.subAt_eq, txt_len, txt_len, txt_cps, txt_cps]
  cases l with
  | nil => simp [dropP]
  | cons d l =>
    by_cases q : d = c
    · subst q
      simp [dropP]
      rw [txt_eq]
    · have : ([d] == [c]) = false := by simpa using q
      simp [dropP, q]
/-! ### digits -/
def isDig (c : Nat) : Bool := decide (48 ≤ c) && decide (c ≤ 57)
@[simp] theorem isascii_txt (l : List Nat) : tmop .isascii (.str (txt l)) = some (.dat (.bool (l.all fun c => decide (c < 128)))) := by
  have e : tmop .isascii (.str (txt l)) = some (.dat (.bool (Txt.isascii (txt l)))) := rfl
  rw [e]
  unfold Txt.isascii
  rw [← Array.all_toList, txt_cps]
theorem isdigit_txt (l : List Nat) (h : (l.all fun c => decide (c < 128)) = true) : tmop .isdigit (.str (txt l)) = some (.dat (.bool (decide (l ≠ []) && l.all isDig))) := by
  have e : tmop .isdigit (.str (txt l)) = some (.dat (.bool (Txt.isdigit (txt l)))) := rfl
  rw [e]
  unfold Txt.isdigit
  rw [← Array.all_toList, txt_cps, txt_len]
  have a : decide (l.length > 0) = decide (l ≠ []) := by cases l <;> simp
  rw [a]
  have b : l.all Unicode.isDigit = l.all isDig := by
    rw [List.all_eq_true] at h
    clear e a
    induction l with
    | nil => rfl
    | cons c l ih =>
      have hc : c < 128 := by simpa using h c List.mem_cons_self
      rw [List.all_cons, List.all_cons, ih fun x hx => h x (List.mem_cons_of_mem _ hx)]
      have := PyProof.Rows.one_isdigit c hc
      have k : ∀ c, c < 128 → Unicode.isDigit c = isDig c := by decide +kernel
      rw [k c hc]
  rw [b]
def dval (l : List Nat) : Int := ((NumText.digitsVal l : Nat) : Int)
theorem allDig {l : List Nat} (h : l.all isDig = true) : NumText.AllDigits l := by
  intro c hc
  have := List.all_eq_true.mp h c hc
  unfold isDig at this
  simpa using this
theorem int_txt (l : List Nat) (h : l.all isDig = true) (hn : l ≠ []) (hl : l.length ≤ 640) : fn .int [.str (txt l)] = some (.dat (.int (dval l))) := by
  have e : fn .int [.str (txt l)] = if (txt l).length ≤ 640 then (intText? (txt l)).map fun i => .dat (.int i) else none := rfl
  rw [e, txt_len, if_pos hl, intText_digits (by rw [txt_cps]; exact allDig h) (by rw [txt_cps]; exact hn) (by rw [txt_len]; omega), txt_cps]
  rfl
theorem int_neg (l : List Nat) (h : l.all isDig = true) (hn : l ≠ []) (hl : l.length < 640) : fn .int [.str (txt (45 :: l))] = some (.dat (.int (-dval l))) := by
  have e : fn .int [.str (txt (45 :: l))] = if (txt (45 :: l)).length ≤ 640 then (intText? (txt (45 :: l))).map fun i => .dat (.int i) else none := rfl
  rw [e, txt_len, if_pos (by simp; omega), intText_neg (cs := l) (by rw [txt_cps]) (allDig h) hn (by rw [txt_len]; simp; omega)]
  rfl
/-! ### an int's text -/
def itxt (i : Int) : List Nat := (PySem.Str.ofString (toString i)).cps.toList
theorem itxt_of (i : Int) : PySem.Str.ofString (toString i) = txt (itxt i) := (txt_of _).symm
theorem itxt_len (i : Int) (k : Nat) (hk : 0 < k) (h : i.natAbs < 10 ^ k) : (itxt i).length ≤ k + 1 := by
  have e := int_text_length_le10 hk h
  have : (itxt i).length = (toString i).length := by
    exact ofString_length (toString i)
  omega
theorem str_int (i : Int) (h : i.natAbs.log2 < 1920) : fn .str [.int i] = some (.dat (.str (txt (itxt i)))) := by
  have e : fn .str [.int i] = if i.natAbs.log2 < 1920 then some (.dat (.str (PySem.Str.ofString (toString i)))) else none := rfl
  rw [e, if_pos h, itxt_of]
theorem fmt_int (i : Int) (h : i.natAbs.log2 < 1920) : fmtD (.int i) = some (txt (itxt i)) := by
  have e : fmtD (.int i) = if i.natAbs.log2 < 1920 then some (PySem.Str.ofString (toString i)) else none := rfl
  rw [e, if_pos h, itxt_of]
theorem fmt_txt (l : List Nat) (h : l.length ≤ 16777216) : fmtD (.str (txt l)) = some (txt l) := by
  have e : fmtD (.str (txt l)) = if (txt l).length ≤ sizeLine then some (txt l) else none := rfl
  rw [e, txt_len, if_pos (by rw [size_val]; exact h)]
theorem txt_app (a b : List Nat) : txt a ++ txt b = txt (a ++ b) := by
  rw [txt_eq, txt_eq, txt_eq, SX.S_cat]
theorem empty_txt : Str.empty = txt [] := by rw [txt_eq]; rfl
/-- an f-string's part -/
theorem kF2_txt (C : Cfg) (es : CEs) (a s : List Nat) (d : D) (δ : Env) (hd : fmtD d = some (txt s)) (h : a.length + s.length ≤ 16777216) : kF2 C es (txt a) (.ok d δ) = evF C es (txt (a ++ s)) δ := by
  rw [kF2_ok, hd]
  simp only
  rw [txt_app, txt_len, if_pos (by rw [size_val, List.length_append]; exact h)]
/-! ### less -/
@[simp] theorem orderd_txt (a b : List Nat) : orderd (.str (txt a)) (.str (txt b)) = true := by
  simp [orderd, PySem.W.alike]
@[simp] theorem lt_txt (a b : List Nat) : cmpop .lt (.str (txt a)) (.str (txt b)) = some (decide (a < b)) := by
  refine (if_pos (e := none) (orderd_txt a b)).trans ?_
  rw [PySem.W.dataLt_str, txt_cps, txt_cps]
@[simp] theorem le_txt (a b : List Nat) : cmpop .le (.str (txt a)) (.str (txt b)) = some (!decide (b < a)) := by
  refine (if_pos (e := none) (orderd_txt a b)).trans ?_
  rw [PySem.W.dataLt_str, txt_cps, txt_cps]
theorem mul_txt (l : List Nat) (i : Int) (h0 : 0 ≤ i) (h1 : i ≤ 1000) (h2 : l.length ≤ 1000) : ∃ m, binop .mul (.str (txt l)) (.int i) = some (.dat (.str (txt m))) := by
  have e : binop .mul (.str (txt l)) (.int i) = if 0 ≤ i ∧ i ≤ 1000 ∧ (txt l).length ≤ 1000 then some (.dat (.str (Txt.mul (txt l) i))) else none := rfl
  rw [e, txt_len, if_pos ⟨h0, h1, h2⟩]
  exact ⟨_, by rw [txt_of]⟩
end IL
namespace IL
open PySem
@[simp] theorem kF2_str (C : Cfg) (es : CEs) (a s : List Nat) (δ : Env) (h : a.length + s.length ≤ 16777216) : kF2 C es (txt a) (.ok (.str (txt s)) δ) = evF C es (txt (a ++ s)) δ := kF2_txt C es a s _ δ (fmt_txt s (by omega)) h
@[simp] theorem kF2_int (C : Cfg) (es : CEs) (a : List Nat) (i : Int) (δ : Env) (h0 : i.natAbs.log2 < 1920) (h : a.length + (itxt i).length ≤ 16777216) : kF2 C es (txt a) (.ok (.int i) δ) = evF C es (txt (a ++ itxt i)) δ := kF2_txt C es a _ _ δ (fmt_int i h0) h
end IL
end
section
set_option Elab.async false
set_option linter.all false
set_option autoImplicit false
set_option maxRecDepth 100000
set_option maxHeartbeats 4000000
namespace K04
open PySem L2 J
open IL (CB CS CE CEs CT CO CI Def)
def topS (i : Nat) : Stmt := PySem.Challenge.pw_ringclause_k04_texts_of_values.main.body.getD i (.Pass ⟨0, 0, 0, 0⟩)
/-- is_name: 0 value, 1 sign -/
def c_is_name : CB :=
    (.cons (.cond (.or (.not (.tr (.isa (.var 0) [.str]))) (.or (.cmp .eq (.var 0) (.str ("" : Str))) (.cmp .gt (.bi .len (.cons (.var 0) .nil)) (.int 8))))
      (.cons (.ret (.bool false))
    .nil)
      .nil)
    (.cons (.ret (.and (.cmp .isin (.idx (.var 0) (.int 0)) (.str ("abcdefghijklmnopqrstuvwxyz" : Str))) (.bi .all (.cons (.lc (.cmp .isin (.var 1) (.str ("abcdefghijklmnopqrstuvwxyz0123456789" : Str))) (.name 1) (.of (.var 0)) [1]) .nil))))
    .nil))
def d_is_name : DefR := ⟨("is_name" : Str), ("is_name" : Str), topS 11, [("value" : Str), ("sign" : Str)], 1, c_is_name⟩
/-- is_ascending: 0 row, 1 at -/
def c_is_ascending : CB :=
    (.cons (.ret (.bi .all (.cons (.lc (.cmp .lt (.idx (.var 0) (.var 1)) (.idx (.var 0) (.bin .add (.var 1) (.int 1)))) (.name 1) (.rng1 (.bin .sub (.bi .len (.cons (.var 0) .nil)) (.int 1))) [1]) .nil)))
    .nil)
def d_is_ascending : DefR := ⟨("is_ascending" : Str), ("is_ascending" : Str), topS 12, [("row" : Str), ("at" : Str)], 1, c_is_ascending⟩
/-- write_values: 0 values, 1 words, 2 names, 3 times, 4 moment, 5 time -/
def c_write_values : CB :=
    (.cons (.set (.tup [2, 3]) (.var 0))
    (.cons (.set (.name 1) (.bin .add (.bi .list (.cons (.var 2) .nil)) (.lc (.fst (.cons (.var 4) (.cons (.str ("=" : Str)) (.cons (.var 5) .nil)))) (.tup [4, 5]) (.of (.var 3)) [4, 5])))
    (.cons (.ret (.tm1 .join (.str (" " : Str)) (.var 1)))
    .nil)))
def d_write_values : DefR := ⟨("write_values" : Str), ("write_values" : Str), topS 15, [("values" : Str), ("words" : Str), ("names" : Str), ("times" : Str), ("moment" : Str), ("time" : Str)], 1, c_write_values⟩
/-- _are_digits: 0 text, 1 most -/
def c_are_digits : CB :=
    (.cons (.cond (.or (.not (.tr (.tm .isascii (.var 0)))) (.or (.not (.tr (.tm .isdigit (.var 0)))) (.cmp .gt (.bi .len (.cons (.var 0) .nil)) (.var 1))))
      (.cons (.ret (.bool false))
    .nil)
      .nil)
    (.cons (.ret (.or (.cmp .eq (.var 0) (.str ("0" : Str))) (.cmp .ne (.idx (.var 0) (.int 0)) (.str ("0" : Str)))))
    .nil))
def d_are_digits : DefR := ⟨("_are_digits" : Str), ("_are_digits" : Str), topS 16, [("text" : Str), ("most" : Str)], 2, c_are_digits⟩
/-- read_integer: 0 text, 1 most -/
def c_read_integer : CB :=
    (.cons (.cond (.or (.cmp .eq (.var 0) (.str ("-0" : Str))) (.not (.tr (.call 3 (.cons (.fz (.tm1 .removeprefix (.var 0) (.str ("-" : Str)))) (.cons (.fz (.var 1)) .nil))))))
      (.cons (.ret .none)
    .nil)
      .nil)
    (.cons (.ret (.bi .int (.cons (.var 0) .nil)))
    .nil))
def d_read_integer : DefR := ⟨("read_integer" : Str), ("read_integer" : Str), topS 17, [("text" : Str), ("most" : Str)], 2, c_read_integer⟩
/-- read_values: 0 text, 1 names, 2 times, 3 words, 4 word, 5 time, 6 name, 7 sign, 8 number, 9 moment, 10 _ -/
def c_read_values : CB :=
    (.cons (.set (.name 1) (.lst .nil))
    (.cons (.set (.name 2) (.lst .nil))
    (.cons (.set (.name 3) (.ite (.cmp .eq (.var 0) (.str ("" : Str))) (.lst .nil) (.tm1 .split (.var 0) (.str (" " : Str)))))
    (.cons (.loop (.name 4) (.of (.var 3))
      (.cons (.set (.tup [6, 7, 8]) (.tm1 .partition (.var 4) (.str ("=" : Str))))
    (.cons (.set (.name 5) (.call 4 (.cons (.fz (.var 8)) (.cons (.fz (.int 200)) .nil))))
    (.cons (.cond (.or (.not (.tr (.call 0 (.cons (.fz (.var 6)) .nil)))) (.or (.and (.cmp .eq (.var 7) (.str ("=" : Str))) (.isN (.var 5))) (.and (.cmp .eq (.var 7) (.str ("" : Str))) (.cmp .ne (.var 2) (.lst .nil)))))
      (.cons (.raise 3 ("line" : Str) (.int 1))
    .nil)
      .nil)
    (.cons (.cond (.cmp .eq (.var 7) (.str ("=" : Str)))
      (.cons (.exp (.mt .append 2 (.cons (.tup (.cons (.var 6) (.cons (.var 5) .nil))) .nil)))
    .nil)
      (.cons (.exp (.mt .append 1 (.cons (.var 6) .nil)))
    .nil))
    .nil)))))
    (.cons (.cond (.or (.not (.tr (.call 1 (.cons (.var 1) .nil)))) (.not (.tr (.call 1 (.cons (.fz (.lc (.var 9) (.tup [9, 10]) (.of (.var 2)) [9, 10])) .nil)))))
      (.cons (.raise 3 ("line" : Str) (.int 1))
    .nil)
      .nil)
    (.cons (.ret (.tup (.cons (.bi .tuple (.cons (.var 1) .nil)) (.cons (.bi .tuple (.cons (.var 2) .nil)) .nil))))
    .nil))))))
def d_read_values : DefR := ⟨("read_values" : Str), ("read_values" : Str), topS 18, [("text" : Str), ("names" : Str), ("times" : Str), ("words" : Str), ("word" : Str), ("time" : Str), ("name" : Str), ("sign" : Str), ("number" : Str), ("moment" : Str), ("_" : Str)], 1, c_read_values⟩
/-- _law_bag: 0 script -/
def c_l_bag : CB :=
    (.cons (.ret (.lst (.cons (.bi .list (.cons (.var 0) .nil)) (.cons (.int 0) (.cons (.int 0) (.cons (.int 1) (.cons (.int 0) .nil)))))))
    .nil)
def d_l_bag : DefR := ⟨("_law_bag" : Str), ("_law_bag" : Str), topS 20, [("_law_script" : Str)], 1, c_l_bag⟩
/-- _law_take: 0 bag_here, 1 size, 2 cell, 3 draw -/
def c_l_take : CB :=
    (.cons (.cond (.and (.cmp .eq (.idx (.var 0) (.int 2)) (.int 0)) (.cmp .lt (.idx (.var 0) (.int 1)) (.bi .len (.cons (.idx (.var 0) (.int 0)) .nil))))
      (.cons (.set (.name 2) (.bi .abs (.cons (.idx (.idx (.var 0) (.int 0)) (.idx (.var 0) (.int 1))) .nil)))
    (.cons (.setI 0 (.int 1) (.bin .add (.idx (.var 0) (.int 1)) (.int 1)))
    (.cons (.setI 0 (.int 3) (.bin .mod (.bi .int (.cons (.bin .add (.bin .add (.bin .mul (.idx (.var 0) (.int 3)) (.int 48271)) (.bin .mod (.bi .int (.cons (.var 2) .nil)) (.int 2147483629))) (.int 1)) .nil)) (.int 2147483647)))
    (.cons (.cond (.cmp .ge (.var 2) (.bin .pow (.int 10) (.int 18)))
      (.cons (.setI 0 (.int 2) (.bin .sub (.var 2) (.bin .pow (.int 10) (.int 18))))
    .nil)
      .nil)
    .nil))))
      .nil)
    (.cons (.cond (.cmp .gt (.idx (.var 0) (.int 2)) (.int 0))
      (.cons (.set (.name 3) (.bin .mod (.bi .int (.cons (.idx (.var 0) (.int 2)) .nil)) (.var 1)))
    (.cons (.setI 0 (.int 2) (.bin .fdiv (.idx (.var 0) (.int 2)) (.var 1)))
    (.cons (.ret (.var 3))
    .nil)))
      .nil)
    (.cons (.setI 0 (.int 4) (.bin .add (.idx (.var 0) (.int 4)) (.int 1)))
    (.cons (.setI 0 (.int 3) (.bin .mod (.bi .int (.cons (.bin .add (.bin .add (.bin .mul (.idx (.var 0) (.int 3)) (.int 69621)) (.bin .mul (.idx (.var 0) (.int 4)) (.int 40503))) (.int 7)) .nil)) (.int 2147483647)))
    (.cons (.ret (.bin .mod (.bin .fdiv (.bi .int (.cons (.bin .add (.bin .fdiv (.idx (.var 0) (.int 3)) (.int 31)) (.bin .mod (.bi .int (.cons (.bin .mul (.idx (.var 0) (.int 3)) (.int 7919)) .nil)) (.int 2147483629))) .nil)) (.int 16)) (.var 1)))
    .nil)))))
def d_l_take : DefR := ⟨("_law_take" : Str), ("_law_take" : Str), topS 21, [("_law_bag_here" : Str), ("_law_size" : Str), ("_law_cell" : Str), ("_law_draw" : Str)], 2, c_l_take⟩
/-- _law_names: 0 bag_here, 1 many, 2 letters, 3 signs, 4 found, 5 k, 6 name, 7 at, 8 j, 9 sign_here -/
def c_l_names : CB :=
    (.cons (.set (.name 2) (.str ("abcdefghijklmnopqrstuvwxyz" : Str)))
    (.cons (.set (.name 3) (.bin .add (.var 2) (.str ("0123456789" : Str))))
    (.cons (.set (.name 4) (.lst .nil))
    (.cons (.loop (.name 5) (.rng1 (.var 1))
      (.cons (.cond (.and (.cmp .gt (.var 5) (.int 0)) (.cmp .eq (.call 7 (.cons (.var 0) (.cons (.int 2) .nil))) (.int 1)))
      (.cons (.set (.name 6) (.idx (.var 4) (.call 7 (.cons (.var 0) (.cons (.fz (.var 5)) .nil)))))
    (.cons (.set (.name 7) (.call 7 (.cons (.var 0) (.cons (.int 9) .nil))))
    (.cons (.cond (.cmp .eq (.var 7) (.int 0))
      (.cons (.set (.name 6) (.bin .add (.idx (.var 2) (.call 7 (.cons (.var 0) (.cons (.int 26) .nil)))) (.sli (.var 6) (.yes (.int 1)) .no)))
    .nil)
      (.cons (.cond (.cmp .lt (.var 7) (.bi .len (.cons (.var 6) .nil)))
      (.cons (.set (.name 6) (.bin .add (.bin .add (.sli (.var 6) .no (.yes (.var 7))) (.idx (.var 3) (.call 7 (.cons (.var 0) (.cons (.int 36) .nil))))) (.sli (.var 6) (.yes (.bin .add (.var 7) (.int 1))) .no)))
    .nil)
      (.cons (.cond (.cmp .lt (.bi .len (.cons (.var 6) .nil)) (.int 8))
      (.cons (.set (.name 6) (.bin .add (.var 6) (.idx (.var 3) (.call 7 (.cons (.var 0) (.cons (.int 36) .nil))))))
    .nil)
      .nil)
    .nil))
    .nil))
    .nil)))
      (.cons (.set (.name 6) (.idx (.var 2) (.call 7 (.cons (.var 0) (.cons (.int 26) .nil)))))
    (.cons (.loop (.name 8) (.rng1 (.bin .mul (.call 7 (.cons (.var 0) (.cons (.int 2) .nil))) (.call 7 (.cons (.var 0) (.cons (.int 8) .nil)))))
      (.cons (.set (.name 6) (.bin .add (.var 6) (.idx (.var 3) (.call 7 (.cons (.var 0) (.cons (.int 36) .nil))))))
    .nil))
    .nil)))
    (.cons (.cond (.cmp .isin (.var 6) (.var 4))
      (.cons (.set (.name 6) (.idx (.lcIf (.var 9) (.name 9) (.of (.var 2)) (.cmp .notin (.var 9) (.var 4)) [9]) (.int 0)))
    .nil)
      .nil)
    (.cons (.exp (.mt .append 4 (.cons (.var 6) .nil)))
    .nil))))
    (.cons (.ret (.var 4))
    .nil)))))
def d_l_names : DefR := ⟨("_law_names" : Str), ("_law_names" : Str), topS 22, [("_law_bag_here" : Str), ("_law_many" : Str), ("_law_letters" : Str), ("_law_signs" : Str), ("_law_found" : Str), ("_law_k" : Str), ("_law_name" : Str), ("_law_at" : Str), ("_law_j" : Str), ("_law_sign_here" : Str)], 2, c_l_names⟩
/-- _law_integer: 0 bag_here, 1 way, 2 great -/
def c_l_integer : CB :=
    (.cons (.set (.name 1) (.call 7 (.cons (.var 0) (.cons (.int 8) .nil))))
    (.cons (.cond (.cmp .eq (.var 1) (.int 0))
      (.cons (.set (.name 2) (.bin .add (.bin .mul (.call 7 (.cons (.var 0) (.cons (.fz (.bin .pow (.int 10) (.int 50))) .nil))) (.bin .pow (.int 10) (.int 45))) (.call 7 (.cons (.var 0) (.cons (.fz (.bin .pow (.int 10) (.int 45))) .nil)))))
    (.cons (.ret (.bin .mul (.var 2) (.bin .sub (.int 1) (.bin .mul (.int 2) (.call 7 (.cons (.var 0) (.cons (.int 2) .nil)))))))
    .nil))
      .nil)
    (.cons (.cond (.cmp .eq (.var 1) (.int 1))
      (.cons (.ret (.bin .sub (.call 7 (.cons (.var 0) (.cons (.int 2000001) .nil))) (.int 1000000)))
    .nil)
      .nil)
    (.cons (.ret (.bin .sub (.call 7 (.cons (.var 0) (.cons (.int 9) .nil))) (.int 4)))
    .nil))))
def d_l_integer : DefR := ⟨("_law_integer" : Str), ("_law_integer" : Str), topS 23, [("_law_bag_here" : Str), ("_law_way" : Str), ("_law_great" : Str)], 1, c_l_integer⟩
/-- _law_same: 0 actual, 1 due, 2 k -/
def c_l_same : CB :=
    (.cons (.cond (.tr (.isa (.var 1) [.tuple]))
      (.cons (.cond (.or (.not (.tr (.isa (.var 0) [.tuple]))) (.cmp .ne (.bi .len (.cons (.var 0) .nil)) (.bi .len (.cons (.var 1) .nil))))
      (.cons (.ret (.bool false))
    .nil)
      .nil)
    (.cons (.loop (.name 2) (.rng1 (.bi .len (.cons (.var 1) .nil)))
      (.cons (.cond (.not (.tr (.call 10 (.cons (.fz (.idx (.var 0) (.var 2))) (.cons (.fz (.idx (.var 1) (.var 2))) .nil)))))
      (.cons (.ret (.bool false))
    .nil)
      .nil)
    .nil))
    (.cons (.ret (.bool true))
    .nil)))
      .nil)
    (.cons (.cond (.tr (.isa (.var 1) [.str]))
      (.cons (.ret (.and (.isa (.var 0) [.str]) (.cmp .eq (.var 0) (.var 1))))
    .nil)
      .nil)
    (.cons (.ret (.and (.isa (.var 0) [.int]) (.and (.not (.isa (.var 0) [.bool])) (.cmp .eq (.var 0) (.var 1)))))
    .nil)))
def d_l_same : DefR := ⟨("_law_same" : Str), ("_law_same" : Str), topS 24, [("_law_actual" : Str), ("_law_due" : Str), ("_law_k" : Str)], 2, c_l_same⟩
/-- _law_is_name: 0 text_here, 1 letters, 2 sign_here -/
def c_l_is_name : CB :=
    (.cons (.set (.name 1) (.str ("abcdefghijklmnopqrstuvwxyz" : Str)))
    (.cons (.cond (.or (.cmp .lt (.bi .len (.cons (.var 0) .nil)) (.int 1)) (.or (.cmp .gt (.bi .len (.cons (.var 0) .nil)) (.int 8)) (.cmp .notin (.idx (.var 0) (.int 0)) (.var 1))))
      (.cons (.ret (.bool false))
    .nil)
      .nil)
    (.cons (.loop (.name 2) (.of (.var 0))
      (.cons (.cond (.cmp .notin (.var 2) (.bin .add (.var 1) (.str ("0123456789" : Str))))
      (.cons (.ret (.bool false))
    .nil)
      .nil)
    .nil))
    (.cons (.ret (.bool true))
    .nil))))
def d_l_is_name : DefR := ⟨("_law_is_name" : Str), ("_law_is_name" : Str), topS 25, [("_law_text_here" : Str), ("_law_letters" : Str), ("_law_sign_here" : Str)], 1, c_l_is_name⟩
/-- _law_number: 0 text_here, 1 digits_here, 2 sign_here -/
def c_l_number : CB :=
    (.cons (.set (.name 1) (.var 0))
    (.cons (.cond (.cmp .eq (.sli (.var 0) .no (.yes (.int 1))) (.str ("-" : Str)))
      (.cons (.set (.name 1) (.sli (.var 0) (.yes (.int 1)) .no))
    .nil)
      .nil)
    (.cons (.cond (.or (.cmp .eq (.var 1) (.str ("" : Str))) (.or (.cmp .gt (.bi .len (.cons (.var 1) .nil)) (.int 200)) (.and (.cmp .eq (.idx (.var 1) (.int 0)) (.str ("0" : Str))) (.cmp .ne (.var 0) (.str ("0" : Str))))))
      (.cons (.ret .none)
    .nil)
      .nil)
    (.cons (.loop (.name 2) (.of (.var 1))
      (.cons (.cond (.cmp .notin (.var 2) (.str ("0123456789" : Str)))
      (.cons (.ret .none)
    .nil)
      .nil)
    .nil))
    (.cons (.ret (.bi .int (.cons (.var 0) .nil)))
    .nil)))))
def d_l_number : DefR := ⟨("_law_number" : Str), ("_law_number" : Str), topS 26, [("_law_text_here" : Str), ("_law_digits_here" : Str), ("_law_sign_here" : Str)], 1, c_l_number⟩
/-- _law_values_of: 0 text_here, 1 names_here, 2 pairs, 3 word, 4 parts, 5 number_here -/
def c_l_values_of : CB :=
    (.cons (.set (.name 1) (.lst .nil))
    (.cons (.set (.name 2) (.lst .nil))
    (.cons (.cond (.cmp .eq (.var 0) (.str ("" : Str)))
      (.cons (.ret (.tup (.cons (.tup .nil) (.cons (.tup .nil) .nil))))
    .nil)
      .nil)
    (.cons (.loop (.name 3) (.of (.tm1 .split (.var 0) (.str (" " : Str))))
      (.cons (.set (.name 4) (.tm1 .split (.var 3) (.str ("=" : Str))))
    (.cons (.cond (.or (.not (.tr (.call 11 (.cons (.fz (.idx (.var 4) (.int 0))) .nil)))) (.cmp .gt (.bi .len (.cons (.var 4) .nil)) (.int 2)))
      (.cons (.ret .none)
    .nil)
      .nil)
    (.cons (.cond (.cmp .eq (.bi .len (.cons (.var 4) .nil)) (.int 1))
      (.cons (.cond (.or (.tr (.var 2)) (.and (.tr (.var 1)) (.cmp .le (.var 3) (.idx (.var 1) (.neg (.int 1))))))
      (.cons (.ret .none)
    .nil)
      .nil)
    (.cons (.exp (.mt .append 1 (.cons (.var 3) .nil)))
    .nil))
      (.cons (.set (.name 5) (.call 12 (.cons (.fz (.idx (.var 4) (.int 1))) .nil)))
    (.cons (.cond (.or (.isN (.var 5)) (.and (.tr (.var 2)) (.cmp .le (.idx (.var 4) (.int 0)) (.idx (.idx (.var 2) (.neg (.int 1))) (.int 0)))))
      (.cons (.ret .none)
    .nil)
      .nil)
    (.cons (.exp (.mt .append 2 (.cons (.tup (.cons (.idx (.var 4) (.int 0)) (.cons (.var 5) .nil))) .nil)))
    .nil))))
    .nil))))
    (.cons (.ret (.tup (.cons (.bi .tuple (.cons (.var 1) .nil)) (.cons (.bi .tuple (.cons (.var 2) .nil)) .nil))))
    .nil)))))
def d_l_values_of : DefR := ⟨("_law_values_of" : Str), ("_law_values_of" : Str), topS 27, [("_law_text_here" : Str), ("_law_names_here" : Str), ("_law_pairs" : Str), ("_law_word" : Str), ("_law_parts" : Str), ("_law_number_here" : Str)], 1, c_l_values_of⟩
/-- _law_text: 0 given, 1 words, 2 pair -/
def c_l_text : CB :=
    (.cons (.set (.name 1) (.bi .list (.cons (.idx (.var 0) (.int 0)) .nil)))
    (.cons (.loop (.name 2) (.of (.idx (.var 0) (.int 1)))
      (.cons (.exp (.mt .append 1 (.cons (.bin .add (.bin .add (.idx (.var 2) (.int 0)) (.str ("=" : Str))) (.bi .str (.cons (.idx (.var 2) (.int 1)) .nil))) .nil)))
    .nil))
    (.cons (.ret (.tm1 .join (.str (" " : Str)) (.var 1)))
    .nil)))
def d_l_text : DefR := ⟨("_law_text" : Str), ("_law_text" : Str), topS 28, [("_law_given" : Str), ("_law_words" : Str), ("_law_pair" : Str)], 1, c_l_text⟩
/-- _law_sign: 0 bag_here, 1 few, 2 signs -/
def c_l_sign : CB :=
    (.cons (.set (.name 1) (.str ("~|!-<= \n01ab" : Str)))
    (.cons (.set (.name 2) (.str (" !\"#$&'()*+,-./0123456789:;<=>?@ABCDEFGHIJKLMNOPQRSTUVWXYZ[\\]^_`" : Str)))
    (.cons (.set (.name 2) (.bin .add (.var 2) (.str ("abcdefghijklmnopqrstuvwxyz{|}~\n\t" : Str))))
    (.cons (.cond (.cmp .eq (.call 7 (.cons (.var 0) (.cons (.int 2) .nil))) (.int 0))
      (.cons (.ret (.idx (.var 1) (.call 7 (.cons (.var 0) (.cons (.fz (.bi .len (.cons (.var 1) .nil))) .nil)))))
    .nil)
      .nil)
    (.cons (.ret (.idx (.var 2) (.call 7 (.cons (.var 0) (.cons (.fz (.bi .len (.cons (.var 2) .nil))) .nil)))))
    .nil)))))
def d_l_sign : DefR := ⟨("_law_sign" : Str), ("_law_sign" : Str), topS 29, [("_law_bag_here" : Str), ("_law_few" : Str), ("_law_signs" : Str)], 1, c_l_sign⟩
/-- _law_bent: 0 bag_here, 1 text_here, 2 most, 3 k, 4 at, 5 way, 6 sign_here -/
def c_l_bent : CB :=
    (.cons (.loop (.name 3) (.rng1 (.call 7 (.cons (.var 0) (.cons (.fz (.bin .add (.var 2) (.int 1))) .nil))))
      (.cons (.set (.name 4) (.call 7 (.cons (.var 0) (.cons (.fz (.bin .add (.bi .len (.cons (.var 1) .nil)) (.int 1))) .nil))))
    (.cons (.set (.name 5) (.call 7 (.cons (.var 0) (.cons (.int 3) .nil))))
    (.cons (.set (.name 6) (.call 15 (.cons (.var 0) .nil)))
    (.cons (.cond (.cmp .eq (.var 5) (.int 0))
      (.cons (.set (.name 1) (.bin .add (.bin .add (.sli (.var 1) .no (.yes (.var 4))) (.var 6)) (.sli (.var 1) (.yes (.var 4)) .no)))
    .nil)
      (.cons (.cond (.cmp .eq (.var 5) (.int 1))
      (.cons (.set (.name 1) (.bin .add (.sli (.var 1) .no (.yes (.var 4))) (.sli (.var 1) (.yes (.bin .add (.var 4) (.int 1))) .no)))
    .nil)
      (.cons (.set (.name 1) (.bin .add (.bin .add (.sli (.var 1) .no (.yes (.var 4))) (.var 6)) (.sli (.var 1) (.yes (.bin .add (.var 4) (.int 1))) .no)))
    .nil))
    .nil))
    .nil)))))
    (.cons (.ret (.var 1))
    .nil))
def d_l_bent : DefR := ⟨("_law_bent" : Str), ("_law_bent" : Str), topS 30, [("_law_bag_here" : Str), ("_law_text_here" : Str), ("_law_most" : Str), ("_law_k" : Str), ("_law_at" : Str), ("_law_way" : Str), ("_law_sign_here" : Str)], 3, c_l_bent⟩
/-- _law_free: 0 bag_here, 1 most, 2 text_here, 3 k -/
def c_l_free : CB :=
    (.cons (.set (.name 2) (.str ("" : Str)))
    (.cons (.loop (.name 3) (.rng1 (.call 7 (.cons (.var 0) (.cons (.fz (.bin .add (.var 1) (.int 1))) .nil))))
      (.cons (.set (.name 2) (.bin .add (.var 2) (.call 15 (.cons (.var 0) .nil))))
    .nil))
    (.cons (.ret (.var 2))
    .nil)))
def d_l_free : DefR := ⟨("_law_free" : Str), ("_law_free" : Str), topS 31, [("_law_bag_here" : Str), ("_law_most" : Str), ("_law_text_here" : Str), ("_law_k" : Str)], 2, c_l_free⟩
/-- _law_digits: 0 bag_here, 1 many, 2 tail -/
def c_l_digits : CB :=
    (.cons (.set (.name 1) (.idx (.lst (.cons (.int 1) (.cons (.int 2) (.cons (.int 99) (.cons (.int 100) (.cons (.int 199) (.cons (.int 200) (.cons (.int 201) (.cons (.int 202) (.cons (.int 300) .nil)))))))))) (.call 7 (.cons (.var 0) (.cons (.int 9) .nil)))))
    (.cons (.set (.name 2) (.sli (.bi .str (.cons (.bin .add (.bin .pow (.int 10) (.int 40)) (.call 7 (.cons (.var 0) (.cons (.fz (.bin .pow (.int 10) (.int 40))) .nil)))) .nil)) (.yes (.int 1)) .no))
    (.cons (.ret (.bin .add (.idx (.lst (.cons (.str ("" : Str)) (.cons (.str ("-" : Str)) .nil))) (.call 7 (.cons (.var 0) (.cons (.int 2) .nil)))) (.sli (.bin .add (.bi .str (.cons (.call 7 (.cons (.var 0) (.cons (.int 10) .nil))) .nil)) (.bin .mul (.var 2) (.int 8))) .no (.yes (.var 1)))))
    .nil)))
def d_l_digits : DefR := ⟨("_law_digits" : Str), ("_law_digits" : Str), topS 32, [("_law_bag_here" : Str), ("_law_many" : Str), ("_law_tail" : Str)], 1, c_l_digits⟩
/-- _law_own: 0 e -/
def c_l_own : CB :=
    (.cons (.cond (.or (.tr (.xis 0 ("InvalidName" : Str) [0] [1, 2, 3, 4])) (.or (.tr (.xis 0 ("InvalidLiteral" : Str) [1] [0, 2, 3, 4])) (.tr (.xis 0 ("InvalidClause" : Str) [2] [0, 1, 3, 4]))))
      (.cons (.ret (.bool false))
    .nil)
      .nil)
    (.cons (.cond (.tr (.xis 0 ("UnknownMoment" : Str) [4] [0, 1, 2, 3]))
      (.cons (.ret (.bool false))
    .nil)
      .nil)
    (.cons (.ret (.and (.xis 0 ("RingclauseError" : Str) [0, 1, 2, 3, 4] []) (.xis 0 ("ValueError" : Str) [0, 1, 2, 3, 4] [])))
    .nil)))
def d_l_own : DefR := ⟨("_law_own" : Str), ("_law_own" : Str), topS 33, [("_law_e" : Str)], 1, c_l_own⟩
/-- _law_read: 0 text_here, 1 due, 2 e, 3 actual -/
def c_l_read : CB :=
    (.cons (.set (.name 1) (.call 13 (.cons (.fz (.var 0)) .nil)))
    (.cons (.tryx (.cons (.set (.name 3) (.call 5 (.cons (.fz (.var 0)) .nil)))
    .nil) ("InvalidText" : Str) [3] [0, 1, 2, 4] 2
      (.cons (.ret (.and (.isN (.var 1)) (.and (.call 19 (.cons (.var 2) .nil)) (.call 10 (.cons (.fz (.xf 2 ("line" : Str))) (.cons (.int 1) .nil))))))
    .nil))
    (.cons (.ret (.and (.notN (.var 1)) (.call 10 (.cons (.fz (.var 3)) (.cons (.fz (.var 1)) .nil)))))
    .nil)))
def d_l_read : DefR := ⟨("_law_read" : Str), ("_law_read" : Str), topS 34, [("_law_text_here" : Str), ("_law_due" : Str), ("_law_e" : Str), ("_law_actual" : Str)], 1, c_l_read⟩
/-- _law_values: 0 bag_here, 1 names_here, 2 pairs, 3 pool, 4 name, 5 way -/
def c_l_values : CB :=
    (.cons (.set (.name 1) (.lst .nil))
    (.cons (.set (.name 2) (.lst .nil))
    (.cons (.set (.name 3) (.call 8 (.cons (.var 0) (.cons (.fz (.bin .add (.int 1) (.call 7 (.cons (.var 0) (.cons (.int 12) .nil))))) .nil))))
    (.cons (.cond (.cmp .eq (.call 7 (.cons (.var 0) (.cons (.int 8) .nil))) (.int 0))
      (.cons (.ret (.tup (.cons (.tup .nil) (.cons (.tup .nil) .nil))))
    .nil)
      .nil)
    (.cons (.loop (.name 4) (.of (.bi .sorted (.cons (.var 3) .nil)))
      (.cons (.set (.name 5) (.call 7 (.cons (.var 0) (.cons (.int 5) .nil))))
    (.cons (.cond (.or (.cmp .eq (.var 5) (.int 0)) (.or (.cmp .eq (.var 5) (.int 1)) (.cmp .eq (.var 5) (.int 3))))
      (.cons (.exp (.mt .append 1 (.cons (.var 4) .nil)))
    .nil)
      .nil)
    (.cons (.cond (.and (.cmp .gt (.var 5) (.int 0)) (.and (.cmp .lt (.var 5) (.int 4)) (.cmp .isin (.var 4) (.sli (.var 3) .no (.yes (.int 5))))))
      (.cons (.exp (.mt .append 2 (.cons (.tup (.cons (.var 4) (.cons (.call 9 (.cons (.var 0) .nil)) .nil))) .nil)))
    .nil)
      .nil)
    .nil))))
    (.cons (.ret (.tup (.cons (.bi .tuple (.cons (.var 1) .nil)) (.cons (.bi .tuple (.cons (.var 2) .nil)) .nil))))
    .nil))))))
def d_l_values : DefR := ⟨("_law_values" : Str), ("_law_values" : Str), topS 35, [("_law_bag_here" : Str), ("_law_names_here" : Str), ("_law_pairs" : Str), ("_law_pool" : Str), ("_law_name" : Str), ("_law_way" : Str)], 1, c_l_values⟩
/-- _law_exchanged: 0 bag_here, 1 text_here, 2 words, 3 one, 4 two, 5 word -/
def c_l_exchanged : CB :=
    (.cons (.set (.name 2) (.tm1 .split (.var 1) (.str (" " : Str))))
    (.cons (.set (.name 3) (.call 7 (.cons (.var 0) (.cons (.fz (.bi .len (.cons (.var 2) .nil))) .nil))))
    (.cons (.set (.name 4) (.call 7 (.cons (.var 0) (.cons (.fz (.bi .len (.cons (.var 2) .nil))) .nil))))
    (.cons (.set (.name 5) (.idx (.var 2) (.var 3)))
    (.cons (.setI 2 (.var 3) (.idx (.var 2) (.var 4)))
    (.cons (.setI 2 (.var 4) (.var 5))
    (.cons (.ret (.tm1 .join (.str (" " : Str)) (.var 2)))
    .nil)))))))
def d_l_exchanged : DefR := ⟨("_law_exchanged" : Str), ("_law_exchanged" : Str), topS 36, [("_law_bag_here" : Str), ("_law_text_here" : Str), ("_law_words" : Str), ("_law_one" : Str), ("_law_two" : Str), ("_law_word" : Str)], 2, c_l_exchanged⟩
/-- _law_doubled: 0 bag_here, 1 text_here, 2 words, 3 word, 4 at -/
def c_l_doubled : CB :=
    (.cons (.set (.name 2) (.tm1 .split (.var 1) (.str (" " : Str))))
    (.cons (.set (.name 3) (.idx (.var 2) (.call 7 (.cons (.var 0) (.cons (.fz (.bi .len (.cons (.var 2) .nil))) .nil)))))
    (.cons (.set (.name 4) (.call 7 (.cons (.var 0) (.cons (.fz (.bin .add (.bi .len (.cons (.var 2) .nil)) (.int 1))) .nil))))
    (.cons (.ret (.tm1 .join (.str (" " : Str)) (.bin .add (.bin .add (.sli (.var 2) .no (.yes (.var 4))) (.lst (.cons (.var 3) .nil))) (.sli (.var 2) (.yes (.var 4)) .no))))
    .nil))))
def d_l_doubled : DefR := ⟨("_law_doubled" : Str), ("_law_doubled" : Str), topS 37, [("_law_bag_here" : Str), ("_law_text_here" : Str), ("_law_words" : Str), ("_law_word" : Str), ("_law_at" : Str)], 2, c_l_doubled⟩
/-- _law_near: 0 bag_here, 1 text_here, 2 pool, 3 x, 4 y, 5 menu -/
def c_l_near : CB :=
    (.cons (.set (.name 2) (.call 8 (.cons (.var 0) (.cons (.int 2) .nil))))
    (.cons (.set (.name 3) (.idx (.var 2) (.int 0)))
    (.cons (.set (.name 4) (.idx (.var 2) (.int 1)))
    (.cons (.set (.name 5) (.lst (.cons (.str ("" : Str)) (.cons (.str (" " : Str)) (.cons (.str ("=" : Str)) (.cons (.str ("=1" : Str)) (.cons (.str ("!" : Str)) (.cons (.bin .add (.str ("~" : Str)) (.var 3)) (.cons (.bin .add (.var 3) (.str ("=" : Str))) (.cons (.bin .add (.var 3) (.str ("==1" : Str))) (.cons (.bin .add (.var 3) (.str ("=-0" : Str))) (.cons (.bin .add (.var 3) (.str ("=00" : Str))) (.cons (.bin .add (.var 3) (.str ("=01" : Str))) .nil)))))))))))))
    (.cons (.set (.name 5) (.bin .add (.var 5) (.lst (.cons (.bin .add (.var 3) (.str ("=-01" : Str))) (.cons (.bin .add (.var 3) (.str ("=+1" : Str))) (.cons (.bin .add (.var 3) (.str ("= 1" : Str))) (.cons (.bin .add (.var 3) (.str (" =1" : Str))) (.cons (.bin .add (.var 3) (.str ("=--1" : Str))) (.cons (.bin .add (.var 3) (.str ("=1_0" : Str))) (.cons (.bin .add (.var 3) (.str ("=1.0" : Str))) .nil))))))))))
    (.cons (.set (.name 5) (.bin .add (.var 5) (.lst (.cons (.bin .add (.var 3) (.str ("=1=1" : Str))) (.cons (.bin .add (.bin .add (.var 3) (.str ("=" : Str))) (.var 4)) (.cons (.bin .add (.bin .add (.bin .add (.var 3) (.str ("=1 " : Str))) (.var 3)) (.str ("=1" : Str))) (.cons (.bin .add (.bin .add (.bin .add (.var 3) (.str ("=1 " : Str))) (.var 3)) (.str ("=2" : Str))) (.cons (.bin .add (.bin .add (.var 3) (.str (" " : Str))) (.var 3)) .nil))))))))
    (.cons (.set (.name 5) (.bin .add (.var 5) (.lst (.cons (.bin .add (.bin .add (.var 3) (.str ("=1 " : Str))) (.var 3)) (.cons (.bin .add (.bin .add (.var 3) (.str ("=1 " : Str))) (.var 4)) (.cons (.bin .add (.bin .add (.bin .add (.var 3) (.str (" " : Str))) (.var 3)) (.str ("=1" : Str))) (.cons (.bin .add (.bin .add (.var 3) (.str (" " : Str))) (.var 4)) (.cons (.bin .add (.bin .add (.var 4) (.str (" " : Str))) (.var 3)) (.cons (.bin .add (.bin .add (.var 3) (.str ("  " : Str))) (.var 4)) .nil)))))))))
    (.cons (.set (.name 5) (.bin .add (.var 5) (.lst (.cons (.bin .add (.bin .add (.bin .add (.var 3) (.str ("=0 " : Str))) (.var 4)) (.str ("=0" : Str))) (.cons (.bin .add (.bin .add (.bin .add (.var 4) (.str ("=0 " : Str))) (.var 3)) (.str ("=0" : Str))) (.cons (.bin .add (.bin .add (.bin .add (.var 3) (.str ("=1," : Str))) (.var 4)) (.str ("=1" : Str))) (.cons (.bin .add (.bin .add (.bin .add (.var 3) (.str ("=1  " : Str))) (.var 4)) (.str ("=1" : Str))) .nil)))))))
    (.cons (.set (.name 5) (.bin .add (.var 5) (.lst (.cons (.bin .add (.var 1) (.str (" " : Str))) (.cons (.bin .add (.str (" " : Str)) (.var 1)) (.cons (.bin .add (.var 1) (.str ("\n" : Str))) (.cons (.bin .add (.var 1) (.str ("\t" : Str))) (.cons (.bin .add (.str ("\n" : Str)) (.var 1)) (.cons (.bin .add (.bin .add (.var 1) (.str (" " : Str))) (.var 1)) .nil)))))))))
    (.cons (.set (.name 5) (.bin .add (.var 5) (.lst (.cons (.bin .add (.var 1) (.str ("=1" : Str))) (.cons (.bin .add (.var 1) (.str (" !" : Str))) (.cons (.bin .add (.var 1) (.str (" |" : Str))) (.cons (.tm .upper (.var 3)) (.cons (.bin .add (.tm .upper (.var 3)) (.str ("=1" : Str))) (.cons (.bin .add (.str ("1" : Str)) (.var 3)) (.cons (.bin .add (.var 3) (.str ("_" : Str))) .nil))))))))))
    (.cons (.set (.name 5) (.bin .add (.var 5) (.lst (.cons (.sli (.bin .add (.var 3) (.str ("abcdefgh" : Str))) .no (.yes (.int 9))) (.cons (.bin .add (.sli (.bin .add (.var 3) (.str ("abcdefgh" : Str))) .no (.yes (.int 9))) (.str ("=1" : Str))) (.cons (.bin .add (.bin .add (.str ("1" : Str)) (.var 3)) (.str ("=1" : Str))) (.cons (.bin .add (.var 3) (.str ("=1 -" : Str))) .nil)))))))
    (.cons (.set (.name 5) (.bin .add (.var 5) (.lst (.cons (.bin .add (.var 3) (.str ("=True" : Str))) (.cons (.bin .add (.var 3) (.str ("=0x1" : Str))) (.cons (.bin .add (.var 3) (.str (":1" : Str))) (.cons (.bin .add (.bin .add (.bin .add (.var 3) (.str ("=1 " : Str))) (.var 4)) (.str ("=-0" : Str))) (.cons (.bin .add (.bin .add (.bin .add (.var 3) (.str (" " : Str))) (.var 4)) (.str ("=" : Str))) .nil))))))))
    (.cons (.ret (.idx (.var 5) (.call 7 (.cons (.var 0) (.cons (.fz (.bi .len (.cons (.var 5) .nil))) .nil)))))
    .nil)))))))))))))
def d_l_near : DefR := ⟨("_law_near" : Str), ("_law_near" : Str), topS 38, [("_law_bag_here" : Str), ("_law_text_here" : Str), ("_law_pool" : Str), ("_law_x" : Str), ("_law_y" : Str), ("_law_menu" : Str)], 2, c_l_near⟩
/-- law: 0 script, 1 bag_here, 2 given, 3 text_here, 4 name -/
def c_law : CB :=
    (.cons (.set (.name 1) (.call 6 (.cons (.fz (.var 0)) .nil)))
    (.cons (.set (.name 2) (.call 21 (.cons (.var 1) .nil)))
    (.cons (.set (.name 3) (.call 14 (.cons (.fz (.var 2)) .nil)))
    (.cons (.cond (.or (.not (.tr (.call 10 (.cons (.fz (.call 2 (.cons (.fz (.var 2)) .nil))) (.cons (.fz (.var 3)) .nil))))) (.not (.tr (.call 20 (.cons (.fz (.var 3)) .nil)))))
      (.cons (.ret (.bool false))
    .nil)
      .nil)
    (.cons (.cond (.or (.not (.tr (.call 20 (.cons (.fz (.call 22 (.cons (.var 1) (.cons (.fz (.var 3)) .nil)))) .nil)))) (.not (.tr (.call 20 (.cons (.fz (.call 23 (.cons (.var 1) (.cons (.fz (.var 3)) .nil)))) .nil)))))
      (.cons (.ret (.bool false))
    .nil)
      .nil)
    (.cons (.cond (.or (.not (.tr (.call 20 (.cons (.fz (.call 16 (.cons (.var 1) (.cons (.fz (.var 3)) (.cons (.int 3) .nil))))) .nil)))) (.not (.tr (.call 20 (.cons (.fz (.call 24 (.cons (.var 1) (.cons (.fz (.var 3)) .nil)))) .nil)))))
      (.cons (.ret (.bool false))
    .nil)
      .nil)
    (.cons (.set (.name 4) (.idx (.call 8 (.cons (.var 1) (.cons (.int 1) .nil))) (.int 0)))
    (.cons (.ret (.and (.call 20 (.cons (.fz (.bin .add (.bin .add (.var 4) (.str ("=" : Str))) (.call 18 (.cons (.var 1) .nil)))) .nil)) (.call 20 (.cons (.fz (.call 17 (.cons (.var 1) (.cons (.int 24) .nil)))) .nil))))
    .nil))))))))
def d_law : DefR := ⟨("law" : Str), ("law" : Str), topS 39, [("_law_script" : Str), ("_law_bag_here" : Str), ("_law_given" : Str), ("_law_text_here" : Str), ("_law_name" : Str)], 1, c_law⟩
def defs : List DefR := [d_is_name, d_is_ascending, d_write_values, d_are_digits, d_read_integer, d_read_values, d_l_bag, d_l_take, d_l_names, d_l_integer, d_l_same, d_l_is_name, d_l_number, d_l_values_of, d_l_text, d_l_sign, d_l_bent, d_l_free, d_l_digits, d_l_own, d_l_read, d_l_values, d_l_exchanged, d_l_doubled, d_l_near, d_law]
def md : Md := ⟨[(("InvalidName" : Str), ("name" : Str)), (("InvalidLiteral" : Str), ("value" : Str)), (("InvalidClause" : Str), ("value" : Str)), (("InvalidText" : Str), ("line" : Str)), (("UnknownMoment" : Str), ("name" : Str))], [(("InvalidClause" : Str), [2], [0, 1, 3, 4]), (("InvalidLiteral" : Str), [1], [0, 2, 3, 4]), (("InvalidName" : Str), [0], [1, 2, 3, 4]), (("InvalidText" : Str), [3], [0, 1, 2, 4]), (("RingclauseError" : Str), [0, 1, 2, 3, 4], []), (("UnknownMoment" : Str), [4], [0, 1, 2, 3]), (("ValueError" : Str), [0, 1, 2, 3, 4], [])], [(("LETTERS" : Str), .str ("abcdefghijklmnopqrstuvwxyz" : Str)), (("NAME_SIGNS" : Str), .str ("abcdefghijklmnopqrstuvwxyz0123456789" : Str)), (("NAME_LENGTH" : Str), .int 8), (("MOST_DIGITS" : Str), .int 200)], [10, 19]⟩
abbrev f_is_name : Nat := 0
abbrev f_is_ascending : Nat := 1
abbrev f_write_values : Nat := 2
abbrev f_are_digits : Nat := 3
abbrev f_read_integer : Nat := 4
abbrev f_read_values : Nat := 5
abbrev f_l_bag : Nat := 6
abbrev f_l_take : Nat := 7
abbrev f_l_names : Nat := 8
abbrev f_l_integer : Nat := 9
abbrev f_l_same : Nat := 10
abbrev f_l_is_name : Nat := 11
abbrev f_l_number : Nat := 12
abbrev f_l_values_of : Nat := 13
abbrev f_l_text : Nat := 14
abbrev f_l_sign : Nat := 15
abbrev f_l_bent : Nat := 16
abbrev f_l_free : Nat := 17
abbrev f_l_digits : Nat := 18
abbrev f_l_own : Nat := 19
abbrev f_l_read : Nat := 20
abbrev f_l_values : Nat := 21
abbrev f_l_exchanged : Nat := 22
abbrev f_l_doubled : Nat := 23
abbrev f_l_near : Nat := 24
abbrev f_law : Nat := 25
theorem chk : defs.all (chkDef md (fsOf defs)) = true := by decide +kernel
theorem chkh : chkHots md defs = true := by decide +kernel
end K04
end
section
set_option Elab.async false
set_option linter.all false
set_option autoImplicit false
set_option maxHeartbeats 1000000
/-! O1: words of a text of values, with no program in sight. -/
namespace K04
open IL (spl spl_no spl_cut cut_of dropP isDig dval)
def letters : List Nat := [97, 98, 99, 100, 101, 102, 103, 104, 105, 106, 107, 108, 109, 110, 111, 112, 113, 114, 115, 116, 117, 118, 119, 120, 121, 122]
def digits : List Nat := [48, 49, 50, 51, 52, 53, 54, 55, 56, 57]
def nsigns : List Nat := letters ++ digits
/-- what a name is -/
def nameB : List Nat → Bool
  | [] => false
  | c :: t => decide (t.length + 1 ≤ 8) && (decide (c ∈ letters) && (c :: t).all fun z => decide (z ∈ nsigns))
def numOk (q : List Nat) : Bool := decide (dropP 45 q ≠ []) && (decide ((dropP 45 q).length ≤ 200) && (decide ((dropP 45 q).head? = some 48 → q = [48]) && (dropP 45 q).all isDig))
def numV (q : List Nat) : Option Int := if numOk q = true then some (if q.head? = some 45 then -dval (dropP 45 q) else dval q) else none
abbrev NT := List (List Nat) × List (List Nat × Int)
inductive Cl where
  | nm
  | pr (p : List Nat) (i : Int)
  | bad
def headW (w : List Nat) : List Nat := (spl 61 w).headD []
def cls (w : List Nat) : Cl := if nameB (headW w) = true then (match spl 61 w with
  | [_] => .nm
  | p :: _ => (match numV (w.drop (p.length + 1)) with
    | some i => .pr p i
    | none => .bad)
  | [] => .bad) else .bad
theorem cls_no (w : List Nat) (h : 61 ∉ w) : cls w = if nameB w = true then .nm else .bad := by
  unfold cls headW
  rw [spl_no h]
  rfl
theorem cls_cut (p q : List Nat) (h : 61 ∉ p) : cls (p ++ 61 :: q) = if nameB p = true then (match numV q with
    | some i => .pr p i
    | none => .bad) else .bad := by
  unfold cls headW
  obtain ⟨a, as, e⟩ := IL.spl_pos 61 q
  rw [spl_cut q h, e]
  have : (p ++ 61 :: q).drop (p.length + 1) = q := by
    rw [← List.drop_drop, List.drop_left]
    rfl
  simp only [List.headD, this]
theorem num_no_eq (q : List Nat) (h : 61 ∈ q) : numV q = none := by
  unfold numV
  rw [if_neg]
  intro k
  unfold numOk at k
  simp only [Bool.and_eq_true] at k
  have k := k.2.2.2
  have : 61 ∈ dropP 45 q := by
    cases q with
    | nil => cases h
    | cons c q =>
      show 61 ∈ if c = 45 then q else c :: q
      by_cases e : c = 45
      · subst e
        rw [if_pos rfl]
        rcases List.mem_cons.mp h with z | z
        · exact absurd z (by decide)
        · exact z
      · rw [if_neg e]
        exact h
  have := List.all_eq_true.mp k 61 this
  exact absurd this (by decide)
def asc : List (List Nat) → Bool
  | [] => true
  | [_] => true
  | a :: b :: r => decide (a < b) && asc (b :: r)
theorem asc_left : ∀ (a b : List (List Nat)), asc a = false → asc (a ++ b) = false
  | [], _, h => by cases h
  | [_], _, h => by cases h
  | x :: y :: r, b, h => by
    rw [List.cons_append, List.cons_append, asc]
    rw [asc] at h
    cases q : decide (x < y) with
    | false => rfl
    | true =>
      rw [q, Bool.true_and] at h
      rw [Bool.true_and]
      exact asc_left (y :: r) b h
theorem asc_snoc : ∀ (a : List (List Nat)) (x y : List Nat), asc (a ++ [x] ++ [y]) = (asc (a ++ [x]) && decide (x < y))
  | [], x, y => by simp [asc]
  | [z], x, y => by simp [asc]
  | z :: z2 :: a, x, y => by
    have := asc_snoc (z2 :: a) x y
    simp only [List.cons_append, asc] at this ⊢
    rw [this, Bool.and_assoc]
theorem asc_one (x : List Nat) : asc ([] ++ [x]) = true := rfl
def fold : NT → List (List Nat) → Option NT
  | st, [] => some st
  | (ns, ts), w :: ws => match cls w with
    | .nm => if ts = [] then fold (ns ++ [w], ts) ws else none
    | .pr p i => fold (ns, ts ++ [(p, i)]) ws
    | .bad => none
def goodB (st : NT) : Bool := asc st.1 && asc (st.2.map (·.1))
def fin : Option NT → Option NT
  | some st => if goodB st = true then some st else none
  | none => none
theorem fold_app : ∀ (ws : List (List Nat)) (ns : List (List Nat)) (ts : List (List Nat × Int)) (st : NT), fold (ns, ts) ws = some st → ∃ a b, st = (ns ++ a, ts ++ b)
  | [], ns, ts, st, h => ⟨[], [], by
    have : (ns, ts) = st := by simpa [fold] using h
    rw [← this]
    simp⟩
  | w :: ws, ns, ts, st, h => by
    rw [fold] at h
    cases hc : cls w with
    | nm =>
      rw [hc] at h
      simp only at h
      by_cases q : ts = []
      · rw [if_pos q] at h
        obtain ⟨a, b, e⟩ := fold_app ws _ _ _ h
        exact ⟨[w] ++ a, b, by rw [e, List.append_assoc]⟩
      · rw [if_neg q] at h
        cases h
    | pr p i =>
      rw [hc] at h
      obtain ⟨a, b, e⟩ := fold_app ws _ _ _ h
      exact ⟨a, [(p, i)] ++ b, by rw [e, List.append_assoc]⟩
    | bad =>
      rw [hc] at h
      cases h
theorem fin_bad (ns : List (List Nat)) (ts : List (List Nat × Int)) (ws : List (List Nat)) (h : goodB (ns, ts) = false) : fin (fold (ns, ts) ws) = none := by
  cases hf : fold (ns, ts) ws with
  | none => rfl
  | some st =>
    obtain ⟨a, b, e⟩ := fold_app ws ns ts st hf
    unfold fin
    simp only
    rw [if_neg]
    unfold goodB at h ⊢
    rw [e, List.map_append]
    simp only at h ⊢
    rw [Bool.and_eq_true]
    rintro ⟨q1, q2⟩
    rw [Bool.and_eq_false_iff] at h
    rcases h with h | h
    · rw [asc_left _ _ h] at q1
      cases q1
    · rw [asc_left _ _ h] at q2
      cases q2
/-- the words of a text -/
def wordsOf (l : List Nat) : List (List Nat) := if l = [] then [] else spl 32 l
def ans (l : List Nat) : Option NT := fin (fold ([], []) (wordsOf l))
end K04
end
section
set_option Elab.async false
set_option linter.all false
set_option autoImplicit false
set_option maxRecDepth 100000
set_option maxHeartbeats 2000000
/-! O2: names and numbers. -/
namespace K04
open PySem
open IL (Slot Ow seqD intsD txt txtsD)
abbrev T (n f : Nat) (δ : IL.Env) : IL.CR := IL.tbl (defs.map J.DefR.il) n f δ
theorem l_empty : ("" : Str) = txt [] := by rw [IL.txt_eq]; rfl
theorem l_letters : ("abcdefghijklmnopqrstuvwxyz" : Str) = txt letters := by rw [IL.txt_eq]; rfl
theorem l_signs : ("abcdefghijklmnopqrstuvwxyz0123456789" : Str) = txt nsigns := by rw [IL.txt_eq]; rfl
theorem l_digits : ("0123456789" : Str) = txt digits := by rw [IL.txt_eq]; rfl
theorem l_0 : ("0" : Str) = txt [48] := by rw [IL.txt_eq]; rfl
theorem l_m : ("-" : Str) = txt [45] := by rw [IL.txt_eq]; rfl
theorem l_m0 : ("-0" : Str) = txt [45, 48] := by rw [IL.txt_eq]; rfl
theorem l_sp : (" " : Str) = txt [32] := by rw [IL.txt_eq]; rfl
theorem l_eq : ("=" : Str) = txt [61] := by rw [IL.txt_eq]; rfl
@[simp] theorem rng_int (j : Int) (h1 : -4611686018427387904 ≤ j) (h2 : j < 4611686018427387904) : IL.rng1D (.int j) = some (intsD ((List.range j.toNat).map fun (i : Nat) => (i : Int))) := by
  rw [IL.rng1D_int j h1 h2, IL.intD_rngD]
theorem cut_to {α : Type} (ds : List α) (i : Int) (h0 : 0 ≤ i) (h1 : i ≤ ds.length) : IL.cutD ds none (some i) = ds.take i.toNat := by
  obtain ⟨j, rfl⟩ := Int.eq_ofNat_of_zero_le h0
  unfold IL.cutD
  rw [HT.sIx_none, HT.sIx_nat, List.drop_zero, Int.toNat_natCast, Nat.min_eq_left (by omega), Nat.sub_zero]
theorem cut_from {α : Type} (ds : List α) (i : Int) (h0 : 0 ≤ i) (h1 : i ≤ ds.length) : IL.cutD ds (some i) none = ds.drop i.toNat := by
  obtain ⟨j, rfl⟩ := Int.eq_ofNat_of_zero_le h0
  unfold IL.cutD
  rw [HT.sIx_none, HT.sIx_nat, Int.toNat_natCast, Nat.min_eq_left (by omega), List.take_of_length_le (by rw [List.length_drop]; omega)]
theorem T_name_is (N : Nat) (l : List Nat) (hl : l.length ≤ 16777216) (h : 1 ≤ N) : T N f_is_name [.im (.str (txt l))] = .ret (.dat (.bool (nameB l))) [.im (.str (txt l))] := by
  obtain ⟨n, rfl⟩ : ∃ n, N = n + 1 := ⟨N - 1, by omega⟩
  refine (IL.tbl_succ (d := d_is_name.il) rfl rfl).trans ?_
  cases l with
  | nil => simp [d_is_name, c_is_name, l_empty, nameB]
  | cons c t =>
    by_cases q : t.length + 1 ≤ 8
    · have q2 : ¬ (8 : Int) < (t.length : Int) + 1 := by omega
      have e2 : t.length + 1 ≤ 16777216 := by omega
      by_cases hc : c ∈ letters
      · simp -implicitDefEqProofs [d_is_name, c_is_name, l_empty, l_letters, l_signs, e2, q2, hc]
        rw [show PyData.str (txt [c]) :: List.map (fun c => PyData.str (txt [c])) t = (c :: t).map (fun z => .str (txt [z])) from rfl, IL.lcGo_bools (fun z => .str (txt [z])) (fun z => decide (z ∈ nsigns))]
        · simp -implicitDefEqProofs [nameB, q, hc]
        · intro z hz
          simp -implicitDefEqProofs
        · simp
          omega
      · simp -implicitDefEqProofs [d_is_name, c_is_name, l_empty, l_letters, l_signs, e2, q2, hc, nameB]
    · have q2 : (8 : Int) < (t.length : Int) + 1 := by omega
      have e2 : t.length + 1 ≤ 16777216 := by simpa using hl
      simp -implicitDefEqProofs [d_is_name, c_is_name, l_empty, e2, q2, q, nameB]
theorem asc_range : ∀ ns : List (List Nat), asc ns = ((List.range (ns.length - 1)).map fun k => decide (ns.getD k [] < ns.getD (k + 1) [])).all id
  | [] => rfl
  | [_] => rfl
  | a :: b :: r => by
    rw [asc, asc_range (b :: r)]
    simp only [List.length_cons, Nat.add_sub_cancel]
    rw [List.range_succ_eq_map, List.map_cons, List.all_cons, List.map_map]
    rfl
theorem txts_at (ns : List (List Nat)) (k : Nat) (h : k < ns.length) : L2.atI (txtsD ns) (k : Int) = some (.str (txt (ns.getD k []))) := by
  rw [IL.atI_ofNat]
  unfold txtsD
  rw [List.getElem?_map, List.getElem?_eq_getElem h, List.getD_eq_getElem?_getD, List.getElem?_eq_getElem h]
  rfl
theorem txts_at1 (ns : List (List Nat)) (k : Nat) (h : k + 1 < ns.length) : L2.atI (txtsD ns) ((k : Int) + 1) = some (.str (txt (ns.getD (k + 1) []))) := txts_at ns (k + 1) h
theorem T_asc (N : Nat) (ns : List (List Nat)) (s : Slot) (hs : s = .ow (.lst (txtsD ns)) ∨ s = .im (.list (txtsD ns))) (hl : ns.length ≤ 16777216) (h : 1 ≤ N) : T N f_is_ascending [s] = .ret (.dat (.bool (asc ns))) [s] := by
  obtain ⟨n, rfl⟩ : ∃ n, N = n + 1 := ⟨N - 1, by omega⟩
  have w1 : -4611686018427387904 ≤ (ns.length : Int) - 1 := by omega
  have w2 : (ns.length : Int) - 1 < 4611686018427387904 := by omega
  have fl : ∀ (s : Slot), (s = .ow (.lst (txtsD ns)) ∨ s = .im (.list (txtsD ns))) → IL.lcGo 1 (.name 1) IL.cTT (IL.evDm ⟨1, IL.tbl (defs.map J.DefR.il) n⟩ (.cmp .lt (.idx (.var 0) (.var 1)) (.idx (.var 0) (.bin .add (.var 1) (.int 1))))) [1] (intsD ((List.range (ns.length - 1)).map fun (i : Nat) => (i : Int))) [] [s, .un] = .ok (IL.boolsD (((List.range (ns.length - 1)).map fun k => decide (ns.getD k [] < ns.getD (k + 1) [])))) [s, .un] := by
    intro s hs
    have : intsD ((List.range (ns.length - 1)).map fun (i : Nat) => (i : Int)) = (List.range (ns.length - 1)).map fun (i : Nat) => PyData.int (i : Int) := by
      unfold intsD
      rw [List.map_map]
      rfl
    rw [this]
    refine IL.lcGo_bools (fun (i : Nat) => PyData.int (i : Int)) (fun k => decide (ns.getD k [] < ns.getD (k + 1) [])) _ _ ?_ ?_
    · intro k hk
      rw [List.mem_range] at hk
      have a1 := txts_at ns k (by omega)
      have a2 := txts_at1 ns k (by omega)
      rcases hs with rfl | rfl
      · simp -implicitDefEqProofs [a1, a2, -List.getD_eq_getElem?_getD]
      · simp -implicitDefEqProofs [a1, a2, -List.getD_eq_getElem?_getD]
    · rw [List.length_range]
      omega
  refine (IL.tbl_succ (d := d_is_ascending.il) rfl rfl).trans ?_
  have fl := fl s hs
  rw [asc_range]
  have e0 : ((ns.length : Int) - 1).toNat = ns.length - 1 := by omega
  rcases hs with rfl | rfl
  · simp -implicitDefEqProofs [d_is_ascending, c_is_ascending, w1, w2, e0, fl, -List.getD_eq_getElem?_getD]
  · simp -implicitDefEqProofs [d_is_ascending, c_is_ascending, w1, w2, e0, fl, -List.getD_eq_getElem?_getD]
/-! ### numbers -/
def digB (d : List Nat) : Bool := decide (d ≠ []) && (d.all IL.isDig && (decide (d.length ≤ 200) && decide (d.head? = some 48 → d = [48])))
theorem dig_ascii {d : List Nat} (h : d.all IL.isDig = true) : (d.all fun c => decide (c < 128)) = true := by
  rw [List.all_eq_true] at h ⊢
  intro c hc
  have := h c hc
  unfold IL.isDig at this
  simp at this
  simp
  omega
theorem T_dig (N : Nat) (d : List Nat) (hN : 1 ≤ N) (hl : d.length ≤ 16777216) : T N f_are_digits [.im (.str (txt d)), .im (.int 200)] = .ret (.dat (.bool (digB d))) [.im (.str (txt d)), .im (.int 200)] := by
  obtain ⟨n, rfl⟩ : ∃ n, N = n + 1 := ⟨N - 1, by omega⟩
  refine (IL.tbl_succ (d := d_are_digits.il) rfl rfl).trans ?_
  have ea := IL.isascii_txt d
  cases ha : (d.all fun c => decide (c < 128)) with
  | false =>
    rw [ha] at ea
    have : d.all IL.isDig = false := by
      cases q : d.all IL.isDig with
      | false => rfl
      | true => rw [dig_ascii q] at ha; cases ha
    simp -implicitDefEqProofs [d_are_digits, c_are_digits, ea, -IL.isascii_txt, digB, this]
  | true =>
    rw [ha] at ea
    have ed := IL.isdigit_txt d ha
    cases hd : (decide (d ≠ []) && d.all IL.isDig) with
    | false =>
      rw [hd] at ed
      have : digB d = false := by
        unfold digB
        rw [← Bool.and_assoc, hd, Bool.false_and]
      rw [this]
      simp -implicitDefEqProofs [d_are_digits, c_are_digits, ea, ed, -IL.isascii_txt]
    | true =>
      rw [hd] at ed
      have e0 : digB d = (decide (d.length ≤ 200) && decide (d.head? = some 48 → d = [48])) := by
        unfold digB
        rw [← Bool.and_assoc, hd, Bool.true_and]
      rw [e0]
      by_cases q : d.length ≤ 200
      · have q2 : ¬ (200 : Int) < (d.length : Int) := by omega
        by_cases k : d = [48]
        · subst k
          simp -implicitDefEqProofs [d_are_digits, c_are_digits, ea, ed, -IL.isascii_txt, l_0]
        · cases d with
          | nil => simp at hd
          | cons c t =>
            have hl2 : t.length + 1 ≤ 16777216 := by simpa using hl
            have q3 : ¬ (200 : Int) < (t.length : Int) + 1 := by simpa using q2
            have q4 : t.length + 1 ≤ 200 := by simpa using q
            have k2 : ¬ (c = 48 ∧ t = []) := by simpa using k
            simp -implicitDefEqProofs [d_are_digits, c_are_digits, ea, ed, -IL.isascii_txt, l_0, hl2, q3, q4, k2]
      · have q2 : (200 : Int) < (d.length : Int) := by omega
        simp -implicitDefEqProofs [d_are_digits, c_are_digits, ea, ed, -IL.isascii_txt, hl, q, q2]
def optD : Option Int → PyData
  | none => .none
  | some i => .int i
theorem numOk_dig (q : List Nat) : numOk q = (decide (q ≠ [45, 48]) && digB (IL.dropP 45 q)) := by
  unfold numOk digB
  cases q with
  | nil => rfl
  | cons c t =>
    by_cases h : c = 45
    · subst h
      have e : IL.dropP 45 (45 :: t) = t := rfl
      rw [e]
      have e2 : (45 :: t = [48]) ↔ False := by simp
      cases t with
      | nil => simp
      | cons d t =>
        by_cases k : d = 48
        · subst k
          cases t <;> simp
        · simp [k, Bool.and_comm, Bool.and_left_comm, Bool.and_assoc]
    · have e : IL.dropP 45 (c :: t) = c :: t := if_neg h
      rw [e]
      have e3 : (c :: t ≠ [45, 48]) := by simp [h]
      simp [h, Bool.and_comm, Bool.and_left_comm, Bool.and_assoc]
theorem dropP_len (c : Nat) (q : List Nat) : (IL.dropP c q).length ≤ q.length := by
  cases q with
  | nil => exact Nat.le_refl _
  | cons d q =>
    show (if d = c then q else d :: q).length ≤ _
    split
    · simp
    · exact Nat.le_refl _
theorem numV_int (q : List Nat) (h : numOk q = true) : ∃ i, numV q = some i ∧ IL.fn .int [.str (txt q)] = some (.dat (.int i)) := by
  refine ⟨_, if_pos h, ?_⟩
  unfold numOk at h
  simp only [Bool.and_eq_true, decide_eq_true_eq] at h
  obtain ⟨h1, h2, -, h4⟩ := h
  cases q with
  | nil => exact absurd rfl h1
  | cons c t =>
    by_cases k : c = 45
    · subst k
      have e : IL.dropP 45 (45 :: t) = t := rfl
      rw [e] at h1 h2 h4 ⊢
      rw [IL.int_neg t h4 h1 (by omega), if_pos (show (45 :: t).head? = some 45 from rfl)]
    · have e : IL.dropP 45 (c :: t) = c :: t := if_neg k
      rw [e] at h1 h2 h4 ⊢
      rw [IL.int_txt _ h4 h1 (by omega), if_neg (by simpa using k)]
theorem T_rint (N : Nat) (q : List Nat) (hN : 2 ≤ N) (hl : q.length ≤ 16777216) : T N f_read_integer [.im (.str (txt q)), .im (.int 200)] = .ret (.dat (optD (numV q))) [.im (.str (txt q)), .im (.int 200)] := by
  obtain ⟨n, rfl⟩ : ∃ n, N = n + 1 := ⟨N - 1, by omega⟩
  refine (IL.tbl_succ (d := d_read_integer.il) rfl rfl).trans ?_
  have ed : T n f_are_digits _ = _ := T_dig n (IL.dropP 45 q) (by omega) (Nat.le_trans (dropP_len 45 q) hl)
  have eo := numOk_dig q
  by_cases k : q = [45, 48]
  · subst k
    simp -implicitDefEqProofs [d_read_integer, c_read_integer, l_m0]
    rfl
  · rw [decide_eq_true k, Bool.true_and] at eo
    rw [← eo] at ed
    cases h : numOk q with
    | false =>
      rw [h] at ed
      have : numV q = none := by unfold numV; rw [h]; rfl
      simp -implicitDefEqProofs [d_read_integer, c_read_integer, l_m0, l_m, k, ed, hl, this, optD]
    | true =>
      rw [h] at ed
      obtain ⟨i, h1, h2⟩ := numV_int q h
      simp -implicitDefEqProofs [d_read_integer, c_read_integer, l_m0, l_m, k, ed, hl, h1, h2, optD]
end K04
end
section
set_option Elab.async false
set_option linter.all false
set_option autoImplicit false
set_option maxRecDepth 100000
set_option maxHeartbeats 2000000
/-! O3: the program's reader. -/
namespace K04
open PySem
open IL (Slot Ow seqD intsD txt txtsD spl)
section
variable {kp : Nat} {g : IL.Tg} {b : IL.Env → IL.R IL.Fl}
theorem forGo_relx {α : Type} (H : α → PyData) (I : List α → IL.Env → Prop) (Q : IL.RV → IL.Env → Prop) (QX : Nat → List (Str × PyData) → IL.Env → Prop)
    (hstep : ∀ a as δ, I (a :: as) δ → (∃ δ', (IL.forStep kp g b (H a) δ = .ok .nx δ' ∨ IL.forStep kp g b (H a) δ = .ok .ct δ') ∧ I as δ') ∨ (∃ v δ', IL.forStep kp g b (H a) δ = .ok (.rt v) δ' ∧ Q v δ') ∨ (∃ c fs δ', IL.forStep kp g b (H a) δ = .ex c fs δ' ∧ QX c fs δ')) :
    ∀ (as : List α) (δ : IL.Env) (X : IL.R IL.Fl), IL.forGo kp g b (as.map H) δ = X → I as δ → (∃ δ', X = .ok .nx δ' ∧ I [] δ') ∨ (∃ v δ', X = .ok (.rt v) δ' ∧ Q v δ') ∨ (∃ c fs δ', X = .ex c fs δ' ∧ QX c fs δ')
  | [], δ, _, rfl, i => .inl ⟨δ, rfl, i⟩
  | a :: as, δ, X, hX, i => by
    rw [List.map_cons] at hX
    rcases hstep a as δ i with ⟨δ', h, i'⟩ | ⟨v, δ', h, q⟩ | ⟨c, fs, δ', h, q⟩
    · rw [IL.forGo_nx _ _ _ _ h] at hX
      exact forGo_relx H I Q QX hstep as δ' X hX i'
    · exact .inr (.inl ⟨v, δ', hX.symm.trans (IL.forGo_rt _ _ _ _ _ h), q⟩)
    · exact .inr (.inr ⟨c, fs, δ', hX.symm.trans (IL.forGo_ex _ _ _ _ _ _ h), q⟩)
end
def pairD (x : List Nat × Int) : PyData := .tuple [.str (txt x.1), .int x.2]
def pairsD (ts : List (List Nat × Int)) : List PyData := ts.map pairD
@[simp] theorem pairsD_len (ts : List (List Nat × Int)) : (pairsD ts).length = ts.length := List.length_map _
@[simp] theorem pairsD_nil : pairsD [] = [] := rfl
@[simp] theorem pairsD_plain (ts : List (List Nat × Int)) : PyData.plainAll (pairsD ts) = true := IL.plainAll_map _ (fun a => by simp [pairD]) ts
@[simp] theorem txtsD_plain (ts : List (List Nat)) : PyData.plainAll (txtsD ts) = true := IL.plainAll_map _ (fun a => by simp) ts
theorem pairsD_snoc (ts : List (List Nat × Int)) (p : List Nat) (i : Int) : pairsD (ts ++ [(p, i)]) = pairsD ts ++ [.tuple [.str (txt p), .int i]] := by
  simp [pairsD, pairD]
theorem txtsD_snoc (ts : List (List Nat)) (p : List Nat) : txtsD (ts ++ [p]) = txtsD ts ++ [.str (txt p)] := by
  simp [txtsD]
@[simp] theorem eqvAll_pairs (ts : List (List Nat × Int)) : PyData.eqvAll (pairsD ts) [] = decide (ts = []) := by
  cases ts <;> simp [pairsD]
def valD (st : NT) : PyData := .tuple [.tuple (txtsD st.1), .tuple (pairsD st.2)]
abbrev lineX : List (Str × PyData) := [(("line" : Str), .int 1)]
def rdR (l : List Nat) : Option NT → IL.CR
  | some st => .ret (.dat (valD st)) [.im (.str (txt l))]
  | none => .ex 3 lineX [.im (.str (txt l))]
def IRd (l : List Nat) (W : List PyData) (full : Option NT) (as : List (List Nat)) (δ : IL.Env) : Prop := ∃ (ns : List (List Nat)) (ts : List (List Nat × Int)) (s4 s5 s6 s7 s8 : Slot), δ = [.im (.str (txt l)), .ow (.lst (txtsD ns)), .ow (.lst (pairsD ts)), .im (.list W), s4, s5, s6, s7, s8, .un, .un] ∧ fold (ns, ts) as = full ∧ ns.length + ts.length + as.length ≤ 7000001 ∧ (∀ w ∈ as, w.length ≤ 7000000)
theorem wordsOf_len (l : List Nat) : (wordsOf l).length ≤ l.length + 1 := by
  unfold wordsOf
  split
  · simp
  · exact IL.spl_len 32 l
theorem wordsOf_short (l : List Nat) : ∀ w ∈ wordsOf l, w.length ≤ l.length := by
  unfold wordsOf
  split
  · simp
  · exact IL.spl_short 32 l
theorem numV_nil : numV [] = none := rfl
open IL (CB) in
def rdBody : CB :=
      (.cons (.set (.tup [6, 7, 8]) (.tm1 .partition (.var 4) (.str ("=" : Str))))
    (.cons (.set (.name 5) (.call 4 (.cons (.fz (.var 8)) (.cons (.fz (.int 200)) .nil))))
    (.cons (.cond (.or (.not (.tr (.call 0 (.cons (.fz (.var 6)) .nil)))) (.or (.and (.cmp .eq (.var 7) (.str ("=" : Str))) (.isN (.var 5))) (.and (.cmp .eq (.var 7) (.str ("" : Str))) (.cmp .ne (.var 2) (.lst .nil)))))
      (.cons (.raise 3 ("line" : Str) (.int 1))
    .nil)
      .nil)
    (.cons (.cond (.cmp .eq (.var 7) (.str ("=" : Str)))
      (.cons (.exp (.mt .append 2 (.cons (.tup (.cons (.var 6) (.cons (.var 5) .nil))) .nil)))
    .nil)
      (.cons (.exp (.mt .append 1 (.cons (.var 6) .nil)))
    .nil))
    .nil))))
open IL (CB) in
def rdTail : CB :=
    (.cons (.cond (.or (.not (.tr (.call 1 (.cons (.var 1) .nil)))) (.not (.tr (.call 1 (.cons (.fz (.lc (.var 9) (.tup [9, 10]) (.of (.var 2)) [9, 10])) .nil)))))
      (.cons (.raise 3 ("line" : Str) (.int 1))
    .nil)
      .nil)
    (.cons (.ret (.tup (.cons (.bi .tuple (.cons (.var 1) .nil)) (.cons (.bi .tuple (.cons (.var 2) .nil)) .nil))))
    .nil))
theorem c_rd_eq : c_read_values =
    (.cons (.set (.name 1) (.lst .nil))
    (.cons (.set (.name 2) (.lst .nil))
    (.cons (.set (.name 3) (.ite (.cmp .eq (.var 0) (.str ("" : Str))) (.lst .nil) (.tm1 .split (.var 0) (.str (" " : Str)))))
    (.cons (.loop (.name 4) (.of (.var 3)) rdBody) rdTail)))) := rfl
theorem rd_step (n : Nat) (hn : 2 ≤ n) (l : List Nat) (W : List PyData) (full : Option NT) (w : List Nat) (as : List (List Nat)) (δ : IL.Env) (hI : IRd l W full (w :: as) δ) :
    (∃ δ', (IL.forStep 1 (.name 4) (IL.exs ⟨1, IL.tbl (defs.map J.DefR.il) n⟩ rdBody) (.str (txt w)) δ = .ok .nx δ' ∨ IL.forStep 1 (.name 4) (IL.exs ⟨1, IL.tbl (defs.map J.DefR.il) n⟩ rdBody) (.str (txt w)) δ = .ok .ct δ') ∧ IRd l W full as δ') ∨ (∃ v δ', IL.forStep 1 (.name 4) (IL.exs ⟨1, IL.tbl (defs.map J.DefR.il) n⟩ rdBody) (.str (txt w)) δ = .ok (.rt v) δ' ∧ False)
      ∨ (∃ c fs δ', IL.forStep 1 (.name 4) (IL.exs ⟨1, IL.tbl (defs.map J.DefR.il) n⟩ rdBody) (.str (txt w)) δ = .ex c fs δ' ∧ c = 3 ∧ fs = lineX ∧ full = none ∧ ∃ rest, δ' = .im (.str (txt l)) :: rest) := by
  obtain ⟨ns, ts, s4, s5, s6, s7, s8, rfl, h1, h2, h3⟩ := hI
  have hw := h3 w List.mem_cons_self
  rw [List.length_cons] at h2
  rw [fold] at h1
  have hns : ns.length < 16777216 := by omega
  have hts : ts.length < 16777216 := by omega
  have h3' : ∀ w ∈ as, w.length ≤ 7000000 := fun x hx => h3 x (List.mem_cons_of_mem _ hx)
  by_cases hm : 61 ∈ w
  · obtain ⟨p, q, rfl, hp⟩ := IL.cut_of hm
    rw [cls_cut p q hp] at h1
    rw [List.length_append, List.length_cons] at hw
    have pc := IL.part_cut p q 61 (by rw [List.length_append, List.length_cons]; omega) hp
    have nb := T_name_is n p (by omega) (by omega)
    have ri := T_rint n q hn (by omega)
    cases hb : nameB p with
    | false =>
      rw [hb] at nb h1
      refine .inr (.inr ⟨3, lineX, _, (?_ : _ = IL.R.ex 3 lineX [.im (.str (txt l)), .ow (.lst (txtsD ns)), .ow (.lst (pairsD ts)), .im (.list W), .im (.str (txt (p ++ 61 :: q))), .im (optD (numV q)), .im (.str (txt p)), .im (.str (txt [61])), .im (.str (txt q)), .un, .un]), rfl, rfl, h1.symm, _, rfl⟩)
      simp -implicitDefEqProofs [rdBody, l_eq, l_empty, pc, ri, nb]
    | true =>
      rw [hb] at nb h1
      simp only [if_true] at h1
      cases hv : numV q with
      | none =>
        rw [hv] at ri h1
        refine .inr (.inr ⟨3, lineX, _, (?_ : _ = IL.R.ex 3 lineX [.im (.str (txt l)), .ow (.lst (txtsD ns)), .ow (.lst (pairsD ts)), .im (.list W), .im (.str (txt (p ++ 61 :: q))), .im (optD none), .im (.str (txt p)), .im (.str (txt [61])), .im (.str (txt q)), .un, .un]), rfl, rfl, h1.symm, _, rfl⟩)
        simp -implicitDefEqProofs [rdBody, l_eq, l_empty, pc, ri, nb, optD]
      | some i =>
        rw [hv] at ri h1
        refine .inl ⟨_, .inl (?_ : _ = IL.R.ok IL.Fl.nx [.im (.str (txt l)), .ow (.lst (txtsD ns)), .ow (.lst (pairsD (ts ++ [(p, i)]))), .im (.list W), .im (.str (txt (p ++ 61 :: q))), .im (.int i), .im (.str (txt p)), .im (.str (txt [61])), .im (.str (txt q)), .un, .un]), ns, ts ++ [(p, i)], _, _, _, _, _, rfl, h1, ?_, h3'⟩
        · rw [pairsD_snoc]
          simp -implicitDefEqProofs [rdBody, l_eq, l_empty, pc, ri, nb, optD, hts]
        · simp
          omega
  · rw [cls_no w hm] at h1
    have pc := IL.part_no w 61 (by omega) hm
    have nb := T_name_is n w (by omega) (by omega)
    have ri := T_rint n [] hn (by simp)
    rw [numV_nil] at ri
    cases hb : nameB w with
    | false =>
      rw [hb] at nb h1
      refine .inr (.inr ⟨3, lineX, _, (?_ : _ = IL.R.ex 3 lineX [.im (.str (txt l)), .ow (.lst (txtsD ns)), .ow (.lst (pairsD ts)), .im (.list W), .im (.str (txt w)), .im .none, .im (.str (txt w)), .im (.str (txt [])), .im (.str (txt [])), .un, .un]), rfl, rfl, h1.symm, _, rfl⟩)
      simp -implicitDefEqProofs [rdBody, l_eq, l_empty, pc, ri, nb, optD]
    | true =>
      rw [hb] at nb h1
      simp only [if_true] at h1
      by_cases hz : ts = []
      · rw [if_pos hz] at h1
        subst hz
        refine .inl ⟨_, .inl (?_ : _ = IL.R.ok IL.Fl.nx [.im (.str (txt l)), .ow (.lst (txtsD (ns ++ [w]))), .ow (.lst (pairsD [])), .im (.list W), .im (.str (txt w)), .im .none, .im (.str (txt w)), .im (.str (txt [])), .im (.str (txt [])), .un, .un]), ns ++ [w], [], _, _, _, _, _, rfl, h1, ?_, h3'⟩
        · rw [txtsD_snoc]
          simp -implicitDefEqProofs [rdBody, l_eq, l_empty, pc, ri, nb, optD, hns]
        · simp
          omega
      · rw [if_neg hz] at h1
        refine .inr (.inr ⟨3, lineX, _, (?_ : _ = IL.R.ex 3 lineX [.im (.str (txt l)), .ow (.lst (txtsD ns)), .ow (.lst (pairsD ts)), .im (.list W), .im (.str (txt w)), .im .none, .im (.str (txt w)), .im (.str (txt [])), .im (.str (txt [])), .un, .un]), rfl, rfl, h1.symm, _, rfl⟩)
        simp -implicitDefEqProofs [rdBody, l_eq, l_empty, pc, ri, nb, optD, hz]
theorem rd_tail (n : Nat) (hn : 1 ≤ n) (l : List Nat) (W : List PyData) (ns : List (List Nat)) (ts : List (List Nat × Int)) (s4 s5 s6 s7 s8 : Slot) (h1 : ns.length ≤ 7000001) (h2 : ts.length ≤ 7000001) :
    IL.outR [.im (.str (txt l))] (IL.exs ⟨1, IL.tbl (defs.map J.DefR.il) n⟩ rdTail [.im (.str (txt l)), .ow (.lst (txtsD ns)), .ow (.lst (pairsD ts)), .im (.list W), s4, s5, s6, s7, s8, .un, .un]) = rdR l (fin (some (ns, ts))) := by
  have a1 := T_asc n ns _ (.inl rfl) (by omega) hn
  have a2 := T_asc n (ts.map (·.1)) _ (.inr rfl) (by rw [List.length_map]; omega) hn
  have lc := IL.lcGo_map (kp := 1) (g := .tup [9, 10]) (c := IL.cTT) (e := IL.evDm ⟨1, IL.tbl (defs.map J.DefR.il) n⟩ (.var 9)) (vs := [9, 10]) pairD (fun x => PyData.str (txt x.1)) [.im (.str (txt l)), .ow (.lst (txtsD ns)), .im (.list (pairsD ts)), .im (.list W), s4, s5, s6, s7, s8, .un, .un] ts [] (fun z _ => by
    simp -implicitDefEqProofs [IL.lcStep, pairD]) (by rw [IL.size_val, List.length_nil]; omega)
  have e1 : List.map (fun x : List Nat × Int => PyData.str (txt x.fst)) ts = txtsD (ts.map (·.1)) := by
    unfold txtsD
    rw [List.map_map]
    rfl
  rw [e1, List.nil_append] at lc
  change IL.lcGo _ _ _ _ _ (pairsD ts) _ _ = _ at lc
  unfold fin goodB
  simp only
  cases q1 : asc ns with
  | false =>
    rw [q1] at a1
    simp -implicitDefEqProofs [rdTail, a1, rdR]
  | true =>
    rw [q1] at a1
    cases q2 : asc (ts.map (·.1)) with
    | false =>
      rw [q2] at a2
      simp -implicitDefEqProofs [rdTail, a1, lc, a2, rdR]
    | true =>
      rw [q2] at a2
      simp -implicitDefEqProofs [rdTail, a1, lc, a2, rdR, valD]
theorem T_read (N : Nat) (l : List Nat) (hN : 3 ≤ N) (hl : l.length ≤ 7000000) : T N f_read_values [.im (.str (txt l))] = rdR l (ans l) := by
  obtain ⟨n, rfl⟩ : ∃ n, N = n + 1 := ⟨N - 1, by omega⟩
  have run := IL.tbl_succ (ds := defs.map J.DefR.il) (n := n) (f := f_read_values) (d := d_read_values.il) (δ := [.im (.str (txt l))]) rfl rfl
  have key : ∀ X : IL.R IL.Fl, IL.forGo 1 (.name 4) (IL.exs ⟨1, IL.tbl (defs.map J.DefR.il) n⟩ rdBody) (txtsD (wordsOf l)) [.im (.str (txt l)), .ow (.lst []), .ow (.lst []), .im (.list (txtsD (wordsOf l))), .un, .un, .un, .un, .un, .un, .un] = X →
      IL.outR [.im (.str (txt l))] (IL.kSeq ⟨1, IL.tbl (defs.map J.DefR.il) n⟩ rdTail X) = rdR l (ans l) := by
    intro X hX
    have hlen := wordsOf_len l
    have hsh := wordsOf_short l
    rcases forGo_relx (fun w => PyData.str (txt w)) (IRd l (txtsD (wordsOf l)) (fold ([], []) (wordsOf l))) (fun _ _ => False) (fun c fs δ' => c = 3 ∧ fs = lineX ∧ fold ([], []) (wordsOf l) = none ∧ ∃ rest, δ' = .im (.str (txt l)) :: rest) (fun a as δ h => rd_step n (by omega) l _ _ a as δ h) (wordsOf l) _ X hX
      ⟨[], [], .un, .un, .un, .un, .un, rfl, rfl, by simp; omega, fun w hw => Nat.le_trans (hsh w hw) hl⟩ with ⟨δ', rfl, ns, ts, s4, s5, s6, s7, s8, rfl, h1, h2, -⟩ | ⟨v, δ', -, f⟩ | ⟨c, fs, δ', rfl, rfl, rfl, h1, rest, rfl⟩
    · unfold ans
      rw [← h1]
      rw [List.length_nil, Nat.add_zero] at h2
      rw [IL.kSeq_nx]
      exact rd_tail n (by omega) l _ ns ts s4 s5 s6 s7 s8 (by omega) (by omega)
    · exact f.elim
    · unfold ans
      rw [h1]
      simp -implicitDefEqProofs [fin, rdR]
  refine run.trans ?_
  have w1 : l.length + 2 ≤ 16777216 := by omega
  by_cases q : l = []
  · subst q
    have kk := key _ rfl
    have e : wordsOf [] = [] := rfl
    rw [e, IL.txtsD_nil] at kk
    simp -implicitDefEqProofs [d_read_values, c_rd_eq, l_empty, kk]
  · have kk := key _ rfl
    have e : wordsOf l = spl 32 l := if_neg q
    rw [e] at kk
    simp -implicitDefEqProofs [d_read_values, c_rd_eq, l_empty, l_sp, q, w1, kk]
end K04
end
section
set_option Elab.async false
set_option linter.all false
set_option autoImplicit false
set_option maxRecDepth 100000
set_option maxHeartbeats 2000000
/-! O4: the law's reader. -/
namespace K04
open PySem
open IL (Slot Ow seqD intsD txt txtsD spl)
theorem T_lname (N : Nat) (l : List Nat) (hl : l.length ≤ 16777216) (h : 1 ≤ N) : T N f_l_is_name [.im (.str (txt l))] = .ret (.dat (.bool (nameB l))) [.im (.str (txt l))] := by
  obtain ⟨n, rfl⟩ : ∃ n, N = n + 1 := ⟨N - 1, by omega⟩
  have run := IL.tbl_succ (ds := defs.map J.DefR.il) (n := n) (f := f_l_is_name) (d := d_l_is_name.il) (δ := [.im (.str (txt l))]) rfl rfl
  cases l with
  | nil =>
    refine run.trans ?_
    simp [d_l_is_name, c_l_is_name, l_letters, nameB]
  | cons c t =>
    have e1 : t.length + 1 ≤ 16777216 := by simpa using hl
    by_cases q : t.length + 1 ≤ 8
    · have q2 : ¬ (8 : Int) < (t.length : Int) + 1 := by omega
      have q3 : ¬ (t.length : Int) + 1 < 1 := by omega
      by_cases hc : c ∈ letters
      · simp -implicitDefEqProofs [d_l_is_name, c_l_is_name, l_letters, l_digits, e1, q2, q3, hc] at run
        generalize hX : IL.forGo _ _ _ _ _ = X at run
        obtain ⟨δ', rfl, s2, rfl, h1⟩ | ⟨v, δ', rfl, rfl, h1, rest, rfl⟩ : (∃ δ', X = .ok .nx δ' ∧ ∃ s2 : Slot, δ' = [.im (.str (txt (c :: t))), .im (.str (txt letters)), s2] ∧ ([] : List Nat).all (fun z => decide (z ∈ nsigns)) = (c :: t).all fun z => decide (z ∈ nsigns)) ∨ (∃ v δ', X = .ok (.rt v) δ' ∧ v = .dat (.bool false) ∧ ((c :: t).all fun z => decide (z ∈ nsigns)) = false ∧ ∃ rest, δ' = .im (.str (txt (c :: t))) :: rest) := by
          refine IL.forGo_rels (fun c => PyData.str (txt [c])) (fun as δ => ∃ s2 : Slot, δ = [.im (.str (txt (c :: t))), .im (.str (txt letters)), s2] ∧ (as.all fun z => decide (z ∈ nsigns)) = (c :: t).all fun z => decide (z ∈ nsigns)) (fun v δ' => v = .dat (.bool false) ∧ ((c :: t).all fun z => decide (z ∈ nsigns)) = false ∧ ∃ rest, δ' = .im (.str (txt (c :: t))) :: rest) (as := c :: t) hX ⟨.un, rfl, rfl⟩ ?_
          rintro a as _ ⟨s2, rfl, h1⟩
          by_cases ha : a ∈ nsigns
          · refine .inl ⟨[.im (.str (txt (c :: t))), .im (.str (txt letters)), .im (.str (txt [a]))], .inl ?_, _, rfl, ?_⟩
            · have : a ∈ letters ++ digits := ha
              have e := IL.add_txt letters digits (by decide)
              simp -implicitDefEqProofs [l_digits, e, -IL.add_txt, this, -List.mem_append]
            · rw [← h1, List.all_cons, decide_eq_true ha, Bool.true_and]
          · refine .inr ⟨.dat (.bool false), [.im (.str (txt (c :: t))), .im (.str (txt letters)), .im (.str (txt [a]))], ?_, rfl, ?_, _, rfl⟩
            · have : ¬ (a ∈ letters ++ digits) := ha
              have e := IL.add_txt letters digits (by decide)
              simp -implicitDefEqProofs [l_digits, e, -IL.add_txt, this, -List.mem_append]
            · rw [← h1, List.all_cons, decide_eq_false ha, Bool.false_and]
        · refine run.trans ?_
          have nb : nameB (c :: t) = true := by
            show (decide (t.length + 1 ≤ 8) && (decide (c ∈ letters) && (c :: t).all fun z => decide (z ∈ nsigns))) = true
            rw [← h1, decide_eq_true q, decide_eq_true hc]
            rfl
          simp -implicitDefEqProofs [nb]
        · refine run.trans ?_
          have nb : nameB (c :: t) = false := by
            show (decide (t.length + 1 ≤ 8) && (decide (c ∈ letters) && (c :: t).all fun z => decide (z ∈ nsigns))) = false
            rw [h1, Bool.and_false, Bool.and_false]
          simp -implicitDefEqProofs [nb]
      · refine run.trans ?_
        simp -implicitDefEqProofs [d_l_is_name, c_l_is_name, l_letters, e1, q2, q3, hc, nameB]
    · have q2 : (8 : Int) < (t.length : Int) + 1 := by omega
      have q3 : ¬ (t.length : Int) + 1 < 1 := by omega
      refine run.trans ?_
      simp -implicitDefEqProofs [d_l_is_name, c_l_is_name, l_letters, e1, q2, q3, q, nameB]
open IL (CB) in
def lnTail : CB :=
    (.cons (.cond (.or (.cmp .eq (.var 1) (.str ("" : Str))) (.or (.cmp .gt (.bi .len (.cons (.var 1) .nil)) (.int 200)) (.and (.cmp .eq (.idx (.var 1) (.int 0)) (.str ("0" : Str))) (.cmp .ne (.var 0) (.str ("0" : Str))))))
      (.cons (.ret .none)
    .nil)
      .nil)
    (.cons (.loop (.name 2) (.of (.var 1))
      (.cons (.cond (.cmp .notin (.var 2) (.str ("0123456789" : Str)))
      (.cons (.ret .none)
    .nil)
      .nil)
    .nil))
    (.cons (.ret (.bi .int (.cons (.var 0) .nil)))
    .nil)))
theorem c_ln_eq : c_l_number =
    (.cons (.set (.name 1) (.var 0))
    (.cons (.cond (.cmp .eq (.sli (.var 0) .no (.yes (.int 1))) (.str ("-" : Str)))
      (.cons (.set (.name 1) (.sli (.var 0) (.yes (.int 1)) .no))
    .nil)
      .nil) lnTail)) := rfl
theorem dig_in (c : Nat) : decide (c ∈ digits) = IL.isDig c := by
  unfold IL.isDig
  by_cases h : c ∈ digits
  · rw [decide_eq_true h]
    have : 48 ≤ c ∧ c ≤ 57 := by
      simp [digits] at h
      omega
    simp [this.1, this.2]
  · rw [decide_eq_false h]
    have : ¬ (48 ≤ c ∧ c ≤ 57) := by
      intro q
      apply h
      simp [digits]
      omega
    by_cases q : 48 ≤ c
    · have : ¬ c ≤ 57 := fun z => this ⟨q, z⟩
      simp [this]
    · simp [q]
theorem ln_tail (n : Nat) (q : List Nat) (hl : q.length ≤ 16777216) : IL.outR [.im (.str (txt q))] (IL.exs ⟨1, IL.tbl (defs.map J.DefR.il) n⟩ lnTail [.im (.str (txt q)), .im (.str (txt (IL.dropP 45 q))), .un]) = .ret (.dat (optD (numV q))) [.im (.str (txt q))] := by
  have hd := dropP_len 45 q
  have numN : numOk q = false → numV q = none := fun h => by unfold numV; rw [h]; rfl
  generalize hD : IL.dropP 45 q = d at hd
  generalize hR : IL.exs _ _ _ = R
  have unf : numOk q = (decide (d ≠ []) && (decide (d.length ≤ 200) && (decide (d.head? = some 48 → q = [48]) && d.all IL.isDig))) := by
    unfold numOk
    rw [hD]
  cases d with
  | nil =>
    rw [numN (by rw [unf]; rfl)]
    simp -implicitDefEqProofs [lnTail, l_empty] at hR
    rw [← hR]
    simp [optD]
  | cons c t =>
    have e1 : t.length + 1 ≤ 16777216 := by
      rw [List.length_cons] at hd
      omega
    by_cases k : t.length + 1 ≤ 200
    · have k2 : ¬ (200 : Int) < (t.length : Int) + 1 := by omega
      by_cases z : c = 48 ∧ q ≠ [48]
      · obtain ⟨rfl, z2⟩ := z
        rw [numN (by rw [unf]; simp [z2])]
        simp -implicitDefEqProofs [lnTail, l_empty, l_0, e1, k2, z2] at hR
        rw [← hR]
        simp [optD]
      · have z' : (c :: t).head? = some 48 → q = [48] := by
          intro h
          have : c = 48 := by simpa using h
          exact Classical.byContradiction fun w => z ⟨this, w⟩
        have unf2 : numOk q = (c :: t).all IL.isDig := by
          rw [unf, decide_eq_true z']
          simp [k]
        have hR2 : (IL.kSeq ⟨1, IL.tbl (defs.map J.DefR.il) n⟩ (.cons (.ret (.bi .int (.cons (.var 0) .nil))) .nil) (IL.forGo 1 (.name 2) (IL.exs ⟨1, IL.tbl (defs.map J.DefR.il) n⟩ (.cons (.cond (.cmp .notin (.var 2) (.str ("0123456789" : Str))) (.cons (.ret .none) .nil) .nil) .nil)) ((c :: t).map fun c => PyData.str (txt [c])) [.im (.str (txt q)), .im (.str (txt (c :: t))), .un])) = R := by
          rw [← hR]
          by_cases z3 : c = 48
          · have z4 : q = [48] := z' (by rw [z3]; rfl)
            simp -implicitDefEqProofs [lnTail, l_empty, l_0, l_digits, e1, k2, z3, z4]
          · simp -implicitDefEqProofs [lnTail, l_empty, l_0, l_digits, e1, k2, z3]
        clear hR
        generalize hX : IL.forGo _ _ _ _ _ = X at hR2
        obtain ⟨δ', rfl, s2, rfl, h1⟩ | ⟨v, δ', rfl, rfl, h1, rest, rfl⟩ : (∃ δ', X = .ok .nx δ' ∧ ∃ s2 : Slot, δ' = [.im (.str (txt q)), .im (.str (txt (c :: t))), s2] ∧ ([] : List Nat).all IL.isDig = (c :: t).all IL.isDig) ∨ (∃ v δ', X = .ok (.rt v) δ' ∧ v = .dat .none ∧ ((c :: t).all IL.isDig) = false ∧ ∃ rest, δ' = .im (.str (txt q)) :: rest) := by
          refine IL.forGo_rels (fun c => PyData.str (txt [c])) (fun as δ => ∃ s2 : Slot, δ = [.im (.str (txt q)), .im (.str (txt (c :: t))), s2] ∧ (as.all IL.isDig) = (c :: t).all IL.isDig) (fun v δ' => v = .dat .none ∧ ((c :: t).all IL.isDig) = false ∧ ∃ rest, δ' = .im (.str (txt q)) :: rest) hX ⟨.un, rfl, rfl⟩ ?_
          rintro a as _ ⟨s2, rfl, h1⟩
          have di := dig_in a
          cases ha : IL.isDig a with
          | true =>
            rw [ha] at di
            refine .inl ⟨[.im (.str (txt q)), .im (.str (txt (c :: t))), .im (.str (txt [a]))], .inl ?_, _, rfl, ?_⟩
            · simp -implicitDefEqProofs [l_digits, di]
            · rw [← h1, List.all_cons, ha, Bool.true_and]
          | false =>
            rw [ha] at di
            refine .inr ⟨.dat .none, [.im (.str (txt q)), .im (.str (txt (c :: t))), .im (.str (txt [a]))], ?_, rfl, ?_, _, rfl⟩
            · simp -implicitDefEqProofs [l_digits, di]
            · rw [← h1, List.all_cons, ha, Bool.false_and]
        · obtain ⟨i, hi, hf⟩ := numV_int q (by rw [unf2, ← h1]; rfl)
          rw [← hR2, hi]
          simp -implicitDefEqProofs [hf, optD]
        · rw [numN (by rw [unf2, h1])]
          rw [← hR2]
          simp -implicitDefEqProofs [optD]
    · have k2 : (200 : Int) < (t.length : Int) + 1 := by omega
      rw [numN (by rw [unf]; simp [k])]
      simp -implicitDefEqProofs [lnTail, l_empty, l_0, e1, k2] at hR
      rw [← hR]
      simp [optD]
theorem T_lnum (N : Nat) (q : List Nat) (hN : 1 ≤ N) (hl : q.length ≤ 16777216) : T N f_l_number [.im (.str (txt q))] = .ret (.dat (optD (numV q))) [.im (.str (txt q))] := by
  obtain ⟨n, rfl⟩ : ∃ n, N = n + 1 := ⟨N - 1, by omega⟩
  refine (IL.tbl_succ (d := d_l_number.il) rfl rfl).trans ?_
  have tl := ln_tail n q hl
  cases q with
  | nil =>
    have c1 : IL.cutD ([] : List Nat) none (some 1) = [] := rfl
    have e : IL.dropP 45 [] = [] := rfl
    rw [e] at tl
    simp -implicitDefEqProofs [d_l_number, c_ln_eq, l_m, c1, tl]
  | cons c t =>
    have c1 : IL.cutD (c :: t) none (some 1) = [c] := by
      rw [cut_to _ 1 (by omega) (by rw [List.length_cons]; omega)]
      rfl
    have c2 : IL.cutD (c :: t) (some 1) none = t := by
      rw [cut_from _ 1 (by omega) (by rw [List.length_cons]; omega)]
      rfl
    have hl2 : t.length + 1 ≤ 16777216 := by simpa using hl
    by_cases k : c = 45
    · subst k
      have e : IL.dropP 45 (45 :: t) = t := rfl
      rw [e] at tl
      simp -implicitDefEqProofs [d_l_number, c_ln_eq, l_m, c1, c2, hl2, tl]
    · have e : IL.dropP 45 (c :: t) = c :: t := if_neg k
      rw [e] at tl
      simp -implicitDefEqProofs [d_l_number, c_ln_eq, l_m, c1, c2, hl2, k, tl]
end K04
end
section
set_option Elab.async false
set_option linter.all false
set_option autoImplicit false
set_option maxRecDepth 100000
set_option maxHeartbeats 4000000
/-! O5: what the law reads; both readers answer alike. -/
namespace K04
open PySem
open IL (Slot Ow seqD intsD txt txtsD spl)
theorem atI_last {α : Type} (ds : List α) (d : α) : L2.atI (ds ++ [d]) (-1) = some d := by
  unfold L2.atI L2.ixN
  rw [if_neg (by decide)]
  have e : ((-1 : Int) + ((ds ++ [d]).length : Int)) = (ds.length : Int) := by simp; omega
  rw [if_pos (by rw [List.length_append, List.length_singleton]; omega)]
  simp
  have : (-1 + ((ds.length : Int) + 1)).toNat = ds.length := by omega
  rw [this]
  simp
theorem snoc_of {α : Type} (l : List α) : l = [] ∨ ∃ a x, l = a ++ [x] := by
  rcases List.eq_nil_or_concat l with h | ⟨a, x, h⟩
  · exact .inl h
  · exact .inr ⟨a, x, by rw [h, List.concat_eq_append]⟩
def lvR : Option NT → PyData
  | some st => valD st
  | none => .none
def ILv (l : List Nat) (full : Option NT) (as : List (List Nat)) (δ : IL.Env) : Prop := ∃ (ns : List (List Nat)) (ts : List (List Nat × Int)) (s3 s4 s5 : Slot), δ = [.im (.str (txt l)), .ow (.lst (txtsD ns)), .ow (.lst (pairsD ts)), s3, s4, s5] ∧ fin (fold (ns, ts) as) = full ∧ goodB (ns, ts) = true ∧ ns.length + ts.length + as.length ≤ 7000001 ∧ (∀ w ∈ as, w.length ≤ 7000000)
open IL (CB) in
def lvBody : CB :=
      (.cons (.set (.name 4) (.tm1 .split (.var 3) (.str ("=" : Str))))
    (.cons (.cond (.or (.not (.tr (.call 11 (.cons (.fz (.idx (.var 4) (.int 0))) .nil)))) (.cmp .gt (.bi .len (.cons (.var 4) .nil)) (.int 2)))
      (.cons (.ret .none)
    .nil)
      .nil)
    (.cons (.cond (.cmp .eq (.bi .len (.cons (.var 4) .nil)) (.int 1))
      (.cons (.cond (.or (.tr (.var 2)) (.and (.tr (.var 1)) (.cmp .le (.var 3) (.idx (.var 1) (.neg (.int 1))))))
      (.cons (.ret .none)
    .nil)
      .nil)
    (.cons (.exp (.mt .append 1 (.cons (.var 3) .nil)))
    .nil))
      (.cons (.set (.name 5) (.call 12 (.cons (.fz (.idx (.var 4) (.int 1))) .nil)))
    (.cons (.cond (.or (.isN (.var 5)) (.and (.tr (.var 2)) (.cmp .le (.idx (.var 4) (.int 0)) (.idx (.idx (.var 2) (.neg (.int 1))) (.int 0)))))
      (.cons (.ret .none)
    .nil)
      .nil)
    (.cons (.exp (.mt .append 2 (.cons (.tup (.cons (.idx (.var 4) (.int 0)) (.cons (.var 5) .nil))) .nil)))
    .nil))))
    .nil)))
theorem c_lv_eq : c_l_values_of =
    (.cons (.set (.name 1) (.lst .nil))
    (.cons (.set (.name 2) (.lst .nil))
    (.cons (.cond (.cmp .eq (.var 0) (.str ("" : Str)))
      (.cons (.ret (.tup (.cons (.tup .nil) (.cons (.tup .nil) .nil))))
    .nil)
      .nil)
    (.cons (.loop (.name 3) (.of (.tm1 .split (.var 0) (.str (" " : Str)))) lvBody)
    (.cons (.ret (.tup (.cons (.bi .tuple (.cons (.var 1) .nil)) (.cons (.bi .tuple (.cons (.var 2) .nil)) .nil))))
    .nil))))) := rfl
theorem lv_step (n : Nat) (hn : 1 ≤ n) (l : List Nat) (full : Option NT) (w : List Nat) (as : List (List Nat)) (δ : IL.Env) (hI : ILv l full (w :: as) δ) :
    (∃ δ', (IL.forStep 1 (.name 3) (IL.exs ⟨1, IL.tbl (defs.map J.DefR.il) n⟩ lvBody) (.str (txt w)) δ = .ok .nx δ' ∨ IL.forStep 1 (.name 3) (IL.exs ⟨1, IL.tbl (defs.map J.DefR.il) n⟩ lvBody) (.str (txt w)) δ = .ok .ct δ') ∧ ILv l full as δ') ∨ (∃ v δ', IL.forStep 1 (.name 3) (IL.exs ⟨1, IL.tbl (defs.map J.DefR.il) n⟩ lvBody) (.str (txt w)) δ = .ok (.rt v) δ' ∧ v = .dat .none ∧ full = none ∧ ∃ rest, δ' = .im (.str (txt l)) :: rest) := by
  obtain ⟨ns, ts, s3, s4, s5, rfl, h1, hg, h2, h3⟩ := hI
  have hw := h3 w List.mem_cons_self
  rw [List.length_cons] at h2
  rw [fold] at h1
  have hns : ns.length < 16777216 := by omega
  have hts : ts.length < 16777216 := by omega
  have h3' : ∀ w ∈ as, w.length ≤ 7000000 := fun x hx => h3 x (List.mem_cons_of_mem _ hx)
  have w1 : w.length + 2 ≤ 16777216 := by omega
  have out : ∀ (ds : List PyData) (s5' : Slot), full = none → IL.forStep 1 (.name 3) (IL.exs ⟨1, IL.tbl (defs.map J.DefR.il) n⟩ lvBody) (.str (txt w)) [.im (.str (txt l)), .ow (.lst (txtsD ns)), .ow (.lst (pairsD ts)), s3, s4, s5] = .ok (.rt (.dat .none)) [.im (.str (txt l)), .ow (.lst (txtsD ns)), .ow (.lst (pairsD ts)), .im (.str (txt w)), .ow (.lst ds), s5'] →
      (∃ v δ', IL.forStep 1 (.name 3) (IL.exs ⟨1, IL.tbl (defs.map J.DefR.il) n⟩ lvBody) (.str (txt w)) [.im (.str (txt l)), .ow (.lst (txtsD ns)), .ow (.lst (pairsD ts)), s3, s4, s5] = .ok (.rt v) δ' ∧ v = .dat .none ∧ full = none ∧ ∃ rest, δ' = .im (.str (txt l)) :: rest) := by
    intro ds s5' hf he
    exact ⟨_, _, he, rfl, hf, _, rfl⟩
  by_cases hm : 61 ∈ w
  · obtain ⟨p, q, rfl, hp⟩ := IL.cut_of hm
    rw [cls_cut p q hp] at h1
    have w2 := hw
    rw [List.length_append, List.length_cons] at hw w1
    have nb := T_lname n p (by omega) hn
    have es := IL.split_txt (p ++ 61 :: q) 61 (by rw [List.length_append, List.length_cons]; omega) (by decide)
    rw [IL.spl_cut q hp] at es
    have ed : txtsD (p :: spl 61 q) = .str (txt p) :: txtsD (spl 61 q) := rfl
    rw [ed] at es
    cases hb : nameB p with
    | false =>
      rw [hb] at nb h1
      refine .inr (out (.str (txt p) :: txtsD (spl 61 q)) s5 h1.symm ?_)
      simp -implicitDefEqProofs [lvBody, l_eq, es, -IL.split_txt, nb]
    | true =>
      rw [hb] at nb h1
      simp only [if_true] at h1
      by_cases hq : 61 ∈ q
      · rw [num_no_eq q hq] at h1
        have := IL.spl_two hq
        have q1 : (2 : Int) < ((spl 61 q).length : Int) + 1 := by omega
        refine .inr (out (.str (txt p) :: txtsD (spl 61 q)) s5 h1.symm ?_)
        simp -implicitDefEqProofs [lvBody, l_eq, es, -IL.split_txt, nb, q1]
      · rw [IL.spl_no hq] at es
        have ed2 : txtsD [q] = [.str (txt q)] := rfl
        rw [ed2] at es
        have nm := T_lnum n q hn (by omega)
        cases hv : numV q with
        | none =>
          rw [hv] at nm h1
          refine .inr (out [.str (txt p), .str (txt q)] (.im .none) h1.symm ?_)
          simp -implicitDefEqProofs [lvBody, l_eq, es, -IL.split_txt, nb, nm, optD]
        | some i =>
          rw [hv] at nm h1
          simp only at h1
          have go : IL.forStep 1 (.name 3) (IL.exs ⟨1, IL.tbl (defs.map J.DefR.il) n⟩ lvBody) (.str (txt (p ++ 61 :: q))) [.im (.str (txt l)), .ow (.lst (txtsD ns)), .ow (.lst (pairsD ts)), s3, s4, s5] = .ok .nx [.im (.str (txt l)), .ow (.lst (txtsD ns)), .ow (.lst (pairsD (ts ++ [(p, i)]))), .im (.str (txt (p ++ 61 :: q))), .ow (.lst [.str (txt p), .str (txt q)]), .im (.int i)] → goodB (ns, ts ++ [(p, i)]) = true → (∃ δ', (IL.forStep 1 (.name 3) (IL.exs ⟨1, IL.tbl (defs.map J.DefR.il) n⟩ lvBody) (.str (txt (p ++ 61 :: q))) [.im (.str (txt l)), .ow (.lst (txtsD ns)), .ow (.lst (pairsD ts)), s3, s4, s5] = .ok .nx δ' ∨ IL.forStep 1 (.name 3) (IL.exs ⟨1, IL.tbl (defs.map J.DefR.il) n⟩ lvBody) (.str (txt (p ++ 61 :: q))) [.im (.str (txt l)), .ow (.lst (txtsD ns)), .ow (.lst (pairsD ts)), s3, s4, s5] = .ok .ct δ') ∧ ILv l full as δ') := by
            intro he hg2
            exact ⟨_, .inl he, ns, ts ++ [(p, i)], _, _, _, rfl, h1, hg2, by simp; omega, h3'⟩
          rcases snoc_of ts with rfl | ⟨tt, ⟨x, j⟩, rfl⟩
          · refine .inl (go ?_ ?_)
            · rw [pairsD_snoc]
              simp -implicitDefEqProofs [lvBody, l_eq, es, -IL.split_txt, nb, nm, optD]
            · unfold goodB at hg ⊢
              simpa [asc] using hg
          · have la := atI_last (pairsD tt) (.tuple [.str (txt x), .int j])
            rw [pairsD_snoc] at go out ⊢
            have ne : (pairsD tt ++ [PyData.tuple [.str (txt x), .int j]]).isEmpty = false := by simp
            have hg2 := asc_snoc (tt.map (·.1)) x p
            have eg : goodB (ns, tt ++ [(x, j)] ++ [(p, i)]) = (asc ns && (asc (tt.map (·.1) ++ [x]) && decide (x < p))) := by
              unfold goodB
              rw [List.map_append, List.map_append]
              simp only [List.map_cons, List.map_nil]
              rw [hg2]
            have eg0 : (asc ns && asc (tt.map (·.1) ++ [x])) = true := by
              unfold goodB at hg
              rw [List.map_append] at hg
              exact hg
            by_cases hlt : x < p
            · refine .inl (go ?_ ?_)
              · rw [pairsD_snoc, pairsD_snoc]
                simp only [List.length_append, List.length_singleton] at hts
                simp -implicitDefEqProofs [lvBody, l_eq, es, -IL.split_txt, nb, nm, optD, la, ne, hlt, hts]
              · rw [eg, decide_eq_true hlt, Bool.and_true]
                exact eg0
            · have bad : goodB (ns, tt ++ [(x, j)] ++ [(p, i)]) = false := by
                rw [eg, decide_eq_false hlt, Bool.and_false, Bool.and_false]
              rw [fin_bad _ _ _ bad] at h1
              refine .inr (out [.str (txt p), .str (txt q)] (.im (.int i)) h1.symm ?_)
              simp -implicitDefEqProofs [lvBody, l_eq, es, -IL.split_txt, nb, nm, optD, la, ne, hlt]
  · rw [cls_no w hm] at h1
    have nb := T_lname n w (by omega) hn
    have es := IL.split_txt w 61 (by omega) (by decide)
    rw [IL.spl_no hm] at es
    have ed : txtsD [w] = [.str (txt w)] := rfl
    rw [ed] at es
    cases hb : nameB w with
    | false =>
      rw [hb] at nb h1
      refine .inr (out [.str (txt w)] s5 h1.symm ?_)
      simp -implicitDefEqProofs [lvBody, l_eq, es, -IL.split_txt, nb]
    | true =>
      rw [hb] at nb h1
      simp only [if_true] at h1
      by_cases hz : ts = []
      · rw [if_pos hz] at h1
        subst hz
        have go : IL.forStep 1 (.name 3) (IL.exs ⟨1, IL.tbl (defs.map J.DefR.il) n⟩ lvBody) (.str (txt w)) [.im (.str (txt l)), .ow (.lst (txtsD ns)), .ow (.lst (pairsD [])), s3, s4, s5] = .ok .nx [.im (.str (txt l)), .ow (.lst (txtsD (ns ++ [w]))), .ow (.lst (pairsD [])), .im (.str (txt w)), .ow (.lst [.str (txt w)]), s5] → goodB (ns ++ [w], []) = true → (∃ δ', (IL.forStep 1 (.name 3) (IL.exs ⟨1, IL.tbl (defs.map J.DefR.il) n⟩ lvBody) (.str (txt w)) [.im (.str (txt l)), .ow (.lst (txtsD ns)), .ow (.lst (pairsD [])), s3, s4, s5] = .ok .nx δ' ∨ IL.forStep 1 (.name 3) (IL.exs ⟨1, IL.tbl (defs.map J.DefR.il) n⟩ lvBody) (.str (txt w)) [.im (.str (txt l)), .ow (.lst (txtsD ns)), .ow (.lst (pairsD [])), s3, s4, s5] = .ok .ct δ') ∧ ILv l full as δ') := by
          intro he hg2
          exact ⟨_, .inl he, ns ++ [w], [], _, _, _, rfl, h1, hg2, by simp; omega, h3'⟩
        rcases snoc_of ns with rfl | ⟨nn, x, rfl⟩
        · refine .inl (go ?_ rfl)
          rw [txtsD_snoc]
          simp -implicitDefEqProofs [lvBody, l_eq, es, -IL.split_txt, nb, optD]
        · have la := atI_last (txtsD nn) (.str (txt x))
          have ne : (txtsD nn ++ [PyData.str (txt x)]).isEmpty = false := by simp
          have eg : goodB (nn ++ [x] ++ [w], []) = (asc (nn ++ [x]) && decide (x < w)) := by
            unfold goodB
            simp only
            rw [asc_snoc]
            simp [asc]
          have eg0 : asc (nn ++ [x]) = true := by
            unfold goodB at hg
            simpa [asc] using hg
          rw [txtsD_snoc] at go out ⊢
          by_cases hlt : x < w
          · refine .inl (go ?_ ?_)
            · rw [txtsD_snoc, txtsD_snoc]
              simp only [List.length_append, List.length_singleton] at hns
              simp -implicitDefEqProofs [lvBody, l_eq, es, -IL.split_txt, nb, optD, la, ne, hlt, hns]
            · rw [eg, decide_eq_true hlt, Bool.and_true]
              exact eg0
          · have bad : goodB (nn ++ [x] ++ [w], []) = false := by
              rw [eg, decide_eq_false hlt, Bool.and_false]
            rw [fin_bad _ _ _ bad] at h1
            refine .inr (out [.str (txt w)] s5 h1.symm ?_)
            simp -implicitDefEqProofs [lvBody, l_eq, es, -IL.split_txt, nb, optD, la, ne, hlt]
      · rw [if_neg hz] at h1
        have he : (pairsD ts).isEmpty = false := by
          cases ts with
          | nil => exact absurd rfl hz
          | cons a b => rfl
        refine .inr (out [.str (txt w)] s5 h1.symm ?_)
        simp -implicitDefEqProofs [lvBody, l_eq, es, -IL.split_txt, nb, optD, he]
theorem T_lvals (N : Nat) (l : List Nat) (hN : 2 ≤ N) (hl : l.length ≤ 7000000) : T N f_l_values_of [.im (.str (txt l))] = .ret (.dat (lvR (ans l))) [.im (.str (txt l))] := by
  obtain ⟨n, rfl⟩ : ∃ n, N = n + 1 := ⟨N - 1, by omega⟩
  have run := IL.tbl_succ (ds := defs.map J.DefR.il) (n := n) (f := f_l_values_of) (d := d_l_values_of.il) (δ := [.im (.str (txt l))]) rfl rfl
  by_cases q : l = []
  · subst q
    refine run.trans ?_
    simp -implicitDefEqProofs [d_l_values_of, c_lv_eq, l_empty]
    rfl
  · have w1 : l.length + 2 ≤ 16777216 := by omega
    have e : wordsOf l = spl 32 l := if_neg q
    have hlen := wordsOf_len l
    have hsh := wordsOf_short l
    rw [e] at hlen hsh
    simp -implicitDefEqProofs [d_l_values_of, c_lv_eq, l_empty, l_sp, q, w1] at run
    generalize hX : IL.forGo _ _ _ _ _ = X at run
    have I0 : ILv l (ans l) (spl 32 l) [.im (.str (txt l)), .ow (.lst (txtsD [])), .ow (.lst (pairsD [])), .un, .un, .un] := ⟨[], [], .un, .un, .un, rfl, by unfold ans; rw [e], rfl, by simp; omega, fun w hw => Nat.le_trans (hsh w hw) hl⟩
    rcases IL.forGo_rels (fun w => PyData.str (txt w)) (ILv l (ans l)) (fun v δ' => v = .dat .none ∧ ans l = none ∧ ∃ rest, δ' = .im (.str (txt l)) :: rest) hX I0 (fun a as δ h => lv_step n (by omega) l _ a as δ h) with ⟨δ', rfl, ns, ts, s3, s4, s5, rfl, h1, hg, -, -⟩ | ⟨v, δ', rfl, rfl, h1, rest, rfl⟩
    · refine run.trans ?_
      have : ans l = some (ns, ts) := by
        rw [← h1]
        unfold fold fin
        simp only
        rw [if_pos hg]
      rw [this]
      simp -implicitDefEqProofs [lvR, valD]
    · refine run.trans ?_
      rw [h1]
      simp -implicitDefEqProofs [lvR]
end K04
end
section
set_option Elab.async false
set_option linter.all false
set_option autoImplicit false
set_option maxRecDepth 100000
set_option maxHeartbeats 4000000
/-! O6: the law's reading of a text is right, whatever the text. -/
namespace K04
open PySem
open IL (Slot Ow seqD intsD txt txtsD spl)
section
variable {kp : Nat} {g : IL.Tg} {b : IL.Env → IL.R IL.Fl}
theorem forGo_range (n : Nat) (I : Nat → IL.Env → Prop) {δ : IL.Env} {X : IL.R IL.Fl} (hX : IL.forGo kp g b (intsD ((List.range n).map fun (i : Nat) => (i : Int))) δ = X) (i : I 0 δ)
    (hstep : ∀ k δ, k < n → I k δ → ∃ δ', (IL.forStep kp g b (.int (k : Int)) δ = .ok .nx δ' ∨ IL.forStep kp g b (.int (k : Int)) δ = .ok .ct δ') ∧ I (k + 1) δ') : ∃ δ', X = .ok .nx δ' ∧ I n δ' := by
  obtain ⟨δ', h1, k, h2, h3⟩ : ∃ δ', X = .ok .nx δ' ∧ ∃ k, ([] : List Int) = (((List.range n).map fun (i : Nat) => (i : Int)).drop k) ∧ k ≤ n ∧ I k δ' := by
    refine IL.forGo_alls PyData.int (fun as δ => ∃ k, as = (((List.range n).map fun (i : Nat) => (i : Int)).drop k) ∧ k ≤ n ∧ I k δ) hX ⟨0, rfl, Nat.zero_le _, i⟩ ?_
    rintro a as δ ⟨k, h1, h2, h3⟩
    have hk : k < n := by
      have := congrArg List.length h1
      simp at this
      omega
    rw [List.drop_eq_getElem_cons (by simpa using hk)] at h1
    obtain ⟨rfl, rfl⟩ := List.cons.inj h1
    obtain ⟨δ', q1, q2⟩ := hstep k δ hk h3
    refine ⟨δ', ?_, k + 1, rfl, hk, q2⟩
    simpa using q1
  refine ⟨δ', h1, ?_⟩
  have : k = n := by
    have := congrArg List.length h2
    simp at this
    omega
  subst this
  exact h3.2
end
@[simp] theorem backE_xc (c : Nat) (fs : List (Str × PyData)) (s : Slot) (a b : IL.Env) : IL.backE (.xc c fs :: a) (s :: b) = .xc c fs :: IL.backE a b := rfl
def SameOk (k : Nat) (d : PyData) : Prop := ∀ n, k ≤ n → T n f_l_same [.im d, .im d] = .ret (.dat (.bool true)) [.im d, .im d]
theorem same_txt (l : List Nat) : SameOk 1 (.str (txt l)) := by
  intro N hN
  obtain ⟨n, rfl⟩ : ∃ n, N = n + 1 := ⟨N - 1, by omega⟩
  refine (IL.tbl_succ (d := d_l_same.il) rfl rfl).trans ?_
  simp -implicitDefEqProofs [d_l_same, c_l_same]
theorem same_int (i : Int) : SameOk 1 (.int i) := by
  intro N hN
  obtain ⟨n, rfl⟩ : ∃ n, N = n + 1 := ⟨N - 1, by omega⟩
  refine (IL.tbl_succ (d := d_l_same.il) rfl rfl).trans ?_
  simp -implicitDefEqProofs [d_l_same, c_l_same]
theorem same_tuple (k : Nat) (ds : List PyData) (h : ∀ d ∈ ds, SameOk k d) (hl : ds.length ≤ 4000000000000) : SameOk (k + 1) (.tuple ds) := by
  intro N hN
  obtain ⟨n, rfl⟩ : ∃ n, N = n + 1 := ⟨N - 1, by omega⟩
  have run := IL.tbl_succ (ds := defs.map J.DefR.il) (n := n) (f := f_l_same) (d := d_l_same.il) (δ := [.im (.tuple ds), .im (.tuple ds)]) rfl rfl
  have w1 : -4611686018427387904 ≤ (ds.length : Int) := by omega
  have w2 : (ds.length : Int) < 4611686018427387904 := by omega
  simp -implicitDefEqProofs [d_l_same, c_l_same, w1, w2] at run
  generalize hX : IL.forGo _ _ _ _ _ = X at run
  obtain ⟨δ', rfl, s, rfl⟩ : ∃ δ', X = .ok .nx δ' ∧ ∃ s : Slot, δ' = [.im (.tuple ds), .im (.tuple ds), s] := by
    refine forGo_range ds.length (fun _ δ => ∃ s : Slot, δ = [.im (.tuple ds), .im (.tuple ds), s]) hX ⟨.un, rfl⟩ ?_
    rintro k' _ hk ⟨s, rfl⟩
    have e := h ds[k'] (List.getElem_mem hk) n (by omega)
    have a := IL.atI_ofNat ds k'
    rw [List.getElem?_eq_getElem hk] at a
    refine ⟨[.im (.tuple ds), .im (.tuple ds), .im (.int (k' : Int))], .inl ?_, _, rfl⟩
    simp -implicitDefEqProofs [a, e]
  refine run.trans ?_
  simp -implicitDefEqProofs
theorem same_val (st : NT) (h1 : st.1.length ≤ 8000000) (h2 : st.2.length ≤ 8000000) : SameOk 4 (valD st) := by
  unfold valD
  refine same_tuple 3 _ ?_ (by simp)
  intro d hd
  rcases List.mem_cons.mp hd with rfl | hd
  · refine fun n hn => same_tuple 1 _ ?_ (by simp; omega) n (by omega)
    intro d hd
    obtain ⟨l, -, rfl⟩ := List.mem_map.mp hd
    exact same_txt l
  · rw [List.mem_singleton] at hd
    subst hd
    refine same_tuple 2 _ ?_ (by simp; omega)
    intro d hd
    obtain ⟨⟨p, i⟩, -, rfl⟩ := List.mem_map.mp hd
    refine same_tuple 1 _ ?_ (by simp)
    intro d hd
    rcases List.mem_cons.mp hd with rfl | hd
    · exact same_txt p
    · rw [List.mem_singleton] at hd
      subst hd
      exact same_int i
theorem T_own (N : Nat) (fs : List (Str × PyData)) (hN : 1 ≤ N) : T N f_l_own [.xc 3 fs] = .ret (.dat (.bool true)) [.xc 3 fs] := by
  obtain ⟨n, rfl⟩ : ∃ n, N = n + 1 := ⟨N - 1, by omega⟩
  refine (IL.tbl_succ (d := d_l_own.il) rfl rfl).trans ?_
  simp -implicitDefEqProofs [d_l_own, c_l_own]
theorem fold_len : ∀ (ws : List (List Nat)) (ns : List (List Nat)) (ts : List (List Nat × Int)) (st : NT), fold (ns, ts) ws = some st → st.1.length + st.2.length = ns.length + ts.length + ws.length
  | [], ns, ts, st, h => by
    have : (ns, ts) = st := by simpa [fold] using h
    rw [← this]
    simp
  | w :: ws, ns, ts, st, h => by
    rw [fold] at h
    cases hc : cls w with
    | nm =>
      rw [hc] at h
      simp only at h
      by_cases q : ts = []
      · rw [if_pos q] at h
        have := fold_len ws _ _ _ h
        simp at this ⊢
        omega
      · rw [if_neg q] at h
        cases h
    | pr p i =>
      rw [hc] at h
      have := fold_len ws _ _ _ h
      simp at this ⊢
      omega
    | bad =>
      rw [hc] at h
      cases h
theorem ans_len (l : List Nat) (st : NT) (h : ans l = some st) : st.1.length + st.2.length ≤ l.length + 1 := by
  unfold ans at h
  cases hf : fold ([], []) (wordsOf l) with
  | none =>
    rw [hf] at h
    cases h
  | some s =>
    rw [hf] at h
    have : s = st := by
      unfold fin at h
      simp only at h
      split at h
      · exact Option.some.inj h
      · cases h
    subst this
    have e := fold_len _ _ _ _ hf
    have := wordsOf_len l
    simp at e
    omega
theorem T_lread (N : Nat) (l : List Nat) (hN : 5 ≤ N) (hl : l.length ≤ 7000000) : T N f_l_read [.im (.str (txt l))] = .ret (.dat (.bool true)) [.im (.str (txt l))] := by
  obtain ⟨n, rfl⟩ : ∃ n, N = n + 1 := ⟨N - 1, by omega⟩
  refine (IL.tbl_succ (d := d_l_read.il) rfl rfl).trans ?_
  have e1 := T_lvals n l (by omega) hl
  have e2 := T_read n l (by omega) hl
  cases ha : ans l with
  | none =>
    rw [ha] at e1 e2
    have e3 := T_own n lineX (by omega)
    have e4 := same_int 1 n (by omega)
    simp only [rdR, lvR, lineX] at e1 e2 e3
    simp -implicitDefEqProofs [d_l_read, c_l_read, e1, e2, e3, e4]
  | some st =>
    rw [ha] at e1 e2
    have q := ans_len l st ha
    have e3 := same_val st (by omega) (by omega) n (by omega)
    simp only [rdR, lvR] at e1 e2
    have nn : IL.isNoneD (valD st) = false := rfl
    simp -implicitDefEqProofs [d_l_read, c_l_read, e1, e2, e3, nn]
end K04
end
section
set_option Elab.async false
set_option linter.all false
set_option autoImplicit false
set_option maxRecDepth 100000
set_option maxHeartbeats 4000000
/-! O7: what is drawn: numbers, names. -/
namespace K04
open PySem
open IL (Slot Ow seqD intsD txt txtsD spl)
structure Box where
  l : List Int
  p : Int
  r : Int
  h : Int
  k : Int
def Box.ds (B : Box) : List PyData := [.list (intsD B.l), .int B.p, .int B.r, .int B.h, .int B.k]
def Ok (B : Box) : Prop := 0 ≤ B.p
open IL (CB) in
def takeTail : CB :=
    (.cons (.cond (.cmp .gt (.idx (.var 0) (.int 2)) (.int 0))
      (.cons (.set (.name 3) (.bin .mod (.bi .int (.cons (.idx (.var 0) (.int 2)) .nil)) (.var 1)))
    (.cons (.setI 0 (.int 2) (.bin .fdiv (.idx (.var 0) (.int 2)) (.var 1)))
    (.cons (.ret (.var 3))
    .nil)))
      .nil)
    (.cons (.setI 0 (.int 4) (.bin .add (.idx (.var 0) (.int 4)) (.int 1)))
    (.cons (.setI 0 (.int 3) (.bin .mod (.bi .int (.cons (.bin .add (.bin .add (.bin .mul (.idx (.var 0) (.int 3)) (.int 69621)) (.bin .mul (.idx (.var 0) (.int 4)) (.int 40503))) (.int 7)) .nil)) (.int 2147483647)))
    (.cons (.ret (.bin .mod (.bin .fdiv (.bi .int (.cons (.bin .add (.bin .fdiv (.idx (.var 0) (.int 3)) (.int 31)) (.bin .mod (.bi .int (.cons (.bin .mul (.idx (.var 0) (.int 3)) (.int 7919)) .nil)) (.int 2147483629))) .nil)) (.int 16)) (.var 1)))
    .nil))))
theorem c_take_eq : c_l_take =
    (.cons (.cond (.and (.cmp .eq (.idx (.var 0) (.int 2)) (.int 0)) (.cmp .lt (.idx (.var 0) (.int 1)) (.bi .len (.cons (.idx (.var 0) (.int 0)) .nil))))
      (.cons (.set (.name 2) (.bi .abs (.cons (.idx (.idx (.var 0) (.int 0)) (.idx (.var 0) (.int 1))) .nil)))
    (.cons (.setI 0 (.int 1) (.bin .add (.idx (.var 0) (.int 1)) (.int 1)))
    (.cons (.setI 0 (.int 3) (.bin .mod (.bi .int (.cons (.bin .add (.bin .add (.bin .mul (.idx (.var 0) (.int 3)) (.int 48271)) (.bin .mod (.bi .int (.cons (.var 2) .nil)) (.int 2147483629))) (.int 1)) .nil)) (.int 2147483647)))
    (.cons (.cond (.cmp .ge (.var 2) (.bin .pow (.int 10) (.int 18)))
      (.cons (.setI 0 (.int 2) (.bin .sub (.var 2) (.bin .pow (.int 10) (.int 18))))
    .nil)
      .nil)
    .nil))))
      .nil) takeTail) := rfl
theorem take_tail (n : Nat) (size : Int) (B : Box) (s2 : Slot) (h0 : 0 < size) (h1 : size.natAbs.log2 < 9000) (hB : Ok B) :
    ∃ (t : Int) (B' : Box) (rest : IL.Env), IL.exs ⟨2, IL.tbl (defs.map J.DefR.il) n⟩ takeTail [.ow (.lst B.ds), .im (.int size), s2, .un] = .ok (.rt (.dat (.int t))) (.ow (.lst B'.ds) :: .im (.int size) :: rest) ∧ 0 ≤ t ∧ t < size ∧ Ok B' := by
  have fd : ∀ x : Int, IL.binop .fdiv (.int x) (.int size) = some (.dat (.int (x / size))) := fun x => by rw [IL.fdiv_int, if_pos ⟨h0, h1⟩]
  have md : ∀ x : Int, IL.binop .mod (.int x) (.int size) = some (.dat (.int (x % size))) := fun x => IL.mod_pos x size h0
  by_cases hr : 0 < B.r
  · refine ⟨B.r % size, ⟨B.l, B.p, B.r / size, B.h, B.k⟩, _, (?_ : _ = IL.R.ok (IL.Fl.rt (.dat (.int (B.r % size)))) [.ow (.lst (Box.ds ⟨B.l, B.p, B.r / size, B.h, B.k⟩)), .im (.int size), s2, .im (.int (B.r % size))]), Int.emod_nonneg _ (by omega), Int.emod_lt_of_pos _ h0, hB⟩
    simp -implicitDefEqProofs [takeTail, Box.ds, hr, fd, md]
  · refine ⟨_, ⟨B.l, B.p, B.r, (B.h * 69621 + (B.k + 1) * 40503 + 7) % 2147483647, B.k + 1⟩, _, (?_ : _ = IL.R.ok (IL.Fl.rt (.dat (.int ((((B.h * 69621 + (B.k + 1) * 40503 + 7) % 2147483647 / 31 + (B.h * 69621 + (B.k + 1) * 40503 + 7) % 2147483647 * 7919 % 2147483629) / 16) % size)))) [.ow (.lst (Box.ds ⟨B.l, B.p, B.r, (B.h * 69621 + (B.k + 1) * 40503 + 7) % 2147483647, B.k + 1⟩)), .im (.int size), s2, .un]), Int.emod_nonneg _ (by omega), Int.emod_lt_of_pos _ h0, hB⟩
    simp -implicitDefEqProofs [takeTail, Box.ds, hr, fd, md]
theorem T_takeL (N : Nat) (size : Int) (B : Box) (hN : 1 ≤ N) (h0 : 0 < size) (h1 : size.natAbs.log2 < 9000) (hB : Ok B) :
    ∃ (t : Int) (B' : Box), T N f_l_take [.ow (.lst B.ds), .im (.int size)] = .ret (.dat (.int t)) [.ow (.lst B'.ds), .im (.int size)] ∧ 0 ≤ t ∧ t < size ∧ Ok B' := by
  obtain ⟨n, rfl⟩ : ∃ n, N = n + 1 := ⟨N - 1, by omega⟩
  have run := IL.tbl_succ (ds := defs.map J.DefR.il) (n := n) (f := f_l_take) (d := d_l_take.il) (δ := [.ow (.lst B.ds), .im (.int size)]) rfl rfl
  by_cases hr : B.r = 0 ∧ B.p < B.l.length
  · obtain ⟨r0, r2⟩ := hr
    obtain ⟨i, hi⟩ := Int.eq_ofNat_of_zero_le hB
    have hil : i < B.l.length := by omega
    have hat : L2.atI (intsD B.l) B.p = some (.int B.l[i]) := by
      rw [hi, IL.atI_ofNat]
      unfold intsD
      rw [List.getElem?_map, List.getElem?_eq_getElem hil]
      rfl
    obtain ⟨c, hc⟩ : ∃ c : Int, (if B.l[i] < 0 then -B.l[i] else B.l[i]) = c := ⟨_, rfl⟩
    have fa : IL.fn .abs [.int B.l[i]] = some (.dat (.int c)) := by rw [IL.fn_abs, hc]
    by_cases q : 1000000000000000000 ≤ c
    · obtain ⟨t, B', rest, e, u, v, w⟩ := take_tail n size ⟨B.l, B.p + 1, c - 1000000000000000000, (B.h * 48271 + c % 2147483629 + 1) % 2147483647, B.k⟩ (.im (.int c)) h0 h1 (by unfold Ok at hB ⊢; simp only; omega)
      refine ⟨t, B', run.trans ?_, u, v, w⟩
      simp only [Box.ds] at e
      simp -implicitDefEqProofs [d_l_take, c_take_eq, Box.ds, r0, r2, hat, fa, -IL.fn_abs, q, e]
    · obtain ⟨t, B', rest, e, u, v, w⟩ := take_tail n size ⟨B.l, B.p + 1, 0, (B.h * 48271 + c % 2147483629 + 1) % 2147483647, B.k⟩ (.im (.int c)) h0 h1 (by unfold Ok at hB ⊢; simp only; omega)
      refine ⟨t, B', run.trans ?_, u, v, w⟩
      simp only [Box.ds] at e
      simp -implicitDefEqProofs [d_l_take, c_take_eq, Box.ds, r0, r2, hat, fa, -IL.fn_abs, q, e]
  · obtain ⟨t, B', rest, e, u, v, w⟩ := take_tail n size B .un h0 h1 hB
    refine ⟨t, B', run.trans ?_, u, v, w⟩
    simp only [Box.ds] at e
    by_cases r0 : B.r = 0
    · have r1 : ¬ B.p < B.l.length := fun z => hr ⟨r0, z⟩
      rw [r0] at e
      simp -implicitDefEqProofs [d_l_take, c_take_eq, Box.ds, r0, r1, e]
    · simp -implicitDefEqProofs [d_l_take, c_take_eq, Box.ds, r0, e]
theorem T_take (N : Nat) (size : Int) (B : Box) (hN : 1 ≤ N) (h0 : 0 < size) (h1 : size < 18446744073709551616) (hB : Ok B) :
    ∃ (t : Int) (B' : Box), T N f_l_take [.ow (.lst B.ds), .im (.int size)] = .ret (.dat (.int t)) [.ow (.lst B'.ds), .im (.int size)] ∧ 0 ≤ t ∧ t < size ∧ Ok B' :=
  T_takeL N size B hN h0 (IL.log2_small (by omega)) hB
/-! ### names -/
abbrev namesD := txtsD
theorem names_mem (l : List Nat) (ns : List (List Nat)) : IL.mem (.str (txt l)) (txtsD ns) = decide (l ∈ ns) := by
  unfold IL.mem txtsD
  rw [List.any_map]
  induction ns with
  | nil => simp
  | cons n ns ih =>
    rw [List.any_cons, ih]
    simp
    by_cases h : n = l
    · simp [h]
    · have h' : ¬ l = n := fun q => h q.symm
      simp [h, h']
@[simp] theorem txtsD_depth (ns : List (List Nat)) : PyData.depthAll (txtsD ns) = 0 := by
  have := IL.depthAll_map (fun l => PyData.str (txt l)) 0 (fun a => by simp) ns
  exact Nat.le_zero.mp this
@[simp] theorem names_memOk (l : List Nat) (ns : List (List Nat)) : IL.memOk (.str (txt l)) (txtsD ns) = true := by simp [IL.memOk]
theorem names_at (ns : List (List Nat)) (i : Int) (h0 : 0 ≤ i) (h1 : i < ns.length) : ∃ l ∈ ns, L2.atI (txtsD ns) i = some (.str (txt l)) := by
  obtain ⟨j, rfl⟩ := Int.eq_ofNat_of_zero_le h0
  have hj : j < ns.length := by omega
  refine ⟨ns[j], List.getElem_mem hj, ?_⟩
  rw [IL.atI_ofNat]
  unfold txtsD
  rw [List.getElem?_map, List.getElem?_eq_getElem hj]
  rfl
/-- eight signs at the most, one at the least, all ascii -/
def Nm (l : List Nat) : Prop := 1 ≤ l.length ∧ l.length ≤ 8 ∧ ∀ c ∈ l, c < 128
theorem at_of (S : List Nat) (hS : ∀ c ∈ S, c < 128) (i : Int) (h0 : 0 ≤ i) (h1 : i < S.length) : ∃ c, L2.atI S i = some c ∧ c < 128 := by
  obtain ⟨j, rfl⟩ := Int.eq_ofNat_of_zero_le h0
  have hj : j < S.length := by omega
  exact ⟨S[j], by rw [IL.atI_ofNat, List.getElem?_eq_getElem hj], hS _ (List.getElem_mem hj)⟩
theorem let_at (i : Int) (h0 : 0 ≤ i) (h1 : i < 26) : ∃ c, L2.atI letters i = some c ∧ c < 128 := at_of letters (by decide) i h0 h1
theorem sgn_at (i : Int) (h0 : 0 ≤ i) (h1 : i < 36) : ∃ c, L2.atI nsigns i = some c ∧ c < 128 := at_of nsigns (by decide) i h0 h1
theorem but_one (n : List Nat) : ∀ L : List (List Nat), L.Nodup → L.length ≤ (L.filter fun c => decide (c ≠ n)).length + 1
  | [], _ => by simp
  | c :: L, h => by
    rw [List.nodup_cons] at h
    by_cases q : c = n
    · subst q
      rw [List.filter_cons_of_neg (by simp), List.filter_eq_self.mpr (fun x hx => decide_eq_true (p := x ≠ c) fun (e : x = c) => h.1 (e ▸ hx)), List.length_cons]
      exact Nat.le_refl _
    · rw [List.filter_cons_of_pos (by simpa using q), List.length_cons, List.length_cons]
      have := but_one n L h.2
      omega
theorem free_one : ∀ (ns cs : List (List Nat)), cs.Nodup → cs.length ≤ (cs.filter fun c => decide (c ∉ ns)).length + ns.length
  | [], cs, _ => by
    rw [List.filter_eq_self.mpr (fun x _ => decide_eq_true (List.not_mem_nil))]
    exact Nat.le_refl _
  | n :: ns, cs, h => by
    have ih := free_one ns cs h
    have e : (cs.filter fun c => decide (c ∉ n :: ns)) = (cs.filter fun c => decide (c ∉ ns)).filter fun c => decide (c ≠ n) := by
      rw [List.filter_filter]
      apply List.filter_congr
      intro c _
      by_cases a : c = n <;> by_cases b : c ∈ ns <;> simp [a, b]
    rw [e, List.length_cons]
    have := but_one n _ (h.filter fun c => decide (c ∉ ns))
    omega
open IL (CB) in
def nmNew : CB :=
      (.cons (.set (.name 6) (.idx (.var 2) (.call 7 (.cons (.var 0) (.cons (.int 26) .nil)))))
    (.cons (.loop (.name 8) (.rng1 (.bin .mul (.call 7 (.cons (.var 0) (.cons (.int 2) .nil))) (.call 7 (.cons (.var 0) (.cons (.int 8) .nil)))))
      (.cons (.set (.name 6) (.bin .add (.var 6) (.idx (.var 3) (.call 7 (.cons (.var 0) (.cons (.int 36) .nil))))))
    .nil))
    .nil))
open IL (CB) in
def nmOld : CB :=
      (.cons (.set (.name 6) (.idx (.var 4) (.call 7 (.cons (.var 0) (.cons (.fz (.var 5)) .nil)))))
    (.cons (.set (.name 7) (.call 7 (.cons (.var 0) (.cons (.int 9) .nil))))
    (.cons (.cond (.cmp .eq (.var 7) (.int 0))
      (.cons (.set (.name 6) (.bin .add (.idx (.var 2) (.call 7 (.cons (.var 0) (.cons (.int 26) .nil)))) (.sli (.var 6) (.yes (.int 1)) .no)))
    .nil)
      (.cons (.cond (.cmp .lt (.var 7) (.bi .len (.cons (.var 6) .nil)))
      (.cons (.set (.name 6) (.bin .add (.bin .add (.sli (.var 6) .no (.yes (.var 7))) (.idx (.var 3) (.call 7 (.cons (.var 0) (.cons (.int 36) .nil))))) (.sli (.var 6) (.yes (.bin .add (.var 7) (.int 1))) .no)))
    .nil)
      (.cons (.cond (.cmp .lt (.bi .len (.cons (.var 6) .nil)) (.int 8))
      (.cons (.set (.name 6) (.bin .add (.var 6) (.idx (.var 3) (.call 7 (.cons (.var 0) (.cons (.int 36) .nil))))))
    .nil)
      .nil)
    .nil))
    .nil))
    .nil)))
open IL (CB) in
def nmBody : CB :=
      (.cons (.cond (.and (.cmp .gt (.var 5) (.int 0)) (.cmp .eq (.call 7 (.cons (.var 0) (.cons (.int 2) .nil))) (.int 1))) nmOld nmNew)
    (.cons (.cond (.cmp .isin (.var 6) (.var 4))
      (.cons (.set (.name 6) (.idx (.lcIf (.var 9) (.name 9) (.of (.var 2)) (.cmp .notin (.var 9) (.var 4)) [9]) (.int 0)))
    .nil)
      .nil)
    (.cons (.exp (.mt .append 4 (.cons (.var 6) .nil)))
    .nil)))
theorem c_names_eq : c_l_names =
    (.cons (.set (.name 2) (.str ("abcdefghijklmnopqrstuvwxyz" : Str)))
    (.cons (.set (.name 3) (.bin .add (.var 2) (.str ("0123456789" : Str))))
    (.cons (.set (.name 4) (.lst .nil))
    (.cons (.loop (.name 5) (.rng1 (.var 1)) nmBody)
    (.cons (.ret (.var 4))
    .nil))))) := rfl
abbrev nmE (B : Box) (c : Int) (ns : List (List Nat)) (s5 s6 s7 s8 : Slot) : IL.Env := [.ow (.lst B.ds), .im (.int c), .im (.str (txt letters)), .im (.str (txt nsigns)), .ow (.lst (txtsD ns)), s5, s6, s7, s8, .un]
theorem nm_new (n : Nat) (hn : 1 ≤ n) (B : Box) (c : Int) (ns : List (List Nat)) (s5 s6 s7 s8 : Slot) (hB : Ok B) : ∃ (l : List Nat) (B' : Box) (s8' : Slot), IL.exs ⟨2, IL.tbl (defs.map J.DefR.il) n⟩ nmNew (nmE B c ns s5 s6 s7 s8) = .ok .nx (nmE B' c ns s5 (.im (.str (txt l))) s7 s8') ∧ Nm l ∧ Ok B' := by
  obtain ⟨t1, B1, e1, u1, v1, k1⟩ := T_take n 26 B hn (by decide) (by decide) hB
  obtain ⟨d, hd, hd2⟩ := let_at t1 u1 v1
  obtain ⟨t2, B2, e2, u2, v2, k2⟩ := T_take n 2 B1 hn (by decide) (by decide) k1
  obtain ⟨t3, B3, e3, u3, v3, k3⟩ := T_take n 8 B2 hn (by decide) (by decide) k2
  have hm : 0 ≤ t2 * t3 ∧ t2 * t3 ≤ 7 := by
    have : t2 = 0 ∨ t2 = 1 := by omega
    rcases this with rfl | rfl <;> omega
  have w1 : -4611686018427387904 ≤ t2 * t3 := by omega
  have w2 : t2 * t3 < 4611686018427387904 := by omega
  have w3 : letters.length ≤ 16777216 := by decide
  have w4 : nsigns.length ≤ 16777216 := by decide
  have bm : IL.binop .mul (.int t2) (.int t3) = some (.dat (.int (t2 * t3))) := IL.mul_left t2 t3 (by omega)
  generalize hR : IL.exs ⟨2, IL.tbl (defs.map J.DefR.il) n⟩ nmNew (nmE B c ns s5 s6 s7 s8) = R
  simp -implicitDefEqProofs [nmNew, e1, e2, e3, hd, w1, w2, w3, bm] at hR
  generalize hX : IL.forGo _ _ _ _ _ = X at hR
  obtain ⟨δ', rfl, B', l, s8', rfl, h1, h2, h3, h4⟩ : ∃ δ', X = .ok .nx δ' ∧ ∃ (B' : Box) (l : List Nat) (s8' : Slot), δ' = nmE B' c ns s5 (.im (.str (txt l))) s7 s8' ∧ 1 ≤ l.length ∧ l.length = 1 + (t2 * t3).toNat ∧ (∀ c ∈ l, c < 128) ∧ Ok B' := by
    refine forGo_range (t2 * t3).toNat (fun k δ => ∃ (B' : Box) (l : List Nat) (s8' : Slot), δ = nmE B' c ns s5 (.im (.str (txt l))) s7 s8' ∧ 1 ≤ l.length ∧ l.length = 1 + k ∧ (∀ c ∈ l, c < 128) ∧ Ok B') hX ⟨B3, [d], s8, rfl, by simp, by simp, ?_, k3⟩ ?_
    · intro c hc
      rw [List.mem_singleton] at hc
      rw [hc]
      exact hd2
    · rintro k _ hk ⟨B1, l, s8', rfl, h1, h2, h3, h4⟩
      obtain ⟨t, B2, e, u, v, k2⟩ := T_take n 36 B1 hn (by decide) (by decide) h4
      obtain ⟨d, hd, hd2⟩ := sgn_at t u v
      have w5 : l.length + 1 ≤ 16777216 := by omega
      refine ⟨nmE B2 c ns s5 (.im (.str (txt (l ++ [d])))) s7 (.im (.int (k : Int))), .inl ?_, B2, l ++ [d], _, rfl, ?_, ?_, ?_, k2⟩
      · simp -implicitDefEqProofs [e, hd, w4, w5]
      · simp
      · simp
        omega
      · intro c hc
        rcases List.mem_append.mp hc with q | q
        · exact h3 c q
        · rw [List.mem_singleton] at q
          rw [q]
          exact hd2
  exact ⟨l, B', s8', by rw [← hR]; simp, ⟨h1, by omega, h3⟩, h4⟩
theorem nm_old (n : Nat) (hn : 1 ≤ n) (B : Box) (c : Int) (ns : List (List Nat)) (k : Nat) (s6 s7 s8 : Slot) (hB : Ok B) (hns : ∀ l ∈ ns, Nm l) (hk : ns.length = k) (hk0 : 0 < k) (hk1 : k ≤ 100) : ∃ (l : List Nat) (B' : Box) (s7' : Slot), IL.exs ⟨2, IL.tbl (defs.map J.DefR.il) n⟩ nmOld (nmE B c ns (.im (.int (k : Int))) s6 s7 s8) = .ok .nx (nmE B' c ns (.im (.int (k : Int))) (.im (.str (txt l))) s7' s8) ∧ Nm l ∧ Ok B' := by
  obtain ⟨t1, B1, e1, u1, v1, k1⟩ := T_take n k B hn (by omega) (by omega) hB
  obtain ⟨l, hl, hat⟩ := names_at ns t1 u1 (by omega)
  obtain ⟨l1, l2, l3⟩ := hns l hl
  obtain ⟨t2, B2, e2, u2, v2, k2⟩ := T_take n 9 B1 hn (by decide) (by decide) k1
  have w1 : l.length ≤ 16777216 := by omega
  have w3 : letters.length ≤ 16777216 := by decide
  have w4 : nsigns.length ≤ 16777216 := by decide
  by_cases q0 : t2 = 0
  · obtain ⟨t3, B3, e3, u3, v3, k3⟩ := T_take n 26 B2 hn (by decide) (by decide) k2
    obtain ⟨d, hd, hd2⟩ := let_at t3 u3 v3
    have c2 : IL.cutD l (some 1) none = l.drop 1 := cut_from l 1 (by omega) (by omega)
    have a1 := IL.add_txt [d] (l.drop 1) (by rw [List.length_drop, List.length_singleton]; omega)
    refine ⟨[d] ++ l.drop 1, B3, .im (.int t2), ?_, ⟨by simp, by simp; omega, ?_⟩, k3⟩
    · simp -implicitDefEqProofs [nmOld, e1, hat, e2, q0, e3, hd, w1, w3, c2, a1, -IL.add_txt, -List.drop_one, -List.cons_append]
    · intro c hc
      rcases List.mem_append.mp hc with q | q
      · rw [List.mem_singleton] at q
        rw [q]
        exact hd2
      · exact l3 c (List.mem_of_mem_drop q)
  · by_cases q1 : t2 < l.length
    · obtain ⟨t3, B3, e3, u3, v3, k3⟩ := T_take n 36 B2 hn (by decide) (by decide) k2
      obtain ⟨d, hd, hd2⟩ := sgn_at t3 u3 v3
      have c1 : IL.cutD l none (some t2) = l.take t2.toNat := cut_to l t2 (by omega) (by omega)
      have c2 : IL.cutD l (some (t2 + 1)) none = l.drop (t2 + 1).toNat := cut_from l (t2 + 1) (by omega) (by omega)
      have a0 := IL.add_txt (l.take t2.toNat) [d] (by rw [List.length_take, List.length_singleton]; omega)
      have a1 := IL.add_txt (l.take t2.toNat ++ [d]) (l.drop (t2 + 1).toNat) (by rw [List.length_drop, List.length_append, List.length_take, List.length_singleton]; omega)
      refine ⟨l.take t2.toNat ++ [d] ++ l.drop (t2 + 1).toNat, B3, .im (.int t2), ?_, ⟨by simp; omega, by simp; omega, ?_⟩, k3⟩
      · simp -implicitDefEqProofs [nmOld, e1, hat, e2, q0, q1, e3, hd, w1, w4, c1, c2, a0, a1, -IL.add_txt, -List.append_assoc]
      · intro c hc
        rcases List.mem_append.mp hc with q | q
        · rcases List.mem_append.mp q with q | q
          · exact l3 c (List.mem_of_mem_take q)
          · rw [List.mem_singleton] at q
            rw [q]
            exact hd2
        · exact l3 c (List.mem_of_mem_drop q)
    · by_cases q2 : l.length < 8
      · obtain ⟨t3, B3, e3, u3, v3, k3⟩ := T_take n 36 B2 hn (by decide) (by decide) k2
        obtain ⟨d, hd, hd2⟩ := sgn_at t3 u3 v3
        have w5 : l.length + 1 ≤ 16777216 := by omega
        have q3 : (l.length : Int) < 8 := by omega
        refine ⟨l ++ [d], B3, .im (.int t2), ?_, ⟨by simp, by simp; omega, ?_⟩, k3⟩
        · simp -implicitDefEqProofs [nmOld, e1, hat, e2, q0, q1, q3, e3, hd, w1, w4, w5]
        · intro c hc
          rcases List.mem_append.mp hc with q | q
          · exact l3 c q
          · rw [List.mem_singleton] at q
            rw [q]
            exact hd2
      · have q3 : ¬ (l.length : Int) < 8 := by omega
        refine ⟨l, B2, .im (.int t2), ?_, ⟨l1, l2, l3⟩, k2⟩
        simp -implicitDefEqProofs [nmOld, e1, hat, e2, q0, q1, q3, w1]
end K04
end
section
set_option Elab.async false
set_option linter.all false
set_option autoImplicit false
set_option maxRecDepth 100000
set_option maxHeartbeats 4000000
/-! O8: pools of names, integers. -/
namespace K04
open PySem
open IL (Slot Ow seqD intsD txt txtsD spl)
theorem letters1_nodup : (letters.map fun c => [c]).Nodup := by decide
theorem T_names (N : Nat) (c : Int) (B : Box) (hN : 2 ≤ N) (c0 : 0 ≤ c) (c1 : c ≤ 20) (hB : Ok B) :
    ∃ (ns : List (List Nat)) (B' : Box), T N f_l_names [.ow (.lst B.ds), .im (.int c)] = .ret (.new (.lst (txtsD ns))) [.ow (.lst B'.ds), .im (.int c)] ∧ (∀ l ∈ ns, Nm l) ∧ (ns.length : Int) = c ∧ Ok B' := by
  obtain ⟨n, rfl⟩ : ∃ n, N = n + 1 := ⟨N - 1, by omega⟩
  have run := IL.tbl_succ (ds := defs.map J.DefR.il) (n := n) (f := f_l_names) (d := d_l_names.il) (δ := [.ow (.lst B.ds), .im (.int c)]) rfl rfl
  have w1 : -4611686018427387904 ≤ c := by omega
  have w2 : c < 4611686018427387904 := by omega
  have ea : IL.binop .add (.str (txt letters)) (.str (txt digits)) = some (.dat (.str (txt nsigns))) := IL.add_txt letters digits (by decide)
  simp -implicitDefEqProofs [d_l_names, c_names_eq, l_letters, l_digits, ea, -IL.add_txt, w1, w2] at run
  generalize hX : IL.forGo _ _ _ _ _ = X at run
  obtain ⟨δ', rfl, B', ns, s5, s6, s7, s8, rfl, h1, h2, h3⟩ : ∃ δ', X = .ok .nx δ' ∧ ∃ (B' : Box) (ns : List (List Nat)) (s5 s6 s7 s8 : Slot), δ' = nmE B' c ns s5 s6 s7 s8 ∧ (∀ l ∈ ns, Nm l) ∧ ns.length = c.toNat ∧ Ok B' := by
    refine forGo_range c.toNat (fun k δ => ∃ (B' : Box) (ns : List (List Nat)) (s5 s6 s7 s8 : Slot), δ = nmE B' c ns s5 s6 s7 s8 ∧ (∀ l ∈ ns, Nm l) ∧ ns.length = k ∧ Ok B') hX ⟨B, [], .un, .un, .un, .un, rfl, by simp, rfl, hB⟩ ?_
    rintro k _ hk ⟨B1, ns, s5, s6, s7, s8, rfl, h1, h2, h3⟩
    have hk20 : k < 20 := by omega
    have wl : ns.length < 16777216 := by omega
    -- the draw of a name
    have key : ∀ (B2 : Box) (l : List Nat) (s7' s8' : Slot), Nm l → Ok B2 → IL.exs ⟨2, IL.tbl (defs.map J.DefR.il) n⟩ (.cons (.cond (.and (.cmp .gt (.var 5) (.int 0)) (.cmp .eq (.call 7 (.cons (.var 0) (.cons (.int 2) .nil))) (.int 1))) nmOld nmNew) .nil) (nmE B1 c ns (.im (.int (k : Int))) s6 s7 s8) = .ok .nx (nmE B2 c ns (.im (.int (k : Int))) (.im (.str (txt l))) s7' s8') →
        ∃ δ', (IL.forStep 2 (.name 5) (IL.exs ⟨2, IL.tbl (defs.map J.DefR.il) n⟩ nmBody) (.int (k : Int)) (nmE B1 c ns s5 s6 s7 s8) = .ok .nx δ' ∨ IL.forStep 2 (.name 5) (IL.exs ⟨2, IL.tbl (defs.map J.DefR.il) n⟩ nmBody) (.int (k : Int)) (nmE B1 c ns s5 s6 s7 s8) = .ok .ct δ') ∧ ∃ (B' : Box) (ns : List (List Nat)) (s5 s6 s7 s8 : Slot), δ' = nmE B' c ns s5 s6 s7 s8 ∧ (∀ l ∈ ns, Nm l) ∧ ns.length = k + 1 ∧ Ok B' := by
      intro B2 l s7' s8' hl hB2 hd
      have hd2 : IL.ex ⟨2, IL.tbl (defs.map J.DefR.il) n⟩ (.cond (.and (.cmp .gt (.var 5) (.int 0)) (.cmp .eq (.call 7 (.cons (.var 0) (.cons (.int 2) .nil))) (.int 1))) nmOld nmNew) (nmE B1 c ns (.im (.int (k : Int))) s6 s7 s8) = .ok .nx (nmE B2 c ns (.im (.int (k : Int))) (.im (.str (txt l))) s7' s8') := by
        rw [IL.exs_cons] at hd
        generalize IL.ex _ _ _ = E at hd ⊢
        cases E with
        | ok f δ' =>
          cases f with
          | nx =>
            rw [IL.kSeq_nx, IL.exs_nil] at hd
            exact hd
          | rt v => rw [IL.kSeq_rt] at hd; cases hd
          | bk => rw [IL.kSeq_bk] at hd; cases hd
          | ct => rw [IL.kSeq_ct] at hd; cases hd
        | ex a b c => rw [IL.kSeq_ex] at hd; cases hd
        | no => cases hd
      have hs : IL.forStep 2 (.name 5) (IL.exs ⟨2, IL.tbl (defs.map J.DefR.il) n⟩ nmBody) (.int (k : Int)) (nmE B1 c ns s5 s6 s7 s8) = IL.exs ⟨2, IL.tbl (defs.map J.DefR.il) n⟩ nmBody (nmE B1 c ns (.im (.int (k : Int))) s6 s7 s8) := by
        simp -implicitDefEqProofs [-IL.exs_cons]
      rw [hs]
      unfold nmBody
      rw [IL.exs_cons, hd2, IL.kSeq_nx]
      by_cases hm : l ∈ ns
      · have fr := free_one ns (letters.map fun c => [c]) letters1_nodup
        have sl : (letters.map fun c => [c]).length = 26 := rfl
        have lc := IL.lcGo_filter (kp := 2) (g := .name 9) (c := IL.evT ⟨2, IL.tbl (defs.map J.DefR.il) n⟩ (.cmp .notin (.var 9) (.var 4))) (e := IL.evDm ⟨2, IL.tbl (defs.map J.DefR.il) n⟩ (.var 9)) (vs := [9]) (fun c => PyData.str (txt [c])) (fun c => PyData.str (txt [c])) (fun c => decide ([c] ∉ ns)) (nmE B2 c ns (.im (.int (k : Int))) (.im (.str (txt l))) s7' s8') letters [] (fun z _ => by
            by_cases q : [z] ∈ ns
            · simp -implicitDefEqProofs [q, names_mem]
            · simp -implicitDefEqProofs [q, names_mem]) (by rw [IL.size_val, List.length_nil]; decide)
        have ef : ((letters.map fun c => [c]).filter fun c => decide (c ∉ ns)) = (letters.filter fun c => decide ([c] ∉ ns)).map fun c => [c] := by
          rw [List.filter_map]
          rfl
        rw [ef, List.length_map, List.length_map] at fr
        cases hf : (letters.filter fun c => decide ([c] ∉ ns)) with
        | nil =>
          rw [hf] at fr
          rw [List.length_nil] at fr
          have : letters.length = 26 := rfl
          omega
        | cons z zs =>
          have hz : z ∈ letters.filter fun c => decide ([c] ∉ ns) := by
            rw [hf]
            exact List.mem_cons_self
          rw [List.mem_filter] at hz
          have hz1 : z < 128 := by
            have : ∀ c ∈ letters, c < 128 := by decide
            exact this z hz.1
          rw [hf, List.nil_append, List.map_cons] at lc
          refine ⟨nmE B2 c (ns ++ [[z]]) (.im (.int (k : Int))) (.im (.str (txt [z]))) s7' s8', .inl ?_, B2, ns ++ [[z]], _, _, _, _, rfl, ?_, by simp [h2], hB2⟩
          · simp only [nmE, txtsD_snoc]
            have il : IL.itemsD (.str (txt letters)) = some (letters.map fun c => PyData.str (txt [c])) := IL.items_txt letters
            simp only [nmE] at lc
            generalize letters.map (fun c => PyData.str (txt [c])) = L at lc il
            simp -implicitDefEqProofs [hm, names_mem, lc, wl, il, -IL.items_txt]
          · intro x hx
            rcases List.mem_append.mp hx with q | q
            · exact h1 x q
            · rw [List.mem_singleton] at q
              subst q
              exact ⟨by simp, by simp, fun c hc => by rw [List.mem_singleton] at hc; rw [hc]; exact hz1⟩
      · refine ⟨nmE B2 c (ns ++ [l]) (.im (.int (k : Int))) (.im (.str (txt l))) s7' s8', .inl ?_, B2, ns ++ [l], _, _, _, _, rfl, ?_, by simp [h2], hB2⟩
        · simp only [nmE, txtsD_snoc]
          simp -implicitDefEqProofs [hm, names_mem, wl]
        · intro x hx
          rcases List.mem_append.mp hx with q | q
          · exact h1 x q
          · rw [List.mem_singleton] at q
            subst q
            exact hl
    have old := fun B' hB' hk0 => nm_old n (by omega) B' c ns k s6 s7 s8 hB' h1 h2 hk0 (by omega)
    have new := fun B' hB' => nm_new n (by omega) B' c ns (.im (.int (k : Int))) s6 s7 s8 hB'
    by_cases k0 : 0 < k
    · obtain ⟨t, B2, e, -, -, hB2⟩ := T_take n 2 B1 (by omega) (by decide) (by decide) h3
      have k0' : (0 : Int) < (k : Int) := by omega
      by_cases q : t = 1
      · obtain ⟨l, B3, s7', e3, hl, hB3⟩ := old B2 hB2 k0
        refine key B3 l s7' s8 hl hB3 ?_
        simp only [nmE] at e3
        simp -implicitDefEqProofs [k0, k0', e, q, e3]
      · obtain ⟨l, B3, s8', e3, hl, hB3⟩ := new B2 hB2
        refine key B3 l s7 s8' hl hB3 ?_
        simp only [nmE] at e3
        simp -implicitDefEqProofs [k0, k0', e, q, e3]
    · obtain ⟨l, B3, s8', e3, hl, hB3⟩ := new B1 h3
      refine key B3 l s7 s8' hl hB3 ?_
      have k0' : ¬ (0 : Int) < (k : Int) := by omega
      simp only [nmE] at e3
      simp -implicitDefEqProofs [k0, k0', e3]
  exact ⟨ns, B', run.trans (by simp), h1, by omega, h3⟩
end K04
end
section
set_option Elab.async false
set_option linter.all false
set_option autoImplicit false
set_option maxRecDepth 100000
set_option maxHeartbeats 4000000
/-! O9: values, and their text. -/
namespace K04
open PySem
open IL (Slot Ow seqD intsD txt txtsD spl itxt)
theorem log_lt (n k : Nat) (h : n < 2 ^ k) (hk : 0 < k) : n.log2 < k := by
  by_cases h0 : n = 0
  · subst h0
    simpa using hk
  · exact (Nat.log2_lt h0).mpr h
def Big : Nat := 10 ^ 100
theorem big_log {n : Nat} (h : n < Big) : n.log2 < 1920 := log_lt n 1920 (Nat.lt_of_lt_of_le h (by decide)) (by decide)
theorem big_len {i : Int} (h : i.natAbs < Big) : (itxt i).length ≤ 101 := IL.itxt_len i 100 (by decide) h
theorem T_integer (N : Nat) (B : Box) (hN : 2 ≤ N) (hB : Ok B) : ∃ (x : Int) (B' : Box), T N f_l_integer [.ow (.lst B.ds)] = .ret (.dat (.int x)) [.ow (.lst B'.ds)] ∧ x.natAbs < Big ∧ Ok B' := by
  obtain ⟨n, rfl⟩ : ∃ n, N = n + 1 := ⟨N - 1, by omega⟩
  have run := IL.tbl_succ (ds := defs.map J.DefR.il) (n := n) (f := f_l_integer) (d := d_l_integer.il) (δ := [.ow (.lst B.ds)]) rfl rfl
  obtain ⟨t, B1, e1, u1, v1, k1⟩ := T_take n 8 B (by omega) (by decide) (by decide) hB
  by_cases q : t = 0
  · obtain ⟨t2, B2, e2, u2, v2, k2⟩ := T_takeL n 100000000000000000000000000000000000000000000000000 B1 (by omega) (by decide) (log_lt _ 9000 (by decide) (by decide)) k1
    obtain ⟨t3, B3, e3, u3, v3, k3⟩ := T_takeL n 1000000000000000000000000000000000000000000000 B2 (by omega) (by decide) (log_lt _ 9000 (by decide) (by decide)) k2
    obtain ⟨t4, B4, e4, u4, v4, k4⟩ := T_take n 2 B3 (by omega) (by decide) (by decide) k3
    have bm : IL.binop .mul (.int t2) (.int 1000000000000000000000000000000000000000000000) = some (.dat (.int (t2 * 1000000000000000000000000000000000000000000000))) := by
      rw [IL.mul_int, if_pos]
      refine .inr ?_
      have a1 : t2.natAbs.log2 < 9000 := log_lt _ 9000 (by
        have : t2.natAbs < 100000000000000000000000000000000000000000000000000 := by omega
        exact Nat.lt_of_lt_of_le this (by decide)) (by decide)
      have a2 : ((1000000000000000000000000000000000000000000000 : Int).natAbs).log2 < 9000 := log_lt _ 9000 (by decide) (by decide)
      omega
    have b4 : IL.binop .mul (.int (t2 * 1000000000000000000000000000000000000000000000 + t3)) (.int (1 - 2 * t4)) = some (.dat (.int ((t2 * 1000000000000000000000000000000000000000000000 + t3) * (1 - 2 * t4)))) := IL.mul_right _ _ (by omega)
    refine ⟨(t2 * 1000000000000000000000000000000000000000000000 + t3) * (1 - 2 * t4), B4, run.trans ?_, ?_, k4⟩
    · simp -implicitDefEqProofs [d_l_integer, c_l_integer, e1, q, e2, e3, e4, bm, b4]
    · have bg : Big = 10 ^ 100 := rfl
      have : t4 = 0 ∨ t4 = 1 := by omega
      have c1 : t2 * 1000000000000000000000000000000000000000000000 + t3 < 100000000000000000000000000000000000000000000000000 * 1000000000000000000000000000000000000000000000 + 1000000000000000000000000000000000000000000000 := by omega
      rcases this with rfl | rfl
      · rw [bg]
        omega
      · rw [bg]
        omega
  · by_cases q1 : t = 1
    · obtain ⟨t2, B2, e2, u2, v2, k2⟩ := T_take n 2000001 B1 (by omega) (by decide) (by decide) k1
      refine ⟨t2 - 1000000, B2, run.trans ?_, ?_, k2⟩
      · simp -implicitDefEqProofs [d_l_integer, c_l_integer, e1, q, q1, e2]
      · have bg : Big = 10 ^ 100 := rfl
        rw [bg]
        omega
    · obtain ⟨t2, B2, e2, u2, v2, k2⟩ := T_take n 9 B1 (by omega) (by decide) (by decide) k1
      refine ⟨t2 - 4, B2, run.trans ?_, ?_, k2⟩
      · simp -implicitDefEqProofs [d_l_integer, c_l_integer, e1, q, q1, e2]
      · have bg : Big = 10 ^ 100 := rfl
        rw [bg]
        omega
/-! ### the text of values -/
def POk (x : List Nat × Int) : Prop := Nm x.1 ∧ x.2.natAbs < Big
def pairT (x : List Nat × Int) : List Nat := x.1 ++ [61] ++ itxt x.2
def wordsV (st : NT) : List (List Nat) := st.1 ++ st.2.map pairT
def J (st : NT) : List Nat := TL.joinL [32] (wordsV st)
def StOk (st : NT) : Prop := (∀ l ∈ st.1, Nm l) ∧ (∀ x ∈ st.2, POk x) ∧ st.1.length ≤ 20 ∧ st.2.length ≤ 20
theorem pairT_len {x : List Nat × Int} (h : POk x) : (pairT x).length ≤ 110 := by
  have a := h.1.2.1
  have b := big_len h.2
  unfold pairT
  simp
  omega
theorem words_sum {st : NT} (h : StOk st) : ((wordsV st).map (·.length)).sum ≤ 4400 ∧ (wordsV st).length ≤ 40 := by
  have a : (wordsV st).length ≤ 40 := by
    unfold wordsV
    rw [List.length_append, List.length_map]
    have := h.2.2.1
    have := h.2.2.2
    omega
  have b := IL.sum_le 110 (wordsV st) (by
    intro w hw
    unfold wordsV at hw
    rcases List.mem_append.mp hw with q | q
    · have := (h.1 w q).2.1
      omega
    · obtain ⟨x, hx, rfl⟩ := List.mem_map.mp q
      exact pairT_len (h.2.1 x hx))
  exact ⟨Nat.le_trans b (Nat.le_trans (Nat.mul_le_mul_right 110 a) (by decide)), a⟩
theorem J_len {st : NT} (h : StOk st) : (J st).length ≤ 5000 := by
  obtain ⟨a, b⟩ := words_sum h
  have c := IL.joinL_len [32] (wordsV st)
  unfold J
  simp only [List.length_singleton, Nat.mul_one] at c
  omega
theorem join_J {st : NT} (h : StOk st) : IL.tm1op (txt [32]) .join (.list (txtsD (wordsV st))) = some (.dat (.str (txt (J st)))) := by
  obtain ⟨a, b⟩ := words_sum h
  refine IL.join_txt [32] (wordsV st) ?_
  simp only [List.length_singleton, Nat.mul_one]
  omega
theorem txtsD_app (a b : List (List Nat)) : txtsD (a ++ b) = txtsD a ++ txtsD b := List.map_append
theorem pairs_words (ts : List (List Nat × Int)) : (ts.map fun x => PyData.str (txt (x.1 ++ [61] ++ itxt x.2))) = txtsD (ts.map pairT) := by
  unfold txtsD
  rw [List.map_map]
  rfl
theorem T_write (N : Nat) (st : NT) (hN : 1 ≤ N) (h : StOk st) : T N f_write_values [.im (valD st)] = .ret (.dat (.str (txt (J st)))) [.im (valD st)] := by
  obtain ⟨n, rfl⟩ : ∃ n, N = n + 1 := ⟨N - 1, by omega⟩
  refine (IL.tbl_succ (d := d_write_values.il) rfl rfl).trans ?_
  have lc := IL.lcGo_map (kp := 1) (g := .tup [4, 5]) (c := IL.cTT) (e := IL.evDm ⟨1, IL.tbl (defs.map J.DefR.il) n⟩ (.fst (.cons (.var 4) (.cons (.str ("=" : Str)) (.cons (.var 5) .nil))))) (vs := [4, 5]) pairD (fun x => PyData.str (txt (x.1 ++ [61] ++ itxt x.2))) [.im (valD st), .un, .im (.tuple (txtsD st.1)), .im (.tuple (pairsD st.2)), .un, .un] st.2 [] (fun x hx => by
    obtain ⟨⟨p1, p2, -⟩, p3⟩ := h.2.1 x hx
    have bl := big_log p3
    have bn := big_len p3
    have w1 : x.1.length ≤ 16777216 := by omega
    have w2 : x.1.length + 1 ≤ 16777216 := by omega
    have w3 : x.1.length + 1 + (itxt x.2).length ≤ 16777216 := by omega
    simp -implicitDefEqProofs [IL.lcStep, pairD, l_eq, IL.empty_txt, bl, w1, w2, w3, -List.append_assoc, -List.singleton_append]) (by
      have := h.2.2.2
      rw [IL.size_val, List.length_nil]
      omega)
  rw [pairs_words, List.nil_append] at lc
  change IL.lcGo _ _ _ _ _ (pairsD st.2) _ _ = _ at lc
  have jn := join_J h
  have ew : txtsD (wordsV st) = txtsD st.1 ++ txtsD (st.2.map pairT) := txtsD_app _ _
  rw [ew] at jn
  have ba : IL.binop .add (.list (txtsD st.1)) (.list (txtsD (st.2.map pairT))) = some (.new (.lst (txtsD st.1 ++ txtsD (st.2.map pairT)))) := IL.add_list _ _ (by
    rw [IL.txtsD_len, IL.txtsD_len, List.length_map, IL.size_val]
    have := h.2.2.1
    have := h.2.2.2
    omega)
  unfold valD at lc ⊢
  simp -implicitDefEqProofs [d_write_values, c_write_values, lc, ba, jn, l_sp]
theorem T_text (N : Nat) (st : NT) (hN : 1 ≤ N) (h : StOk st) : T N f_l_text [.im (valD st)] = .ret (.dat (.str (txt (J st)))) [.im (valD st)] := by
  obtain ⟨n, rfl⟩ : ∃ n, N = n + 1 := ⟨N - 1, by omega⟩
  have run := IL.tbl_succ (ds := defs.map J.DefR.il) (n := n) (f := f_l_text) (d := d_l_text.il) (δ := [.im (valD st)]) rfl rfl
  have jn := join_J h
  have hv : valD st = .tuple [.tuple (txtsD st.1), .tuple (pairsD st.2)] := rfl
  have hv0 : IL.idxop (valD st) (.int 0) = some (.tuple (txtsD st.1)) := by rw [hv]; rfl
  have hv1 : IL.idxop (valD st) (.int 1) = some (.tuple (pairsD st.2)) := by rw [hv]; rfl
  have h3 := h.2.2.1
  have h4 := h.2.2.2
  simp -implicitDefEqProofs [d_l_text, c_l_text, hv0, hv1] at run
  generalize hX : IL.forGo _ _ _ _ _ = X at run
  obtain ⟨δ', rfl, ws, s2, rfl, h1, -⟩ : ∃ δ', X = .ok .nx δ' ∧ ∃ (ws : List (List Nat)) (s2 : Slot), δ' = [.im (valD st), .ow (.lst (txtsD ws)), s2] ∧ ws ++ ([] : List (List Nat × Int)).map pairT = wordsV st ∧ (∀ x ∈ ([] : List (List Nat × Int)), POk x) := by
    refine IL.forGo_alls pairD (fun as δ => ∃ (ws : List (List Nat)) (s2 : Slot), δ = [.im (valD st), .ow (.lst (txtsD ws)), s2] ∧ ws ++ as.map pairT = wordsV st ∧ (∀ x ∈ as, POk x)) (as := st.2) hX ⟨st.1, .un, rfl, rfl, h.2.1⟩ ?_
    rintro ⟨p, i⟩ as _ ⟨ws, s2, rfl, h1, h2⟩
    obtain ⟨⟨p1, p2, -⟩, p3⟩ := h2 _ List.mem_cons_self
    have bl := big_log p3
    have bn := big_len p3
    simp only at p1 p2 p3 bl bn
    have w2 : p.length + 1 ≤ 16777216 := by omega
    have w3 : p.length + 1 + (itxt i).length ≤ 16777216 := by omega
    have w4 : ws.length < 16777216 := by
      have := congrArg List.length h1
      rw [List.length_append] at this
      have := (words_sum h).2
      omega
    have si := IL.str_int i bl
    refine ⟨[.im (valD st), .ow (.lst (txtsD (ws ++ [pairT (p, i)]))), .im (pairD (p, i))], .inl ?_, ws ++ [pairT (p, i)], _, rfl, ?_, fun x hx => h2 x (List.mem_cons_of_mem _ hx)⟩
    · rw [txtsD_snoc]
      simp -implicitDefEqProofs [pairD, pairT, l_eq, si, w2, w3, w4, -List.append_assoc, -List.singleton_append]
    · rw [← h1, List.append_assoc]
      rfl
  rw [List.map_nil, List.append_nil] at h1
  rw [← h1] at jn
  refine run.trans ?_
  simp -implicitDefEqProofs [jn, l_sp]
end K04
end
section
set_option Elab.async false
set_option linter.all false
set_option autoImplicit false
set_option maxRecDepth 100000
set_option maxHeartbeats 4000000
/-! O10: values drawn; texts that are bent. -/
namespace K04
open PySem
open IL (Slot Ow seqD intsD txt txtsD spl itxt)
theorem cutl_to {α : Type} (ds : List α) (i : Int) (h0 : 0 ≤ i) : (IL.cutD ds none (some i)).length ≤ ds.length ∧ (IL.cutD ds none (some i)).length ≤ i.toNat := by
  obtain ⟨j, rfl⟩ := Int.eq_ofNat_of_zero_le h0
  unfold IL.cutD
  rw [HT.sIx_none, HT.sIx_nat, List.drop_zero, Int.toNat_natCast, List.length_take]
  omega
theorem cutl_from {α : Type} (ds : List α) (i : Int) (h0 : 0 ≤ i) : (IL.cutD ds (some i) none).length ≤ ds.length - i.toNat := by
  obtain ⟨j, rfl⟩ := Int.eq_ofNat_of_zero_le h0
  unfold IL.cutD
  rw [HT.sIx_none, HT.sIx_nat, Int.toNat_natCast, List.length_take, List.length_drop]
  omega
theorem cutD_txts (ns : List (List Nat)) (lo hi : Option Int) : IL.cutD (txtsD ns) lo hi = txtsD (IL.cutD ns lo hi) := by
  unfold IL.cutD txtsD
  rw [List.length_map, ← List.map_drop, ← List.map_take]
/-! ### values -/
theorem sort_txts (pool : List (List Nat)) (P : List Nat → Prop) (hp : ∀ l ∈ pool, P l) (hn : pool ≠ []) (hl : pool.length ≤ 1000) : ∃ ls, IL.fn .sorted [.list (txtsD pool)] = some (.new (.lst (txtsD ls))) ∧ (∀ l ∈ ls, P l) ∧ ls.length = pool.length := by
  have e1 : IL.asInts (txtsD pool) = none := by
    cases pool with
    | nil => exact absurd rfl hn
    | cons a b => rfl
  have all : ∀ d ∈ txtsD pool, ∃ l, d = .str (txt l) ∧ P l := by
    intro d hd
    obtain ⟨l, hl, rfl⟩ := List.mem_map.mp hd
    exact ⟨l, rfl, hp l hl⟩
  have e2 : IL.sortOk (txtsD pool) = true := by
    unfold IL.sortOk
    simp only [Bool.and_eq_true, Bool.or_eq_true, List.all_eq_true, decide_eq_true_eq]
    refine ⟨?_, .inr ?_, ?_, ?_⟩
    · intro a ha b hb
      obtain ⟨l, rfl, -⟩ := all a ha
      obtain ⟨m, rfl, -⟩ := all b hb
      simp [PySem.W.alike]
    · intro a ha
      obtain ⟨l, rfl, -⟩ := all a ha
      rfl
    · rw [IL.txtsD_len, IL.size_val]
      omega
    · intro a ha
      obtain ⟨l, rfl, -⟩ := all a ha
      rw [IL.depth_str]
      omega
  have perm : (IL.sortD (txtsD pool)).Perm (txtsD pool) := List.mergeSort_perm _ _
  have all2 : ∀ d ∈ IL.sortD (txtsD pool), ∃ l, d = .str (txt l) ∧ P l := fun d hd => all d (perm.mem_iff.mp hd)
  have mk : ∀ ds : List PyData, (∀ d ∈ ds, ∃ l, d = .str (txt l) ∧ P l) → ∃ ls, ds = txtsD ls ∧ ∀ l ∈ ls, P l := by
    intro ds
    induction ds with
    | nil => exact fun _ => ⟨[], rfl, by simp⟩
    | cons d ds ih =>
      intro h
      obtain ⟨l, rfl, pl⟩ := h d List.mem_cons_self
      obtain ⟨ls, rfl, pls⟩ := ih fun x hx => h x (List.mem_cons_of_mem _ hx)
      exact ⟨l :: ls, rfl, fun x hx => (List.mem_cons.mp hx).elim (fun e => e ▸ pl) (pls x)⟩
  obtain ⟨ls, els, pls⟩ := mk _ all2
  refine ⟨ls, by rw [IL.fn_sorted_data _ e1 e2, els], pls, ?_⟩
  have := perm.length_eq
  rw [els, IL.txtsD_len, IL.txtsD_len] at this
  exact this
theorem T_values (N : Nat) (B : Box) (hN : 3 ≤ N) (hB : Ok B) : ∃ (st : NT) (B' : Box), T N f_l_values [.ow (.lst B.ds)] = .ret (.dat (valD st)) [.ow (.lst B'.ds)] ∧ StOk st ∧ Ok B' := by
  obtain ⟨n, rfl⟩ : ∃ n, N = n + 1 := ⟨N - 1, by omega⟩
  have run := IL.tbl_succ (ds := defs.map J.DefR.il) (n := n) (f := f_l_values) (d := d_l_values.il) (δ := [.ow (.lst B.ds)]) rfl rfl
  obtain ⟨t, B1, e1, u1, v1, k1⟩ := T_take n 12 B (by omega) (by decide) (by decide) hB
  obtain ⟨pool, B2, e2, hp, hpl, k2⟩ := T_names n (1 + t) B1 (by omega) (by omega) (by omega) k1
  obtain ⟨t3, B3, e3, u3, v3, k3⟩ := T_take n 8 B2 (by omega) (by decide) (by decide) k2
  by_cases q : t3 = 0
  · refine ⟨([], []), B3, run.trans ?_, ⟨by simp, by simp, by simp, by simp⟩, k3⟩
    simp -implicitDefEqProofs [d_l_values, c_l_values, e1, e2, e3, q, valD]
  · obtain ⟨ls, es, hls, hll⟩ := sort_txts pool Nm hp (by
      intro e
      rw [e] at hpl
      simp at hpl
      omega) (by omega)
    simp -implicitDefEqProofs [d_l_values, c_l_values, e1, e2, e3, q, es] at run
    generalize hX : IL.forGo _ _ _ _ _ = X at run
    obtain ⟨δ', rfl, B', ns, ts, s4, s5, rfl, h1, h2, h3, h4, h5, -⟩ : ∃ δ', X = .ok .nx δ' ∧ ∃ (B' : Box) (ns : List (List Nat)) (ts : List (List Nat × Int)) (s4 s5 : Slot), δ' = [.ow (.lst B'.ds), .ow (.lst (txtsD ns)), .ow (.lst (pairsD ts)), .ow (.lst (txtsD pool)), s4, s5] ∧ (∀ l ∈ ns, Nm l) ∧ (∀ x ∈ ts, POk x) ∧ ns.length + 0 ≤ 20 ∧ ts.length + 0 ≤ 20 ∧ Ok B' ∧ (∀ l ∈ ([] : List (List Nat)), Nm l) := by
      refine IL.forGo_alls (fun l => PyData.str (txt l)) (fun as δ => ∃ (B' : Box) (ns : List (List Nat)) (ts : List (List Nat × Int)) (s4 s5 : Slot), δ = [.ow (.lst B'.ds), .ow (.lst (txtsD ns)), .ow (.lst (pairsD ts)), .ow (.lst (txtsD pool)), s4, s5] ∧ (∀ l ∈ ns, Nm l) ∧ (∀ x ∈ ts, POk x) ∧ ns.length + as.length ≤ 20 ∧ ts.length + as.length ≤ 20 ∧ Ok B' ∧ (∀ l ∈ as, Nm l)) (as := ls) hX ⟨B3, [], [], .un, .un, rfl, by simp, by simp, by simp; omega, by simp; omega, k3, hls⟩ ?_
      rintro l as _ ⟨B4, ns, ts, s4, s5, rfl, h1, h2, h3, h4, h5, h6⟩
      have hl := h6 l List.mem_cons_self
      have h6' : ∀ x ∈ as, Nm x := fun x hx => h6 x (List.mem_cons_of_mem _ hx)
      rw [List.length_cons] at h3 h4
      obtain ⟨w, B5, e5, u5, v5, k5⟩ := T_take n 5 B4 (by omega) (by decide) (by decide) h5
      have w1 : ns.length < 16777216 := by omega
      have w2 : ts.length < 16777216 := by omega
      have hns : ∀ x ∈ ns ++ [l], Nm x := fun x hx => (List.mem_append.mp hx).elim (h1 x) fun q => (List.mem_singleton.mp q) ▸ hl
      have hc : IL.cutD (txtsD pool) none (some 5) = txtsD (IL.cutD pool none (some 5)) := cutD_txts pool none (some 5)
      obtain ⟨x, B6, e6, hx, k6⟩ := T_integer n B5 (by omega) k5
      have hts : ∀ y ∈ ts ++ [(l, x)], POk y := fun y hy => (List.mem_append.mp hy).elim (h2 y) fun q => (List.mem_singleton.mp q) ▸ ⟨hl, hx⟩
      by_cases hm : l ∈ IL.cutD pool none (some 5)
      · have : w = 0 ∨ w = 1 ∨ w = 2 ∨ w = 3 ∨ w = 4 := by omega
        rcases this with rfl | rfl | rfl | rfl | rfl
        · refine ⟨_, .inl (?_ : _ = IL.R.ok IL.Fl.nx [.ow (.lst B5.ds), .ow (.lst (txtsD (ns ++ [l]))), .ow (.lst (pairsD ts)), .ow (.lst (txtsD pool)), .im (.str (txt l)), .im (.int 0)]), B5, _, _, _, _, rfl, hns, h2, by simp; omega, by omega, k5, h6'⟩
          rw [txtsD_snoc]
          simp -implicitDefEqProofs [e5, w1, w2, hc, names_mem, hm]
        · refine ⟨_, .inl (?_ : _ = IL.R.ok IL.Fl.nx [.ow (.lst B6.ds), .ow (.lst (txtsD (ns ++ [l]))), .ow (.lst (pairsD (ts ++ [(l, x)]))), .ow (.lst (txtsD pool)), .im (.str (txt l)), .im (.int 1)]), B6, _, _, _, _, rfl, hns, hts, by simp; omega, by simp; omega, k6, h6'⟩
          rw [txtsD_snoc, pairsD_snoc]
          simp -implicitDefEqProofs [e5, e6, w1, w2, hc, names_mem, hm]
        · refine ⟨_, .inl (?_ : _ = IL.R.ok IL.Fl.nx [.ow (.lst B6.ds), .ow (.lst (txtsD ns)), .ow (.lst (pairsD (ts ++ [(l, x)]))), .ow (.lst (txtsD pool)), .im (.str (txt l)), .im (.int 2)]), B6, _, _, _, _, rfl, h1, hts, by omega, by simp; omega, k6, h6'⟩
          rw [pairsD_snoc]
          simp -implicitDefEqProofs [e5, e6, w1, w2, hc, names_mem, hm]
        · refine ⟨_, .inl (?_ : _ = IL.R.ok IL.Fl.nx [.ow (.lst B6.ds), .ow (.lst (txtsD (ns ++ [l]))), .ow (.lst (pairsD (ts ++ [(l, x)]))), .ow (.lst (txtsD pool)), .im (.str (txt l)), .im (.int 3)]), B6, _, _, _, _, rfl, hns, hts, by simp; omega, by simp; omega, k6, h6'⟩
          rw [txtsD_snoc, pairsD_snoc]
          simp -implicitDefEqProofs [e5, e6, w1, w2, hc, names_mem, hm]
        · refine ⟨_, .inl (?_ : _ = IL.R.ok IL.Fl.nx [.ow (.lst B5.ds), .ow (.lst (txtsD ns)), .ow (.lst (pairsD ts)), .ow (.lst (txtsD pool)), .im (.str (txt l)), .im (.int 4)]), B5, _, _, _, _, rfl, h1, h2, by omega, by omega, k5, h6'⟩
          simp -implicitDefEqProofs [e5, e6, w1, w2, hc, names_mem, hm]
      · by_cases hw : w = 0 ∨ w = 1 ∨ w = 3
        · refine ⟨_, .inl (?_ : _ = IL.R.ok IL.Fl.nx [.ow (.lst B5.ds), .ow (.lst (txtsD (ns ++ [l]))), .ow (.lst (pairsD ts)), .ow (.lst (txtsD pool)), .im (.str (txt l)), .im (.int w)]), B5, _, _, _, _, rfl, hns, h2, by simp; omega, by omega, k5, h6'⟩
          rw [txtsD_snoc]
          rcases hw with rfl | rfl | rfl <;> simp -implicitDefEqProofs [e5, w1, w2, hc, names_mem, hm]
        · refine ⟨_, .inl (?_ : _ = IL.R.ok IL.Fl.nx [.ow (.lst B5.ds), .ow (.lst (txtsD ns)), .ow (.lst (pairsD ts)), .ow (.lst (txtsD pool)), .im (.str (txt l)), .im (.int w)]), B5, _, _, _, _, rfl, h1, h2, by omega, by omega, k5, h6'⟩
          have : w = 2 ∨ w = 4 := by omega
          rcases this with rfl | rfl <;> simp -implicitDefEqProofs [e5, w1, w2, hc, names_mem, hm]
    refine ⟨(ns, ts), B', run.trans ?_, ⟨h1, h2, h3, h4⟩, h5⟩
    simp -implicitDefEqProofs [valD]
/-! ### signs -/
def few : List Nat := ("~|!-<= \n01ab" : Str).cps.toList
def many1 : List Nat := (" !\"#$&'()*+,-./0123456789:;<=>?@ABCDEFGHIJKLMNOPQRSTUVWXYZ[\\]^_`" : Str).cps.toList
def many2 : List Nat := ("abcdefghijklmnopqrstuvwxyz{|}~\n\t" : Str).cps.toList
theorem l_few : ("~|!-<= \n01ab" : Str) = txt few := (IL.txt_of _).symm
theorem l_many1 : (" !\"#$&'()*+,-./0123456789:;<=>?@ABCDEFGHIJKLMNOPQRSTUVWXYZ[\\]^_`" : Str) = txt many1 := (IL.txt_of _).symm
theorem l_many2 : ("abcdefghijklmnopqrstuvwxyz{|}~\n\t" : Str) = txt many2 := (IL.txt_of _).symm
theorem few_len : few.length = 12 := by decide +kernel
theorem many1_len : many1.length = 64 := by decide +kernel
theorem many2_len : many2.length = 32 := by decide +kernel
theorem nat_at {α : Type} (S : List α) (i : Int) (h0 : 0 ≤ i) (h1 : i < S.length) : ∃ c ∈ S, L2.atI S i = some c := by
  obtain ⟨j, rfl⟩ := Int.eq_ofNat_of_zero_le h0
  have hj : j < S.length := by omega
  exact ⟨S[j], List.getElem_mem hj, by rw [IL.atI_ofNat, List.getElem?_eq_getElem hj]⟩
theorem T_sign (N : Nat) (B : Box) (hN : 2 ≤ N) (hB : Ok B) : ∃ (c : Nat) (B' : Box), T N f_l_sign [.ow (.lst B.ds)] = .ret (.dat (.str (txt [c]))) [.ow (.lst B'.ds)] ∧ Ok B' := by
  obtain ⟨n, rfl⟩ : ∃ n, N = n + 1 := ⟨N - 1, by omega⟩
  have run := IL.tbl_succ (ds := defs.map J.DefR.il) (n := n) (f := f_l_sign) (d := d_l_sign.il) (δ := [.ow (.lst B.ds)]) rfl rfl
  obtain ⟨t, B1, e1, u1, v1, k1⟩ := T_take n 2 B (by omega) (by decide) (by decide) hB
  have f1 := few_len
  have f2 := many1_len
  have f3 := many2_len
  have w1 : few.length ≤ 16777216 := by omega
  have w2 : (many1 ++ many2).length ≤ 16777216 := by rw [List.length_append]; omega
  have a1 := IL.add_txt many1 many2 (by omega)
  have L1 : IL.fn .len [.str (txt few)] = some (.dat (.int 12)) := by rw [IL.len_txt _ w1, f1]; rfl
  have L2 : IL.fn .len [.str (txt (many1 ++ many2))] = some (.dat (.int 96)) := by rw [IL.len_txt _ w2, List.length_append, f2, f3]; rfl
  by_cases q : t = 0
  · obtain ⟨i, B2, e2, u2, v2, k2⟩ := T_take n 12 B1 (by omega) (by decide) (by decide) k1
    obtain ⟨c, -, hc⟩ := nat_at few i u2 (by omega)
    refine ⟨c, B2, run.trans ?_, k2⟩
    simp -implicitDefEqProofs [d_l_sign, c_l_sign, l_few, l_many1, l_many2, a1, -IL.add_txt, e1, q, L1, -IL.len_txt, e2, hc, w1]
  · obtain ⟨i, B2, e2, u2, v2, k2⟩ := T_take n 96 B1 (by omega) (by decide) (by decide) k1
    obtain ⟨c, -, hc⟩ := nat_at (many1 ++ many2) i u2 (by rw [List.length_append]; omega)
    refine ⟨c, B2, run.trans ?_, k2⟩
    have ix : IL.idxop (.str (txt (many1 ++ many2))) (.int i) = some (.str (txt [c])) := by rw [IL.idx_txt _ _ w2, hc]; rfl
    simp -implicitDefEqProofs [d_l_sign, c_l_sign, l_few, l_many1, l_many2, a1, -IL.add_txt, e1, q, L2, -IL.len_txt, e2, ix, -IL.idx_txt]
theorem T_bent (N : Nat) (l : List Nat) (B : Box) (hN : 3 ≤ N) (hl : l.length ≤ 100000) (hB : Ok B) : ∃ (l' : List Nat) (B' : Box), T N f_l_bent [.ow (.lst B.ds), .im (.str (txt l)), .im (.int 3)] = .ret (.dat (.str (txt l'))) [.ow (.lst B'.ds), .im (.str (txt l)), .im (.int 3)] ∧ l'.length ≤ l.length + 4 ∧ Ok B' := by
  obtain ⟨n, rfl⟩ : ∃ n, N = n + 1 := ⟨N - 1, by omega⟩
  have run := IL.tbl_succ (ds := defs.map J.DefR.il) (n := n) (f := f_l_bent) (d := d_l_bent.il) (δ := [.ow (.lst B.ds), .im (.str (txt l)), .im (.int 3)]) rfl rfl
  obtain ⟨t, B1, e1, u1, v1, k1⟩ := T_take n 4 B (by omega) (by decide) (by decide) hB
  have w1 : -4611686018427387904 ≤ t := by omega
  have w2 : t < 4611686018427387904 := by omega
  simp -implicitDefEqProofs [d_l_bent, c_l_bent, e1, w1, w2] at run
  generalize hX : IL.forGo _ _ _ _ _ = X at run
  obtain ⟨δ', rfl, l', B', s3, s4, s5, s6, rfl, h1, h2⟩ : ∃ δ', X = .ok .nx δ' ∧ ∃ (l' : List Nat) (B' : Box) (s3 s4 s5 s6 : Slot), δ' = [.ow (.lst B'.ds), .im (.str (txt l')), .im (.int 3), s3, s4, s5, s6] ∧ l'.length ≤ l.length + t.toNat ∧ Ok B' := by
    refine forGo_range t.toNat (fun k δ => ∃ (l' : List Nat) (B' : Box) (s3 s4 s5 s6 : Slot), δ = [.ow (.lst B'.ds), .im (.str (txt l')), .im (.int 3), s3, s4, s5, s6] ∧ l'.length ≤ l.length + k ∧ Ok B') hX ⟨l, B1, .un, .un, .un, .un, rfl, by omega, k1⟩ ?_
    rintro k _ hk ⟨m, B2, s3, s4, s5, s6, rfl, h1, h2⟩
    have w3 : m.length ≤ 16777216 := by omega
    obtain ⟨a, B3, e3, u3, v3, k3⟩ := T_take n ((m.length : Int) + 1) B2 (by omega) (by omega) (by omega) h2
    obtain ⟨b, B4, e4, u4, v4, k4⟩ := T_take n 3 B3 (by omega) (by decide) (by decide) k3
    obtain ⟨c, B5, e5, k5⟩ := T_sign n B4 (by omega) k4
    have c1 := cutl_to m a u3
    have c2 := cutl_from m a u3
    have c3 := cutl_from m (a + 1) (by omega)
    generalize hx : IL.cutD m none (some a) = x at c1
    generalize hy : IL.cutD m (some a) none = y at c2
    generalize hz : IL.cutD m (some (a + 1)) none = z at c3
    by_cases q0 : b = 0
    · refine ⟨_, .inl (?_ : _ = IL.R.ok IL.Fl.nx [.ow (.lst B5.ds), .im (.str (txt (x ++ [c] ++ y))), .im (.int 3), .im (.int (k : Int)), .im (.int a), .im (.int b), .im (.str (txt [c]))]), _, _, _, _, _, _, rfl, by simp; omega, k5⟩
      have w4 : x.length + 1 ≤ 16777216 := by omega
      have w5 : x.length + 1 + y.length ≤ 16777216 := by omega
      simp -implicitDefEqProofs [w3, e3, e4, e5, q0, hx, hy, w4, w5, -List.append_assoc]
    · by_cases q1 : b = 1
      · refine ⟨_, .inl (?_ : _ = IL.R.ok IL.Fl.nx [.ow (.lst B5.ds), .im (.str (txt (x ++ z))), .im (.int 3), .im (.int (k : Int)), .im (.int a), .im (.int b), .im (.str (txt [c]))]), _, _, _, _, _, _, rfl, by simp; omega, k5⟩
        have w4 : x.length + z.length ≤ 16777216 := by omega
        simp -implicitDefEqProofs [w3, e3, e4, e5, q0, q1, hx, hz, w4, -List.append_assoc]
      · refine ⟨_, .inl (?_ : _ = IL.R.ok IL.Fl.nx [.ow (.lst B5.ds), .im (.str (txt (x ++ [c] ++ z))), .im (.int 3), .im (.int (k : Int)), .im (.int a), .im (.int b), .im (.str (txt [c]))]), _, _, _, _, _, _, rfl, by simp; omega, k5⟩
        have w4 : x.length + 1 ≤ 16777216 := by omega
        have w5 : x.length + 1 + z.length ≤ 16777216 := by omega
        simp -implicitDefEqProofs [w3, e3, e4, e5, q0, q1, hx, hz, w4, w5, -List.append_assoc]
  refine ⟨l', B', run.trans (by simp), by omega, h2⟩
theorem T_free (N : Nat) (B : Box) (hN : 3 ≤ N) (hB : Ok B) : ∃ (l' : List Nat) (B' : Box), T N f_l_free [.ow (.lst B.ds), .im (.int 24)] = .ret (.dat (.str (txt l'))) [.ow (.lst B'.ds), .im (.int 24)] ∧ l'.length ≤ 24 ∧ Ok B' := by
  obtain ⟨n, rfl⟩ : ∃ n, N = n + 1 := ⟨N - 1, by omega⟩
  have run := IL.tbl_succ (ds := defs.map J.DefR.il) (n := n) (f := f_l_free) (d := d_l_free.il) (δ := [.ow (.lst B.ds), .im (.int 24)]) rfl rfl
  obtain ⟨t, B1, e1, u1, v1, k1⟩ := T_take n 25 B (by omega) (by decide) (by decide) hB
  have w1 : -4611686018427387904 ≤ t := by omega
  have w2 : t < 4611686018427387904 := by omega
  simp -implicitDefEqProofs [d_l_free, c_l_free, l_empty, e1, w1, w2] at run
  generalize hX : IL.forGo _ _ _ _ _ = X at run
  obtain ⟨δ', rfl, l', B', s3, rfl, h1, h2⟩ : ∃ δ', X = .ok .nx δ' ∧ ∃ (l' : List Nat) (B' : Box) (s3 : Slot), δ' = [.ow (.lst B'.ds), .im (.int 24), .im (.str (txt l')), s3] ∧ l'.length ≤ t.toNat ∧ Ok B' := by
    refine forGo_range t.toNat (fun k δ => ∃ (l' : List Nat) (B' : Box) (s3 : Slot), δ = [.ow (.lst B'.ds), .im (.int 24), .im (.str (txt l')), s3] ∧ l'.length ≤ k ∧ Ok B') hX ⟨[], B1, .un, rfl, by simp, k1⟩ ?_
    rintro k _ hk ⟨m, B2, s3, rfl, h1, h2⟩
    obtain ⟨c, B5, e5, k5⟩ := T_sign n B2 (by omega) h2
    refine ⟨_, .inl (?_ : _ = IL.R.ok IL.Fl.nx [.ow (.lst B5.ds), .im (.int 24), .im (.str (txt (m ++ [c]))), .im (.int (k : Int))]), _, _, _, rfl, by simp; omega, k5⟩
    have w3 : m.length + 1 ≤ 16777216 := by omega
    simp -implicitDefEqProofs [e5, w3]
  refine ⟨l', B', run.trans (by simp), by omega, h2⟩
end K04
end
section
set_option Elab.async false
set_option linter.all false
set_option autoImplicit false
set_option maxRecDepth 100000
set_option maxHeartbeats 4000000
/-! O11: digits, words exchanged and doubled, texts near to a text. -/
namespace K04
open PySem
open IL (Slot Ow seqD intsD txt txtsD spl itxt)
theorem mul_txt (l : List Nat) (i : Int) (h0 : 0 ≤ i) (h1 : i ≤ 1000) (h2 : l.length ≤ 1000) : ∃ m, IL.binop .mul (.str (txt l)) (.int i) = some (.dat (.str (txt m))) ∧ m.length ≤ 1000000 := by
  have e : IL.binop .mul (.str (txt l)) (.int i) = if 0 ≤ i ∧ i ≤ 1000 ∧ (txt l).length ≤ 1000 then some (.dat (.str (Txt.mul (txt l) i))) else none := rfl
  rw [e, IL.txt_len, if_pos ⟨h0, h1, h2⟩]
  have q := PyProof.Rows.len_mul_leN (x := txt l) (n := i) (L := 1000) (N := 1000) (by rw [IL.txt_len]; exact h2) h1
  refine ⟨(Txt.mul (txt l) i).cps.toList, by rw [IL.txt_of], ?_⟩
  rw [← IL.txt_of (Txt.mul (txt l) i), IL.txt_len] at q
  exact q
theorem T_digits (N : Nat) (B : Box) (hN : 2 ≤ N) (hB : Ok B) : ∃ (l' : List Nat) (B' : Box), T N f_l_digits [.ow (.lst B.ds)] = .ret (.dat (.str (txt l'))) [.ow (.lst B'.ds)] ∧ l'.length ≤ 301 ∧ Ok B' := by
  obtain ⟨n, rfl⟩ : ∃ n, N = n + 1 := ⟨N - 1, by omega⟩
  have run := IL.tbl_succ (ds := defs.map J.DefR.il) (n := n) (f := f_l_digits) (d := d_l_digits.il) (δ := [.ow (.lst B.ds)]) rfl rfl
  obtain ⟨t1, B1, e1, u1, v1, k1⟩ := T_take n 9 B (by omega) (by decide) (by decide) hB
  obtain ⟨t2, B2, e2, u2, v2, k2⟩ := T_takeL n 10000000000000000000000000000000000000000 B1 (by omega) (by decide) (log_lt _ 9000 (by decide) (by decide)) k1
  obtain ⟨t3, B3, e3, u3, v3, k3⟩ := T_take n 2 B2 (by omega) (by decide) (by decide) k2
  obtain ⟨t4, B4, e4, u4, v4, k4⟩ := T_take n 10 B3 (by omega) (by decide) (by decide) k3
  obtain ⟨d, hd, hd2⟩ := nat_at ([1, 2, 99, 100, 199, 200, 201, 202, 300] : List Int) t1 u1 (by simp; omega)
  have hd3 : (0 : Int) ≤ d ∧ d ≤ 300 := by
    simp at hd
    omega
  have at1 : L2.atI [PyData.int 1, .int 2, .int 99, .int 100, .int 199, .int 200, .int 201, .int 202, .int 300] t1 = some (.int d) := by
    obtain ⟨j, rfl⟩ := Int.eq_ofNat_of_zero_le u1
    have := IL.atI_ofNat ([1, 2, 99, 100, 199, 200, 201, 202, 300] : List Int) j
    rw [hd2] at this
    rw [IL.atI_ofNat]
    have e : [PyData.int 1, .int 2, .int 99, .int 100, .int 199, .int 200, .int 201, .int 202, .int 300] = ([1, 2, 99, 100, 199, 200, 201, 202, 300] : List Int).map PyData.int := rfl
    rw [e, List.getElem?_map, ← this]
    rfl
  obtain ⟨s, hs, hs2⟩ := nat_at [([] : List Nat), [45]] t3 u3 (by simp; omega)
  have hs3 : s.length ≤ 1 := by
    simp at hs
    rcases hs with rfl | rfl <;> simp
  have at3 : L2.atI [PyData.str (txt []), .str (txt [45])] t3 = some (.str (txt s)) := by
    obtain ⟨j, rfl⟩ := Int.eq_ofNat_of_zero_le u3
    have := IL.atI_ofNat [([] : List Nat), [45]] j
    rw [hs2] at this
    rw [IL.atI_ofNat]
    have e : [PyData.str (txt []), .str (txt [45])] = [([] : List Nat), [45]].map fun l => PyData.str (txt l) := rfl
    rw [e, List.getElem?_map, ← this]
    rfl
  have bl2 : (10000000000000000000000000000000000000000 + t2).natAbs < Big := by
    have : (10000000000000000000000000000000000000000 + t2).natAbs < 2 * 10000000000000000000000000000000000000000 := by omega
    exact Nat.lt_of_lt_of_le this (by decide +kernel)
  have bl4 : t4.natAbs < Big := by
    have : t4.natAbs < 10 := by omega
    exact Nat.lt_of_lt_of_le this (by decide +kernel)
  have s2 := IL.str_int _ (big_log bl2)
  have s4 := IL.str_int _ (big_log bl4)
  have n2 := big_len bl2
  have n4 := big_len bl4
  generalize itxt (10000000000000000000000000000000000000000 + t2) = x2 at s2 n2
  generalize itxt t4 = x4 at s4 n4
  have w1 : x2.length ≤ 16777216 := by omega
  have c1 := cutl_from x2 1 (by decide)
  generalize hx : IL.cutD x2 (some 1) none = y at c1
  obtain ⟨m, hm, hml⟩ := mul_txt y 8 (by decide) (by decide) (by omega)
  have w2 : x4.length + m.length ≤ 16777216 := by omega
  have c2 := cutl_to (x4 ++ m) d hd3.1
  generalize hz : IL.cutD (x4 ++ m) none (some d) = z at c2
  have w3 : s.length + z.length ≤ 16777216 := by omega
  refine ⟨s ++ z, B4, run.trans ?_, ?_, k4⟩
  · simp -implicitDefEqProofs [d_l_digits, c_l_digits, l_empty, l_m, e1, e2, e3, e4, at1, at3, s2, s4, w1, w2, w3, hx, hm, hz]
  · rw [List.length_append]
    omega
/-! ### words -/
def tot (ws : List (List Nat)) : Nat := (ws.map (·.length)).sum
theorem tot_cons (w : List Nat) (ws : List (List Nat)) : tot (w :: ws) = w.length + tot ws := rfl
theorem tot_app (a b : List (List Nat)) : tot (a ++ b) = tot a + tot b := by
  unfold tot
  rw [List.map_append, List.sum_append]
theorem tot_mem (w : List Nat) : ∀ ws : List (List Nat), w ∈ ws → w.length ≤ tot ws
  | [], h => absurd h List.not_mem_nil
  | x :: ws, h => by
    rw [tot_cons]
    rcases List.mem_cons.mp h with rfl | h
    · omega
    · have := tot_mem w ws h
      omega
theorem tot_set : ∀ (ws : List (List Nat)) (i : Nat) (w : List Nat), tot (ws.set i w) ≤ tot ws + w.length
  | [], _, _ => by simp [tot]
  | x :: ws, 0, w => by
    rw [List.set_cons_zero, tot_cons, tot_cons]
    omega
  | x :: ws, i + 1, w => by
    rw [List.set_cons_succ, tot_cons, tot_cons]
    have := tot_set ws i w
    omega
theorem tot_take (ws : List (List Nat)) (i : Nat) : tot (ws.take i) ≤ tot ws := by
  have := tot_app (ws.take i) (ws.drop i)
  rw [List.take_append_drop] at this
  omega
theorem tot_drop (ws : List (List Nat)) (i : Nat) : tot (ws.drop i) ≤ tot ws := by
  have := tot_app (ws.take i) (ws.drop i)
  rw [List.take_append_drop] at this
  omega
theorem tot_cut (ws : List (List Nat)) (lo hi : Option Int) : tot (IL.cutD ws lo hi) ≤ tot ws := by
  unfold IL.cutD
  exact Nat.le_trans (tot_take _ _) (tot_drop _ _)
theorem cut_len {α : Type} (ws : List α) (lo hi : Option Int) : (IL.cutD ws lo hi).length ≤ ws.length := by
  unfold IL.cutD
  rw [List.length_take, List.length_drop]
  omega
theorem tot_spl (l : List Nat) : tot (spl 32 l) + (spl 32 l).length = l.length + 1 := IL.spl_sum 32 l
theorem join_tot (ws : List (List Nat)) (h : tot ws + ws.length ≤ 16777216) : IL.tm1op (txt [32]) .join (.list (txtsD ws)) = some (.dat (.str (txt (TL.joinL [32] ws)))) ∧ (TL.joinL [32] ws).length ≤ tot ws + ws.length := by
  constructor
  · refine IL.join_txt [32] ws ?_
    simp only [List.length_singleton, Nat.mul_one]
    exact h
  · have := IL.joinL_len [32] ws
    simp only [List.length_singleton, Nat.mul_one] at this
    exact this
theorem txtsD_set (ws : List (List Nat)) (i : Nat) (w : List Nat) : (txtsD ws).set i (.str (txt w)) = txtsD (ws.set i w) := by
  unfold txtsD
  rw [List.map_set]
theorem ix_in (L : Nat) (i : Int) (h0 : 0 ≤ i) (h1 : i < L) : L2.ixN L i = some i.toNat := by
  obtain ⟨j, rfl⟩ := Int.eq_ofNat_of_zero_le h0
  rw [IL.ixN_ofNat, if_pos (by omega)]
  rfl
theorem T_exch (N : Nat) (l : List Nat) (B : Box) (hN : 2 ≤ N) (hl : l.length ≤ 100000) (hB : Ok B) : ∃ (l' : List Nat) (B' : Box), T N f_l_exchanged [.ow (.lst B.ds), .im (.str (txt l))] = .ret (.dat (.str (txt l'))) [.ow (.lst B'.ds), .im (.str (txt l))] ∧ l'.length ≤ 1000000 ∧ Ok B' := by
  obtain ⟨n, rfl⟩ : ∃ n, N = n + 1 := ⟨N - 1, by omega⟩
  have run := IL.tbl_succ (ds := defs.map J.DefR.il) (n := n) (f := f_l_exchanged) (d := d_l_exchanged.il) (δ := [.ow (.lst B.ds), .im (.str (txt l))]) rfl rfl
  have ts := tot_spl l
  have lp := IL.spl_lpos 32 l
  have es := IL.split_txt l 32 (by omega) (by decide)
  generalize spl 32 l = ws at ts lp es
  obtain ⟨t1, B1, e1, u1, v1, k1⟩ := T_take n ws.length B (by omega) (by omega) (by omega) hB
  obtain ⟨t2, B2, e2, u2, v2, k2⟩ := T_take n ws.length B1 (by omega) (by omega) (by omega) k1
  obtain ⟨a, ha, hat⟩ := names_at ws t1 u1 v1
  obtain ⟨b, hb, hbt⟩ := names_at ws t2 u2 v2
  have i1 := ix_in ws.length t1 u1 v1
  have i2 := ix_in ws.length t2 u2 v2
  have m1 := tot_mem a ws ha
  have m2 := tot_mem b ws hb
  have s1 := tot_set ws t1.toNat b
  have s2 := tot_set (ws.set t1.toNat b) t2.toNat a
  obtain ⟨j1, j2⟩ := join_tot ((ws.set t1.toNat b).set t2.toNat a) (by rw [List.length_set, List.length_set]; omega)
  rw [List.length_set, List.length_set] at j2
  refine ⟨_, B2, run.trans ?_, (by omega : (TL.joinL [32] ((ws.set t1.toNat b).set t2.toNat a)).length ≤ 1000000), k2⟩
  simp -implicitDefEqProofs [d_l_exchanged, c_l_exchanged, l_sp, es, -IL.split_txt, e1, e2, hat, hbt, i1, i2, txtsD_set, j1]
theorem T_doub (N : Nat) (l : List Nat) (B : Box) (hN : 2 ≤ N) (hl : l.length ≤ 100000) (hB : Ok B) : ∃ (l' : List Nat) (B' : Box), T N f_l_doubled [.ow (.lst B.ds), .im (.str (txt l))] = .ret (.dat (.str (txt l'))) [.ow (.lst B'.ds), .im (.str (txt l))] ∧ l'.length ≤ 1000000 ∧ Ok B' := by
  obtain ⟨n, rfl⟩ : ∃ n, N = n + 1 := ⟨N - 1, by omega⟩
  have run := IL.tbl_succ (ds := defs.map J.DefR.il) (n := n) (f := f_l_doubled) (d := d_l_doubled.il) (δ := [.ow (.lst B.ds), .im (.str (txt l))]) rfl rfl
  have ts := tot_spl l
  have lp := IL.spl_lpos 32 l
  have es := IL.split_txt l 32 (by omega) (by decide)
  generalize spl 32 l = ws at ts lp es
  obtain ⟨t1, B1, e1, u1, v1, k1⟩ := T_take n ws.length B (by omega) (by omega) (by omega) hB
  obtain ⟨t2, B2, e2, u2, v2, k2⟩ := T_take n ((ws.length : Int) + 1) B1 (by omega) (by omega) (by omega) k1
  obtain ⟨a, ha, hat⟩ := names_at ws t1 u1 v1
  have m1 := tot_mem a ws ha
  have c1 := cutD_txts ws none (some t2)
  have c2 := cutD_txts ws (some t2) none
  have p1 := tot_cut ws none (some t2)
  have p2 := tot_cut ws (some t2) none
  have q1 := cut_len ws none (some t2)
  have q2 := cut_len ws (some t2) none
  generalize IL.cutD ws none (some t2) = x at c1 p1 q1
  generalize IL.cutD ws (some t2) none = y at c2 p2 q2
  have tt : tot (x ++ [a] ++ y) = tot x + a.length + tot y := by
    rw [tot_app, tot_app]
    simp [tot]
  obtain ⟨j1, j2⟩ := join_tot (x ++ [a] ++ y) (by rw [tt, List.length_append, List.length_append, List.length_singleton]; omega)
  rw [tt, List.length_append, List.length_append, List.length_singleton] at j2
  have b1 : IL.binop .add (.list (txtsD x)) (.list [.str (txt a)]) = some (.new (.lst (txtsD (x ++ [a])))) := by
    rw [txtsD_snoc]
    exact IL.add_list _ _ (by rw [IL.txtsD_len, IL.size_val, List.length_singleton]; omega)
  have b2 : IL.binop .add (.list (txtsD (x ++ [a]))) (.list (txtsD y)) = some (.new (.lst (txtsD (x ++ [a] ++ y)))) := by
    rw [txtsD_app (x ++ [a]) y]
    exact IL.add_list (txtsD (x ++ [a])) (txtsD y) (by rw [IL.txtsD_len, IL.txtsD_len, IL.size_val, List.length_append, List.length_singleton]; omega)
  refine ⟨_, B2, run.trans ?_, (by omega : (TL.joinL [32] (x ++ [a] ++ y)).length ≤ 1000000), k2⟩
  simp -implicitDefEqProofs [d_l_doubled, c_l_doubled, l_sp, es, -IL.split_txt, e1, e2, hat, c1, c2, b1, b2, j1, -List.append_assoc]
end K04
end
section
set_option Elab.async false
set_option linter.all false
set_option autoImplicit false
set_option maxRecDepth 100000
set_option maxHeartbeats 4000000
/-! O12: texts near to a text; the law. -/
namespace K04
open PySem
open IL (Slot Ow seqD intsD txt txtsD spl itxt CE CEs CB)
inductive EvS : CE → Nat → Prop
  | x : EvS (.var 3) 8
  | y : EvS (.var 4) 8
  | t : EvS (.var 1) 5000
  | s (z : Str) (h : z.length ≤ 20) : EvS (.str z) 20
  | up : EvS (.tm .upper (.var 3)) 8
  | add {a b : CE} {m k : Nat} (h1 : EvS a m) (h2 : EvS b k) (h : m + k ≤ 30000) : EvS (.bin .add a b) (m + k)
  | sli {a : CE} {m : Nat} (h1 : EvS a m) (h : m ≤ 30000) : EvS (.sli a .no (.yes (.int 9))) m
inductive EvSs : CEs → Nat → Prop
  | nil : EvSs .nil 0
  | cons {e : CE} {es : CEs} {m k : Nat} (h1 : EvS e m) (h : m ≤ 30000) (h2 : EvSs es k) : EvSs (.cons e es) (k + 1)
inductive Menu : CB → Nat → Prop
  | last : Menu (.cons (.ret (.idx (.var 5) (.call 7 (.cons (.var 0) (.cons (.fz (.bi .len (.cons (.var 5) .nil))) .nil))))) .nil) 0
  | step {es : CEs} {b : CB} {k n : Nat} (h1 : EvSs es k) (h : k ≤ 20) (h2 : Menu b n) : Menu (.cons (.set (.name 5) (.bin .add (.var 5) (.lst es))) b) (n + 1)
section
variable {n : Nat} {l x y : List Nat} (hl : l.length ≤ 5000) (hx : Nm x) (hy : Nm y)
abbrev C2 (n : Nat) : IL.Cfg := ⟨2, IL.tbl (defs.map J.DefR.il) n⟩
abbrev nrE (B : Box) (l x y : List Nat) (s2 s5 : Slot) : IL.Env := [.ow (.lst B.ds), .im (.str (txt l)), s2, .im (.str (txt x)), .im (.str (txt y)), s5]
include hl hx hy in
theorem EvS.run {e : CE} {m : Nat} (h : EvS e m) (B : Box) (s2 s5 : Slot) : ∃ l', IL.ev (C2 n) e (nrE B l x y s2 s5) = .ok (.dat (.str (txt l'))) (nrE B l x y s2 s5) ∧ l'.length ≤ m := by
  induction h with
  | x => exact ⟨x, by simp -implicitDefEqProofs, hx.2.1⟩
  | y => exact ⟨y, by simp -implicitDefEqProofs, hy.2.1⟩
  | t => exact ⟨l, by simp -implicitDefEqProofs, hl⟩
  | s z h =>
    refine ⟨z.cps.toList, by rw [IL.txt_of]; simp -implicitDefEqProofs, ?_⟩
    rw [← IL.txt_of z, IL.txt_len] at h
    exact h
  | up =>
    have a1 := hx.2.1
    have a2 : x.all (· < 128) = true := by
      rw [List.all_eq_true]
      intro c hc
      simpa using hx.2.2 c hc
    have u := IL.upper_txt x (by omega) a2
    refine ⟨x.map PyProof.Rows.up1, by simp -implicitDefEqProofs [u], by rw [List.length_map]; exact a1⟩
  | add h1 h2 h ih1 ih2 =>
    obtain ⟨a, e1, q1⟩ := ih1
    obtain ⟨b, e2, q2⟩ := ih2
    refine ⟨a ++ b, ?_, by rw [List.length_append]; omega⟩
    have w : a.length + b.length ≤ 16777216 := by omega
    simp -implicitDefEqProofs [e1, e2, w]
  | sli h1 h ih =>
    obtain ⟨a, e1, q1⟩ := ih
    have w : a.length ≤ 16777216 := by omega
    refine ⟨IL.cutD a none (some 9), ?_, Nat.le_trans (cut_len _ _ _) q1⟩
    simp -implicitDefEqProofs [e1, w]
include hl hx hy in
theorem EvSs.run {es : CEs} {k : Nat} (h : EvSs es k) (B : Box) (s2 s5 : Slot) : ∃ ls, IL.evD (C2 n) es (nrE B l x y s2 s5) = .ok (txtsD ls) (nrE B l x y s2 s5) ∧ ls.length = k ∧ ∀ a ∈ ls, a.length ≤ 30000 := by
  induction h with
  | nil => exact ⟨[], by simp -implicitDefEqProofs, rfl, by simp⟩
  | cons h1 h h2 ih =>
    obtain ⟨a, e1, q1⟩ := EvS.run (n := n) hl hx hy h1 B s2 s5
    obtain ⟨ls, e2, q2, q3⟩ := ih
    refine ⟨a :: ls, ?_, by simp [q2], ?_⟩
    · simp -implicitDefEqProofs [e1, e2]
      rfl
    · intro z hz
      rcases List.mem_cons.mp hz with rfl | hz
      · omega
      · exact q3 z hz
include hl hx hy in
theorem Menu.run {b : CB} {k : Nat} (h : Menu b k) (hn : 1 ≤ n) (B : Box) (s2 : Slot) (hB : Ok B) : ∀ (M : List (List Nat)), 1 ≤ M.length → M.length + 20 * k ≤ 1000 → (∀ a ∈ M, a.length ≤ 30000) →
    ∃ (l' : List Nat) (B' : Box) (s5 : Slot), IL.exs (C2 n) b (nrE B l x y s2 (.ow (.lst (txtsD M)))) = .ok (.rt (.dat (.str (txt l')))) (nrE B' l x y s2 s5) ∧ l'.length ≤ 30000 ∧ Ok B' := by
  induction h with
  | last =>
    intro M m0 m1 m2
    obtain ⟨t, B', e, u, v, k1⟩ := T_take n M.length B hn (by omega) (by omega) hB
    obtain ⟨a, ha, hat⟩ := names_at M t u v
    refine ⟨a, B', .ow (.lst (txtsD M)), ?_, m2 a ha, k1⟩
    simp -implicitDefEqProofs [e, hat]
  | step h1 h h2 ih =>
    intro M m0 m1 m2
    obtain ⟨ls, e1, q1, q2⟩ := EvSs.run (n := n) hl hx hy h1 B s2 (.ow (.lst (txtsD M)))
    obtain ⟨l', B', s5, e, r1, r2⟩ := ih (M ++ ls) (by rw [List.length_append]; omega) (by rw [List.length_append]; omega) (fun a ha => (List.mem_append.mp ha).elim (m2 a) (q2 a))
    refine ⟨l', B', s5, ?_, r1, r2⟩
    have ba : IL.binop .add (.list (txtsD M)) (.list (txtsD ls)) = some (.new (.lst (txtsD (M ++ ls)))) := by
      rw [txtsD_app]
      exact IL.add_list _ _ (by rw [IL.txtsD_len, IL.txtsD_len, IL.size_val]; omega)
    have w : ls.length ≤ 16777216 := by omega
    rw [← e]
    simp -implicitDefEqProofs [e1, ba, w]
end
theorem c_near_eq : ∃ es b, c_l_near =
    (.cons (.set (.name 2) (.call 8 (.cons (.var 0) (.cons (.int 2) .nil))))
    (.cons (.set (.name 3) (.idx (.var 2) (.int 0)))
    (.cons (.set (.name 4) (.idx (.var 2) (.int 1)))
    (.cons (.set (.name 5) (.lst es)) b)))) ∧ EvSs es 11 ∧ Menu b 8 := by
  refine ⟨_, _, rfl, ?_, ?_⟩
  · repeat' first | exact EvSs.nil | exact EvS.x | exact EvS.y | exact EvS.t | exact EvS.up | apply EvS.s | apply EvS.add | apply EvS.sli | apply EvSs.cons | decide
  · repeat' first | exact Menu.last | apply Menu.step | exact EvSs.nil | exact EvS.x | exact EvS.y | exact EvS.t | exact EvS.up | apply EvS.s | apply EvS.add | apply EvS.sli | apply EvSs.cons | decide
theorem T_near (N : Nat) (l : List Nat) (B : Box) (hN : 3 ≤ N) (hl : l.length ≤ 5000) (hB : Ok B) : ∃ (l' : List Nat) (B' : Box), T N f_l_near [.ow (.lst B.ds), .im (.str (txt l))] = .ret (.dat (.str (txt l'))) [.ow (.lst B'.ds), .im (.str (txt l))] ∧ l'.length ≤ 30000 ∧ Ok B' := by
  obtain ⟨n, rfl⟩ : ∃ n, N = n + 1 := ⟨N - 1, by omega⟩
  have run := IL.tbl_succ (ds := defs.map J.DefR.il) (n := n) (f := f_l_near) (d := d_l_near.il) (δ := [.ow (.lst B.ds), .im (.str (txt l))]) rfl rfl
  obtain ⟨ns, B1, e1, h1, h2, k1⟩ := T_names n 2 B (by omega) (by decide) (by decide) hB
  obtain ⟨es, b, ec, he, hm⟩ := c_near_eq
  match ns, h1, h2, e1 with
  | [x, y], h1, h2, e1 =>
    have hx := h1 x List.mem_cons_self
    have hy := h1 y (List.mem_cons_of_mem _ List.mem_cons_self)
    have ed : txtsD [x, y] = [.str (txt x), .str (txt y)] := rfl
    rw [ed] at e1
    obtain ⟨ls, q1, q2, q3⟩ := EvSs.run (n := n) hl hx hy he B1 (.ow (.lst [.str (txt x), .str (txt y)])) .un
    obtain ⟨l', B', s5, q, r1, r2⟩ := Menu.run (n := n) hl hx hy hm (by omega) B1 (.ow (.lst [.str (txt x), .str (txt y)])) k1 ls (by omega) (by omega) q3
    refine ⟨l', B', run.trans ?_, r1, r2⟩
    have w : ls.length ≤ 16777216 := by omega
    simp -implicitDefEqProofs [d_l_near, ec, e1, q1, q, w]
  | [], _, h2, _ => simp at h2
  | [_], _, h2, _ => simp at h2
  | _ :: _ :: _ :: _, _, h2, _ =>
    simp at h2
    omega
theorem T_bag (N : Nat) (ns : List Int) (hN : 1 ≤ N) : T N f_l_bag [.im (.list (intsD ns))] = .ret (.new (.lst (Box.ds ⟨ns, 0, 0, 1, 0⟩))) [.im (.list (intsD ns))] := by
  obtain ⟨n, rfl⟩ : ∃ n, N = n + 1 := ⟨N - 1, by omega⟩
  refine (IL.tbl_succ (d := d_l_bag.il) rfl rfl).trans ?_
  simp -implicitDefEqProofs [d_l_bag, c_l_bag, Box.ds]
theorem law_true (ns : List Int) (hl : ns.length ≤ 63) : ∃ δ', IL.tbl (defs.map J.DefR.il) 20 f_law [.im (.list (intsD ns))] = .ret (.dat (.bool true)) δ' := by
  have run := IL.tbl_succ (ds := defs.map J.DefR.il) (n := 19) (f := f_law) (d := d_law.il) (δ := [.im (.list (intsD ns))]) rfl rfl
  have bx := T_bag 19 ns (by decide)
  have k0 : Ok (⟨ns, 0, 0, 1, 0⟩ : Box) := by show (0 : Int) ≤ 0; decide
  generalize (⟨ns, 0, 0, 1, 0⟩ : Box) = B0 at *
  obtain ⟨st, B1, e1, hs, k1⟩ := T_values 19 B0 (by decide) k0
  have et := T_text 19 st (by decide) hs
  have ew := T_write 19 st (by decide) hs
  have hj := J_len hs
  generalize J st = l at et ew hj
  have es := same_txt l 19 (by decide)
  have r0 := T_lread 19 l (by decide) (by omega)
  obtain ⟨l1, B2, e2, h2, k2⟩ := T_exch 19 l B1 (by decide) (by omega) k1
  have r1 := T_lread 19 l1 (by decide) (by omega)
  obtain ⟨l2, B3, e3, h3, k3⟩ := T_doub 19 l B2 (by decide) (by omega) k2
  have r2 := T_lread 19 l2 (by decide) (by omega)
  obtain ⟨l3, B4, e4, h4, k4⟩ := T_bent 19 l B3 (by decide) (by omega) k3
  have r3 := T_lread 19 l3 (by decide) (by omega)
  obtain ⟨l4, B5, e5, h5, k5⟩ := T_near 19 l B4 (by decide) hj k4
  have r4 := T_lread 19 l4 (by decide) (by omega)
  obtain ⟨nm, B6, e6, h6, h6', k6⟩ := T_names 19 1 B5 (by decide) (by decide) (by decide) k5
  obtain ⟨x, hx, hat⟩ := names_at nm 0 (by decide) (by omega)
  have hx2 := (h6 x hx).2.1
  obtain ⟨l5, B7, e7, h7, k7⟩ := T_digits 19 B6 (by decide) k6
  obtain ⟨l6, B8, e8, h8, k8⟩ := T_free 19 B7 (by decide) k7
  have r5 := T_lread 19 (x ++ [61] ++ l5) (by decide) (by simp; omega)
  have r6 := T_lread 19 l6 (by decide) (by omega)
  have w1 : x.length + 1 ≤ 16777216 := by omega
  have w2 : x.length + 1 + l5.length ≤ 16777216 := by omega
  refine ⟨[.im (.list (intsD ns))], run.trans ?_⟩
  · simp -implicitDefEqProofs [d_law, c_law, bx, e1, et, ew, es, r0, e2, r1, e3, r2, e4, r3, e5, r4, e6, hat, e7, e8, r5, r6, l_eq, w1, w2, -List.append_assoc, -IL.atI_0]
end K04
end
section
set_option Elab.async false
set_option linter.all false
set_option maxRecDepth 100000
set_option maxHeartbeats 4000000
namespace K04
open PySem PySem.Spec PyProof.Rows L2 PySem.W
abbrev LW : PySem.W.OpenLaw := PySem.Challenge.rw_ringclause_k04_texts_of_values
/-- what the top has written -/
theorem all_mk {w : World} {K : Frag} {h : Heap} {mg : Str → Option Value} {fa : Addr} (X : K.In h) (G : h.Ns mainGlobals mg) (hfa : mg "law" = some (.ref fa))
    {f0 f1 f2 f3 f4 f5 f6 f7 f8 f9 f10 f11 f12 f13 f14 f15 f16 f17 f18 f19 f20 f21 f22 f23 f24 f25 C0 N0 C1 N1 C2 N2 C3 N3 C4 N4 C5 N5 fI0 cc0 cda0 fI1 cc1 cda1 fI2 cc2 cda2 fI3 cc3 cda3 fI4 cc4 cda4 : Addr}
    {od0 an0 od1 an1 od2 an2 od3 an3 od4 an4 od5 an5 od6 an6 od7 an7 od8 an8 od9 an9 od10 an10 od11 an11 od12 an12 od13 an13 od14 an14 od15 an15 od16 an16 od17 an17 od18 an18 od19 an19 od20 an20 od21 an21 od22 an22 od23 an23 od24 an24 od25 an25 dd0 dd1 dd2 dd3 dd4 dd5 yo0 ya0 yc0 yl0 yo1 ya1 yc1 yl1 yo2 ya2 yc2 yl2 yo3 ya3 yc3 yl3 yo4 ya4 yc4 yl4 : Option Addr}
    {sl0 sl1 sl2 sl3 sl4 sl5 sl6 sl7 sl8 sl9 sl10 sl11 sl12 sl13 sl14 sl15 sl16 sl17 sl18 sl19 sl20 sl21 sl22 sl23 sl24 sl25 so0 sc0 ss0 so1 sc1 ss1 so2 sc2 ss2 so3 sc3 ss3 so4 sc4 ss4 : Array (Option Value)}
    {oc0 kV0 dc0 pm0 cd0 ct0 oc1 kV1 dc1 pm1 cd1 ct1 oc2 kV2 dc2 pm2 cd2 ct2 oc3 kV3 dc3 pm3 cd3 ct3 oc4 kV4 dc4 pm4 cd4 ct4 oc5 kV5 dc5 pm5 cd5 ct5 oc6 kV6 dc6 pm6 cd6 ct6 oc7 kV7 dc7 pm7 cd7 ct7 oc8 kV8 dc8 pm8 cd8 ct8 oc9 kV9 dc9 pm9 cd9 ct9 oc10 kV10 dc10 pm10 cd10 ct10 oc11 kV11 dc11 pm11 cd11 ct11 oc12 kV12 dc12 pm12 cd12 ct12 oc13 kV13 dc13 pm13 cd13 ct13 oc14 kV14 dc14 pm14 cd14 ct14 oc15 kV15 dc15 pm15 cd15 ct15 oc16 kV16 dc16 pm16 cd16 ct16 oc17 kV17 dc17 pm17 cd17 ct17 oc18 kV18 dc18 pm18 cd18 ct18 oc19 kV19 dc19 pm19 cd19 ct19 oc20 kV20 dc20 pm20 cd20 ct20 oc21 kV21 dc21 pm21 cd21 ct21 oc22 kV22 dc22 pm22 cd22 ct22 oc23 kV23 dc23 pm23 cd23 ct23 oc24 kV24 dc24 pm24 cd24 ct24 oc25 kV25 dc25 pm25 cd25 ct25 xo0 xk0 xc0 xp0 xt0 xe0 xl0 xo1 xk1 xc1 xp1 xt1 xe1 xl1 xo2 xk2 xc2 xp2 xt2 xe2 xl2 xo3 xk3 xc3 xp3 xt3 xe3 xl3 xo4 xk4 xc4 xp4 xt4 xe4 xl4 : Value}
    {nm0 qn0 nm1 qn1 nm2 qn2 nm3 qn3 nm4 qn4 nm5 qn5 fl0 fl1 fl2 fl3 fl4 gs0 gs1 : Str}
    {bs0 sub0 bs1 sub1 bs2 sub2 bs3 sub3 bs4 sub4 bs5 sub5 bm5 : List Value}
    {sn0 sn1 sn2 sn3 sn4 sn5 : List Str}
    {ab0 ab1 ab2 ab3 ab4 ab5 : Bool}
    {col0 col1 col2 col3 col4 col5 : Option Bool}
    {k0_0 k1_0 k2_0 k3_0 k5_0 k0_1 k1_1 k2_1 k3_1 k5_1 k0_2 k1_2 k2_2 k3_2 k5_2 k0_3 k1_3 k2_3 k3_3 k5_3 k0_4 k1_4 k2_4 k3_4 k5_4 k0_5 k1_5 k2_5 k3_5 k5_5 : Option Value}
    {tf0 tf1 tf2 tf3 tf4 gt0 gt1 gt2 gt3 : Tok}
    {vs0 vs1 vs2 vs3 vs4 : Array Value}
    (a0 : nsIn K mainGlobals "is_name" = some (some (.ref f0)))
    (l0 : K.lookup f0 = some ⟨oc0, od0, .func (fnOf "is_name" "is_name" (defArgs (topS 11)) (defBody (topS 11)) (defScope (topS 11)) .none kV0 dc0 pm0 an0 cd0 ct0), sl0⟩)
    (c0 : codeIn K cd0 "is_name" = true)
    (k0 : keepIn K (.ref f0) = true)
    (a1 : nsIn K mainGlobals "is_ascending" = some (some (.ref f1)))
    (l1 : K.lookup f1 = some ⟨oc1, od1, .func (fnOf "is_ascending" "is_ascending" (defArgs (topS 12)) (defBody (topS 12)) (defScope (topS 12)) .none kV1 dc1 pm1 an1 cd1 ct1), sl1⟩)
    (c1 : codeIn K cd1 "is_ascending" = true)
    (k1 : keepIn K (.ref f1) = true)
    (a2 : nsIn K mainGlobals "write_values" = some (some (.ref f2)))
    (l2 : K.lookup f2 = some ⟨oc2, od2, .func (fnOf "write_values" "write_values" (defArgs (topS 15)) (defBody (topS 15)) (defScope (topS 15)) .none kV2 dc2 pm2 an2 cd2 ct2), sl2⟩)
    (c2 : codeIn K cd2 "write_values" = true)
    (k2 : keepIn K (.ref f2) = true)
    (a3 : nsIn K mainGlobals "_are_digits" = some (some (.ref f3)))
    (l3 : K.lookup f3 = some ⟨oc3, od3, .func (fnOf "_are_digits" "_are_digits" (defArgs (topS 16)) (defBody (topS 16)) (defScope (topS 16)) .none kV3 dc3 pm3 an3 cd3 ct3), sl3⟩)
    (c3 : codeIn K cd3 "_are_digits" = true)
    (k3 : keepIn K (.ref f3) = true)
    (a4 : nsIn K mainGlobals "read_integer" = some (some (.ref f4)))
    (l4 : K.lookup f4 = some ⟨oc4, od4, .func (fnOf "read_integer" "read_integer" (defArgs (topS 17)) (defBody (topS 17)) (defScope (topS 17)) .none kV4 dc4 pm4 an4 cd4 ct4), sl4⟩)
    (c4 : codeIn K cd4 "read_integer" = true)
    (k4 : keepIn K (.ref f4) = true)
    (a5 : nsIn K mainGlobals "read_values" = some (some (.ref f5)))
    (l5 : K.lookup f5 = some ⟨oc5, od5, .func (fnOf "read_values" "read_values" (defArgs (topS 18)) (defBody (topS 18)) (defScope (topS 18)) .none kV5 dc5 pm5 an5 cd5 ct5), sl5⟩)
    (c5 : codeIn K cd5 "read_values" = true)
    (k5 : keepIn K (.ref f5) = true)
    (a6 : nsIn K mainGlobals "_law_bag" = some (some (.ref f6)))
    (l6 : K.lookup f6 = some ⟨oc6, od6, .func (fnOf "_law_bag" "_law_bag" (defArgs (topS 20)) (defBody (topS 20)) (defScope (topS 20)) .none kV6 dc6 pm6 an6 cd6 ct6), sl6⟩)
    (c6 : codeIn K cd6 "_law_bag" = true)
    (k6 : keepIn K (.ref f6) = true)
    (a7 : nsIn K mainGlobals "_law_take" = some (some (.ref f7)))
    (l7 : K.lookup f7 = some ⟨oc7, od7, .func (fnOf "_law_take" "_law_take" (defArgs (topS 21)) (defBody (topS 21)) (defScope (topS 21)) .none kV7 dc7 pm7 an7 cd7 ct7), sl7⟩)
    (c7 : codeIn K cd7 "_law_take" = true)
    (k7 : keepIn K (.ref f7) = true)
    (a8 : nsIn K mainGlobals "_law_names" = some (some (.ref f8)))
    (l8 : K.lookup f8 = some ⟨oc8, od8, .func (fnOf "_law_names" "_law_names" (defArgs (topS 22)) (defBody (topS 22)) (defScope (topS 22)) .none kV8 dc8 pm8 an8 cd8 ct8), sl8⟩)
    (c8 : codeIn K cd8 "_law_names" = true)
    (k8 : keepIn K (.ref f8) = true)
    (a9 : nsIn K mainGlobals "_law_integer" = some (some (.ref f9)))
    (l9 : K.lookup f9 = some ⟨oc9, od9, .func (fnOf "_law_integer" "_law_integer" (defArgs (topS 23)) (defBody (topS 23)) (defScope (topS 23)) .none kV9 dc9 pm9 an9 cd9 ct9), sl9⟩)
    (c9 : codeIn K cd9 "_law_integer" = true)
    (k9 : keepIn K (.ref f9) = true)
    (a10 : nsIn K mainGlobals "_law_same" = some (some (.ref f10)))
    (l10 : K.lookup f10 = some ⟨oc10, od10, .func (fnOf "_law_same" "_law_same" (defArgs (topS 24)) (defBody (topS 24)) (defScope (topS 24)) .none kV10 dc10 pm10 an10 cd10 ct10), sl10⟩)
    (c10 : codeIn K cd10 "_law_same" = true)
    (k10 : keepIn K (.ref f10) = true)
    (a11 : nsIn K mainGlobals "_law_is_name" = some (some (.ref f11)))
    (l11 : K.lookup f11 = some ⟨oc11, od11, .func (fnOf "_law_is_name" "_law_is_name" (defArgs (topS 25)) (defBody (topS 25)) (defScope (topS 25)) .none kV11 dc11 pm11 an11 cd11 ct11), sl11⟩)
    (c11 : codeIn K cd11 "_law_is_name" = true)
    (k11 : keepIn K (.ref f11) = true)
    (a12 : nsIn K mainGlobals "_law_number" = some (some (.ref f12)))
    (l12 : K.lookup f12 = some ⟨oc12, od12, .func (fnOf "_law_number" "_law_number" (defArgs (topS 26)) (defBody (topS 26)) (defScope (topS 26)) .none kV12 dc12 pm12 an12 cd12 ct12), sl12⟩)
    (c12 : codeIn K cd12 "_law_number" = true)
    (k12 : keepIn K (.ref f12) = true)
    (a13 : nsIn K mainGlobals "_law_values_of" = some (some (.ref f13)))
    (l13 : K.lookup f13 = some ⟨oc13, od13, .func (fnOf "_law_values_of" "_law_values_of" (defArgs (topS 27)) (defBody (topS 27)) (defScope (topS 27)) .none kV13 dc13 pm13 an13 cd13 ct13), sl13⟩)
    (c13 : codeIn K cd13 "_law_values_of" = true)
    (k13 : keepIn K (.ref f13) = true)
    (a14 : nsIn K mainGlobals "_law_text" = some (some (.ref f14)))
    (l14 : K.lookup f14 = some ⟨oc14, od14, .func (fnOf "_law_text" "_law_text" (defArgs (topS 28)) (defBody (topS 28)) (defScope (topS 28)) .none kV14 dc14 pm14 an14 cd14 ct14), sl14⟩)
    (c14 : codeIn K cd14 "_law_text" = true)
    (k14 : keepIn K (.ref f14) = true)
    (a15 : nsIn K mainGlobals "_law_sign" = some (some (.ref f15)))
    (l15 : K.lookup f15 = some ⟨oc15, od15, .func (fnOf "_law_sign" "_law_sign" (defArgs (topS 29)) (defBody (topS 29)) (defScope (topS 29)) .none kV15 dc15 pm15 an15 cd15 ct15), sl15⟩)
    (c15 : codeIn K cd15 "_law_sign" = true)
    (k15 : keepIn K (.ref f15) = true)
    (a16 : nsIn K mainGlobals "_law_bent" = some (some (.ref f16)))
    (l16 : K.lookup f16 = some ⟨oc16, od16, .func (fnOf "_law_bent" "_law_bent" (defArgs (topS 30)) (defBody (topS 30)) (defScope (topS 30)) .none kV16 dc16 pm16 an16 cd16 ct16), sl16⟩)
    (c16 : codeIn K cd16 "_law_bent" = true)
    (k16 : keepIn K (.ref f16) = true)
    (a17 : nsIn K mainGlobals "_law_free" = some (some (.ref f17)))
    (l17 : K.lookup f17 = some ⟨oc17, od17, .func (fnOf "_law_free" "_law_free" (defArgs (topS 31)) (defBody (topS 31)) (defScope (topS 31)) .none kV17 dc17 pm17 an17 cd17 ct17), sl17⟩)
    (c17 : codeIn K cd17 "_law_free" = true)
    (k17 : keepIn K (.ref f17) = true)
    (a18 : nsIn K mainGlobals "_law_digits" = some (some (.ref f18)))
    (l18 : K.lookup f18 = some ⟨oc18, od18, .func (fnOf "_law_digits" "_law_digits" (defArgs (topS 32)) (defBody (topS 32)) (defScope (topS 32)) .none kV18 dc18 pm18 an18 cd18 ct18), sl18⟩)
    (c18 : codeIn K cd18 "_law_digits" = true)
    (k18 : keepIn K (.ref f18) = true)
    (a19 : nsIn K mainGlobals "_law_own" = some (some (.ref f19)))
    (l19 : K.lookup f19 = some ⟨oc19, od19, .func (fnOf "_law_own" "_law_own" (defArgs (topS 33)) (defBody (topS 33)) (defScope (topS 33)) .none kV19 dc19 pm19 an19 cd19 ct19), sl19⟩)
    (c19 : codeIn K cd19 "_law_own" = true)
    (k19 : keepIn K (.ref f19) = true)
    (a20 : nsIn K mainGlobals "_law_read" = some (some (.ref f20)))
    (l20 : K.lookup f20 = some ⟨oc20, od20, .func (fnOf "_law_read" "_law_read" (defArgs (topS 34)) (defBody (topS 34)) (defScope (topS 34)) .none kV20 dc20 pm20 an20 cd20 ct20), sl20⟩)
    (c20 : codeIn K cd20 "_law_read" = true)
    (k20 : keepIn K (.ref f20) = true)
    (a21 : nsIn K mainGlobals "_law_values" = some (some (.ref f21)))
    (l21 : K.lookup f21 = some ⟨oc21, od21, .func (fnOf "_law_values" "_law_values" (defArgs (topS 35)) (defBody (topS 35)) (defScope (topS 35)) .none kV21 dc21 pm21 an21 cd21 ct21), sl21⟩)
    (c21 : codeIn K cd21 "_law_values" = true)
    (k21 : keepIn K (.ref f21) = true)
    (a22 : nsIn K mainGlobals "_law_exchanged" = some (some (.ref f22)))
    (l22 : K.lookup f22 = some ⟨oc22, od22, .func (fnOf "_law_exchanged" "_law_exchanged" (defArgs (topS 36)) (defBody (topS 36)) (defScope (topS 36)) .none kV22 dc22 pm22 an22 cd22 ct22), sl22⟩)
    (c22 : codeIn K cd22 "_law_exchanged" = true)
    (k22 : keepIn K (.ref f22) = true)
    (a23 : nsIn K mainGlobals "_law_doubled" = some (some (.ref f23)))
    (l23 : K.lookup f23 = some ⟨oc23, od23, .func (fnOf "_law_doubled" "_law_doubled" (defArgs (topS 37)) (defBody (topS 37)) (defScope (topS 37)) .none kV23 dc23 pm23 an23 cd23 ct23), sl23⟩)
    (c23 : codeIn K cd23 "_law_doubled" = true)
    (k23 : keepIn K (.ref f23) = true)
    (a24 : nsIn K mainGlobals "_law_near" = some (some (.ref f24)))
    (l24 : K.lookup f24 = some ⟨oc24, od24, .func (fnOf "_law_near" "_law_near" (defArgs (topS 38)) (defBody (topS 38)) (defScope (topS 38)) .none kV24 dc24 pm24 an24 cd24 ct24), sl24⟩)
    (c24 : codeIn K cd24 "_law_near" = true)
    (k24 : keepIn K (.ref f24) = true)
    (a25 : nsIn K mainGlobals "law" = some (some (.ref f25)))
    (l25 : K.lookup f25 = some ⟨oc25, od25, .func (fnOf "law" "law" (defArgs (topS 39)) (defBody (topS 39)) (defScope (topS 39)) .none kV25 dc25 pm25 an25 cd25 ct25), sl25⟩)
    (c25 : codeIn K cd25 "law" = true)
    (k25 : keepIn K (.ref f25) = true)
    (z0 : nsIn K mainGlobals "len" = some none)
    (z1 : nsIn K mainGlobals "int" = some none)
    (z2 : nsIn K mainGlobals "abs" = some none)
    (z3 : nsIn K mainGlobals "sum" = some none)
    (z4 : nsIn K mainGlobals "min" = some none)
    (z5 : nsIn K mainGlobals "max" = some none)
    (z6 : nsIn K mainGlobals "any" = some none)
    (z7 : nsIn K mainGlobals "all" = some none)
    (z8 : nsIn K mainGlobals "tuple" = some none)
    (z9 : nsIn K mainGlobals "list" = some none)
    (z10 : nsIn K mainGlobals "repr" = some none)
    (z11 : nsIn K mainGlobals "sorted" = some none)
    (z12 : nsIn K mainGlobals "set" = some none)
    (z13 : nsIn K mainGlobals "range" = some none)
    (z14 : nsIn K mainGlobals "isinstance" = some none)
    (z15 : nsIn K mainGlobals "bool" = some none)
    (z16 : nsIn K mainGlobals "str" = some none)
    (z17 : nsIn K mainGlobals "super" = some none)
    (ca0 : nsIn K mainGlobals "InvalidName" = some (some (.ref C0)))
    (ca1 : nsIn K mainGlobals "InvalidLiteral" = some (some (.ref C1)))
    (ca2 : nsIn K mainGlobals "InvalidClause" = some (some (.ref C2)))
    (ca3 : nsIn K mainGlobals "InvalidText" = some (some (.ref C3)))
    (ca4 : nsIn K mainGlobals "UnknownMoment" = some (some (.ref C4)))
    (ca5 : nsIn K mainGlobals "RingclauseError" = some (some (.ref C5)))
    (cl0 : K.lookup C0 = some (excClassObj nm0 qn0 C0 N0 bs0 (.ref C5 :: bm5) true sn0 sub0 ab0 col0 dd0 k0_0 k1_0 k2_0 k3_0 k5_0 "ValueError.__new__"))
    (cy0 : typeIn K (.ref C0) = some (.type "type"))
    (cb0 : subIn K (.ref C0) (.type "BaseException") = some true)
    (cl1 : K.lookup C1 = some (excClassObj nm1 qn1 C1 N1 bs1 (.ref C5 :: bm5) true sn1 sub1 ab1 col1 dd1 k0_1 k1_1 k2_1 k3_1 k5_1 "ValueError.__new__"))
    (cy1 : typeIn K (.ref C1) = some (.type "type"))
    (cb1 : subIn K (.ref C1) (.type "BaseException") = some true)
    (cl2 : K.lookup C2 = some (excClassObj nm2 qn2 C2 N2 bs2 (.ref C5 :: bm5) true sn2 sub2 ab2 col2 dd2 k0_2 k1_2 k2_2 k3_2 k5_2 "ValueError.__new__"))
    (cy2 : typeIn K (.ref C2) = some (.type "type"))
    (cb2 : subIn K (.ref C2) (.type "BaseException") = some true)
    (cl3 : K.lookup C3 = some (excClassObj nm3 qn3 C3 N3 bs3 (.ref C5 :: bm5) true sn3 sub3 ab3 col3 dd3 k0_3 k1_3 k2_3 k3_3 k5_3 "ValueError.__new__"))
    (cy3 : typeIn K (.ref C3) = some (.type "type"))
    (cb3 : subIn K (.ref C3) (.type "BaseException") = some true)
    (cl4 : K.lookup C4 = some (excClassObj nm4 qn4 C4 N4 bs4 (.ref C5 :: bm5) true sn4 sub4 ab4 col4 dd4 k0_4 k1_4 k2_4 k3_4 k5_4 "ValueError.__new__"))
    (cy4 : typeIn K (.ref C4) = some (.type "type"))
    (cb4 : subIn K (.ref C4) (.type "BaseException") = some true)
    (cl5 : K.lookup C5 = some (excClassObj nm5 qn5 C5 N5 bs5 bm5 true sn5 sub5 ab5 col5 dd5 k0_5 k1_5 k2_5 k3_5 k5_5 "ValueError.__new__"))
    (cy5 : typeIn K (.ref C5) = some (.type "type"))
    (cb5 : subIn K (.ref C5) (.type "BaseException") = some true)
    (gn : specialIn K (.builtin "object.__class__") "__get__" = some (some (.builtin "getset_descriptor.__get__")))
    (gt : takesIn K (.builtin "object.__class__") = some true)
    (op : nsIn K cStatics "thirdparty.any" = some none)
    (ve0 : PySem.HandSPX.refsVE (.ref C5 :: bm5) = true)
    (sa0 : findIn K (.ref C0) "__setattr__" = some (some (.builtin "object.__setattr__")))
    (sv0 : subIn K (.ref C0) (.type "ValueError") = some true)
    (kp0 : keepIn K (.ref C0) = true)
    (mr0 : mroIn K C0 (.ref C0) = some true)
    (ga0 : findIn K (.ref C0) "__getattribute__" = some (some (.builtin "BaseException.__getattribute__")))
    (gg0 : findIn K (.ref C0) "__getattr__" = some none)
    (hd0 : hasDictIn K C0 = true)
    (kc0 : findIn K (.ref C0) "__class__" = some (some (.builtin "object.__class__")))
    (km0 : mroIn K C0 (.type "object") = some true)
    (fd0_0 : findIn K (.ref C0) "name" = some none)
    (fd0_1 : findIn K (.ref C0) "value" = some none)
    (fd0_2 : findIn K (.ref C0) "value" = some none)
    (fd0_3 : findIn K (.ref C0) "line" = some none)
    (fd0_4 : findIn K (.ref C0) "name" = some none)
    (in0 : findIn K (.ref C0) "__init__" = some (some (.ref fI0)))
    (ty0 : typeIn K (.ref fI0) = some (.type "function"))
    (li0 : K.lookup fI0 = some ⟨xo0, yo0, .func (ksFn "__init__" "InvalidName.__init__" (defArgs (J.clsInit (topS 2))) (defBody (J.clsInit (topS 2))) (defScope (J.clsInit (topS 2))) .none xk0 xc0 xp0 ya0 (.ref cda0) xt0 cc0), so0⟩)
    (cc0_ : codeIn K (.ref cda0) "InvalidName.__init__" = true)
    (ld0 : K.lookup cda0 = some ⟨xe0, yc0, .fields vs0, sc0⟩)
    (lc0 : K.lookup cc0 = some ⟨xl0, yl0, .cell (some (.ref C0)), ss0⟩)
    (sr0 : findIn K (.ref C5) "__init__" = some (some (.builtin "ValueError.__init__")))
    (fi0 : vs0[2]? = some (.str fl0 tf0))
    (fe0 : ((LW.prog.main.file : Str) == fl0) = true)
    (ss0_ : subIn K (.ref C0) (.ref C0) = some true)
    (ve1 : PySem.HandSPX.refsVE (.ref C5 :: bm5) = true)
    (sa1 : findIn K (.ref C1) "__setattr__" = some (some (.builtin "object.__setattr__")))
    (sv1 : subIn K (.ref C1) (.type "ValueError") = some true)
    (kp1 : keepIn K (.ref C1) = true)
    (mr1 : mroIn K C1 (.ref C1) = some true)
    (ga1 : findIn K (.ref C1) "__getattribute__" = some (some (.builtin "BaseException.__getattribute__")))
    (gg1 : findIn K (.ref C1) "__getattr__" = some none)
    (hd1 : hasDictIn K C1 = true)
    (kc1 : findIn K (.ref C1) "__class__" = some (some (.builtin "object.__class__")))
    (km1 : mroIn K C1 (.type "object") = some true)
    (fd1_0 : findIn K (.ref C1) "name" = some none)
    (fd1_1 : findIn K (.ref C1) "value" = some none)
    (fd1_2 : findIn K (.ref C1) "value" = some none)
    (fd1_3 : findIn K (.ref C1) "line" = some none)
    (fd1_4 : findIn K (.ref C1) "name" = some none)
    (in1 : findIn K (.ref C1) "__init__" = some (some (.ref fI1)))
    (ty1 : typeIn K (.ref fI1) = some (.type "function"))
    (li1 : K.lookup fI1 = some ⟨xo1, yo1, .func (ksFn "__init__" "InvalidLiteral.__init__" (defArgs (J.clsInit (topS 3))) (defBody (J.clsInit (topS 3))) (defScope (J.clsInit (topS 3))) .none xk1 xc1 xp1 ya1 (.ref cda1) xt1 cc1), so1⟩)
    (cc1_ : codeIn K (.ref cda1) "InvalidLiteral.__init__" = true)
    (ld1 : K.lookup cda1 = some ⟨xe1, yc1, .fields vs1, sc1⟩)
    (lc1 : K.lookup cc1 = some ⟨xl1, yl1, .cell (some (.ref C1)), ss1⟩)
    (sr1 : findIn K (.ref C5) "__init__" = some (some (.builtin "ValueError.__init__")))
    (fi1 : vs1[2]? = some (.str fl1 tf1))
    (fe1 : ((LW.prog.main.file : Str) == fl1) = true)
    (ss1_ : subIn K (.ref C1) (.ref C1) = some true)
    (ve2 : PySem.HandSPX.refsVE (.ref C5 :: bm5) = true)
    (sa2 : findIn K (.ref C2) "__setattr__" = some (some (.builtin "object.__setattr__")))
    (sv2 : subIn K (.ref C2) (.type "ValueError") = some true)
    (kp2 : keepIn K (.ref C2) = true)
    (mr2 : mroIn K C2 (.ref C2) = some true)
    (ga2 : findIn K (.ref C2) "__getattribute__" = some (some (.builtin "BaseException.__getattribute__")))
    (gg2 : findIn K (.ref C2) "__getattr__" = some none)
    (hd2 : hasDictIn K C2 = true)
    (kc2 : findIn K (.ref C2) "__class__" = some (some (.builtin "object.__class__")))
    (km2 : mroIn K C2 (.type "object") = some true)
    (fd2_0 : findIn K (.ref C2) "name" = some none)
    (fd2_1 : findIn K (.ref C2) "value" = some none)
    (fd2_2 : findIn K (.ref C2) "value" = some none)
    (fd2_3 : findIn K (.ref C2) "line" = some none)
    (fd2_4 : findIn K (.ref C2) "name" = some none)
    (in2 : findIn K (.ref C2) "__init__" = some (some (.ref fI2)))
    (ty2 : typeIn K (.ref fI2) = some (.type "function"))
    (li2 : K.lookup fI2 = some ⟨xo2, yo2, .func (ksFn "__init__" "InvalidClause.__init__" (defArgs (J.clsInit (topS 4))) (defBody (J.clsInit (topS 4))) (defScope (J.clsInit (topS 4))) .none xk2 xc2 xp2 ya2 (.ref cda2) xt2 cc2), so2⟩)
    (cc2_ : codeIn K (.ref cda2) "InvalidClause.__init__" = true)
    (ld2 : K.lookup cda2 = some ⟨xe2, yc2, .fields vs2, sc2⟩)
    (lc2 : K.lookup cc2 = some ⟨xl2, yl2, .cell (some (.ref C2)), ss2⟩)
    (sr2 : findIn K (.ref C5) "__init__" = some (some (.builtin "ValueError.__init__")))
    (fi2 : vs2[2]? = some (.str fl2 tf2))
    (fe2 : ((LW.prog.main.file : Str) == fl2) = true)
    (ss2_ : subIn K (.ref C2) (.ref C2) = some true)
    (ve3 : PySem.HandSPX.refsVE (.ref C5 :: bm5) = true)
    (sa3 : findIn K (.ref C3) "__setattr__" = some (some (.builtin "object.__setattr__")))
    (sv3 : subIn K (.ref C3) (.type "ValueError") = some true)
    (kp3 : keepIn K (.ref C3) = true)
    (mr3 : mroIn K C3 (.ref C3) = some true)
    (ga3 : findIn K (.ref C3) "__getattribute__" = some (some (.builtin "BaseException.__getattribute__")))
    (gg3 : findIn K (.ref C3) "__getattr__" = some none)
    (hd3 : hasDictIn K C3 = true)
    (kc3 : findIn K (.ref C3) "__class__" = some (some (.builtin "object.__class__")))
    (km3 : mroIn K C3 (.type "object") = some true)
    (fd3_0 : findIn K (.ref C3) "name" = some none)
    (fd3_1 : findIn K (.ref C3) "value" = some none)
    (fd3_2 : findIn K (.ref C3) "value" = some none)
    (fd3_3 : findIn K (.ref C3) "line" = some none)
    (fd3_4 : findIn K (.ref C3) "name" = some none)
    (in3 : findIn K (.ref C3) "__init__" = some (some (.ref fI3)))
    (ty3 : typeIn K (.ref fI3) = some (.type "function"))
    (li3 : K.lookup fI3 = some ⟨xo3, yo3, .func (ksFn "__init__" "InvalidText.__init__" (defArgs (J.clsInit (topS 5))) (defBody (J.clsInit (topS 5))) (defScope (J.clsInit (topS 5))) .none xk3 xc3 xp3 ya3 (.ref cda3) xt3 cc3), so3⟩)
    (cc3_ : codeIn K (.ref cda3) "InvalidText.__init__" = true)
    (ld3 : K.lookup cda3 = some ⟨xe3, yc3, .fields vs3, sc3⟩)
    (lc3 : K.lookup cc3 = some ⟨xl3, yl3, .cell (some (.ref C3)), ss3⟩)
    (sr3 : findIn K (.ref C5) "__init__" = some (some (.builtin "ValueError.__init__")))
    (fi3 : vs3[2]? = some (.str fl3 tf3))
    (fe3 : ((LW.prog.main.file : Str) == fl3) = true)
    (ss3_ : subIn K (.ref C3) (.ref C3) = some true)
    (ve4 : PySem.HandSPX.refsVE (.ref C5 :: bm5) = true)
    (sa4 : findIn K (.ref C4) "__setattr__" = some (some (.builtin "object.__setattr__")))
    (sv4 : subIn K (.ref C4) (.type "ValueError") = some true)
    (kp4 : keepIn K (.ref C4) = true)
    (mr4 : mroIn K C4 (.ref C4) = some true)
    (ga4 : findIn K (.ref C4) "__getattribute__" = some (some (.builtin "BaseException.__getattribute__")))
    (gg4 : findIn K (.ref C4) "__getattr__" = some none)
    (hd4 : hasDictIn K C4 = true)
    (kc4 : findIn K (.ref C4) "__class__" = some (some (.builtin "object.__class__")))
    (km4 : mroIn K C4 (.type "object") = some true)
    (fd4_0 : findIn K (.ref C4) "name" = some none)
    (fd4_1 : findIn K (.ref C4) "value" = some none)
    (fd4_2 : findIn K (.ref C4) "value" = some none)
    (fd4_3 : findIn K (.ref C4) "line" = some none)
    (fd4_4 : findIn K (.ref C4) "name" = some none)
    (in4 : findIn K (.ref C4) "__init__" = some (some (.ref fI4)))
    (ty4 : typeIn K (.ref fI4) = some (.type "function"))
    (li4 : K.lookup fI4 = some ⟨xo4, yo4, .func (ksFn "__init__" "UnknownMoment.__init__" (defArgs (J.clsInit (topS 6))) (defBody (J.clsInit (topS 6))) (defScope (J.clsInit (topS 6))) .none xk4 xc4 xp4 ya4 (.ref cda4) xt4 cc4), so4⟩)
    (cc4_ : codeIn K (.ref cda4) "UnknownMoment.__init__" = true)
    (ld4 : K.lookup cda4 = some ⟨xe4, yc4, .fields vs4, sc4⟩)
    (lc4 : K.lookup cc4 = some ⟨xl4, yl4, .cell (some (.ref C4)), ss4⟩)
    (sr4 : findIn K (.ref C5) "__init__" = some (some (.builtin "ValueError.__init__")))
    (fi4 : vs4[2]? = some (.str fl4 tf4))
    (fe4 : ((LW.prog.main.file : Str) == fl4) = true)
    (ss4_ : subIn K (.ref C4) (.ref C4) = some true)
    (by0_2 : subIn K (.ref C2) (.ref C2) = some true)
    (bn0_0 : subIn K (.ref C0) (.ref C2) = some false)
    (bn0_1 : subIn K (.ref C1) (.ref C2) = some false)
    (bn0_3 : subIn K (.ref C3) (.ref C2) = some false)
    (bn0_4 : subIn K (.ref C4) (.ref C2) = some false)
    (by1_1 : subIn K (.ref C1) (.ref C1) = some true)
    (bn1_0 : subIn K (.ref C0) (.ref C1) = some false)
    (bn1_2 : subIn K (.ref C2) (.ref C1) = some false)
    (bn1_3 : subIn K (.ref C3) (.ref C1) = some false)
    (bn1_4 : subIn K (.ref C4) (.ref C1) = some false)
    (by2_0 : subIn K (.ref C0) (.ref C0) = some true)
    (bn2_1 : subIn K (.ref C1) (.ref C0) = some false)
    (bn2_2 : subIn K (.ref C2) (.ref C0) = some false)
    (bn2_3 : subIn K (.ref C3) (.ref C0) = some false)
    (bn2_4 : subIn K (.ref C4) (.ref C0) = some false)
    (by3_3 : subIn K (.ref C3) (.ref C3) = some true)
    (bn3_0 : subIn K (.ref C0) (.ref C3) = some false)
    (bn3_1 : subIn K (.ref C1) (.ref C3) = some false)
    (bn3_2 : subIn K (.ref C2) (.ref C3) = some false)
    (bn3_4 : subIn K (.ref C4) (.ref C3) = some false)
    (by4_0 : subIn K (.ref C0) (.ref C5) = some true)
    (by4_1 : subIn K (.ref C1) (.ref C5) = some true)
    (by4_2 : subIn K (.ref C2) (.ref C5) = some true)
    (by4_3 : subIn K (.ref C3) (.ref C5) = some true)
    (by4_4 : subIn K (.ref C4) (.ref C5) = some true)
    (by5_4 : subIn K (.ref C4) (.ref C4) = some true)
    (bn5_0 : subIn K (.ref C0) (.ref C4) = some false)
    (bn5_1 : subIn K (.ref C1) (.ref C4) = some false)
    (bn5_2 : subIn K (.ref C2) (.ref C4) = some false)
    (bn5_3 : subIn K (.ref C3) (.ref C4) = some false)
    (bz6 : nsIn K mainGlobals "ValueError" = some none)
    (bs6_ : subIn K (.type "ValueError") (.type "BaseException") = some true)
    (by6_0 : subIn K (.ref C0) (.type "ValueError") = some true)
    (by6_1 : subIn K (.ref C1) (.type "ValueError") = some true)
    (by6_2 : subIn K (.ref C2) (.type "ValueError") = some true)
    (by6_3 : subIn K (.ref C3) (.type "ValueError") = some true)
    (by6_4 : subIn K (.ref C4) (.type "ValueError") = some true)
    (gx0_ : nsIn K mainGlobals "LETTERS" = some (some (.str gs0 gt0)))
    (gy0_ : gs0 = ("abcdefghijklmnopqrstuvwxyz" : Str))
    (gx1_ : nsIn K mainGlobals "NAME_SIGNS" = some (some (.str gs1 gt1)))
    (gy1_ : gs1 = ("abcdefghijklmnopqrstuvwxyz0123456789" : Str))
    (gx2_ : nsIn K mainGlobals "NAME_LENGTH" = some (some (.int 8 gt2)))
    (gx3_ : nsIn K mainGlobals "MOST_DIGITS" = some (some (.int 200 gt3)))
    : ∃ fd : FuncData, (∀ (s : Shared) (v : Value), BindsTo s fd ⟨[v], []⟩ [("_law_script", v)]) ∧ ∀ base : Heap, K.In base → base.Ns mainGlobals mg → DG.FnG LW.prog w K mg base (L2N.CX LW.prog w) 23 fa fd ["_law_script"] (fun vs H Q E => ∀ xv, J.spF ⟨K, none⟩ xv 1 (IL.tbl (defs.map J.DefR.il) 20 f_law) vs H Q E) := by
  have hst : ∀ d ∈ defs, J.Stands K mg d := (J.all_cons (J.stands_mk X G a0 l0 c0 k0 fun _ _ _ _ _ _ us hl => match us, hl with | [_], _ => rfl)
      (J.all_cons (J.stands_mk X G a1 l1 c1 k1 fun _ _ _ _ _ _ us hl => match us, hl with | [_], _ => rfl)
      (J.all_cons (J.stands_mk X G a2 l2 c2 k2 fun _ _ _ _ _ _ us hl => match us, hl with | [_], _ => rfl)
      (J.all_cons (J.stands_mk X G a3 l3 c3 k3 fun _ _ _ _ _ _ us hl => match us, hl with | [_, _], _ => rfl)
      (J.all_cons (J.stands_mk X G a4 l4 c4 k4 fun _ _ _ _ _ _ us hl => match us, hl with | [_, _], _ => rfl)
      (J.all_cons (J.stands_mk X G a5 l5 c5 k5 fun _ _ _ _ _ _ us hl => match us, hl with | [_], _ => rfl)
      (J.all_cons (J.stands_mk X G a6 l6 c6 k6 fun _ _ _ _ _ _ us hl => match us, hl with | [_], _ => rfl)
      (J.all_cons (J.stands_mk X G a7 l7 c7 k7 fun _ _ _ _ _ _ us hl => match us, hl with | [_, _], _ => rfl)
      (J.all_cons (J.stands_mk X G a8 l8 c8 k8 fun _ _ _ _ _ _ us hl => match us, hl with | [_, _], _ => rfl)
      (J.all_cons (J.stands_mk X G a9 l9 c9 k9 fun _ _ _ _ _ _ us hl => match us, hl with | [_], _ => rfl)
      (J.all_cons (J.stands_mk X G a10 l10 c10 k10 fun _ _ _ _ _ _ us hl => match us, hl with | [_, _], _ => rfl)
      (J.all_cons (J.stands_mk X G a11 l11 c11 k11 fun _ _ _ _ _ _ us hl => match us, hl with | [_], _ => rfl)
      (J.all_cons (J.stands_mk X G a12 l12 c12 k12 fun _ _ _ _ _ _ us hl => match us, hl with | [_], _ => rfl)
      (J.all_cons (J.stands_mk X G a13 l13 c13 k13 fun _ _ _ _ _ _ us hl => match us, hl with | [_], _ => rfl)
      (J.all_cons (J.stands_mk X G a14 l14 c14 k14 fun _ _ _ _ _ _ us hl => match us, hl with | [_], _ => rfl)
      (J.all_cons (J.stands_mk X G a15 l15 c15 k15 fun _ _ _ _ _ _ us hl => match us, hl with | [_], _ => rfl)
      (J.all_cons (J.stands_mk X G a16 l16 c16 k16 fun _ _ _ _ _ _ us hl => match us, hl with | [_, _, _], _ => rfl)
      (J.all_cons (J.stands_mk X G a17 l17 c17 k17 fun _ _ _ _ _ _ us hl => match us, hl with | [_, _], _ => rfl)
      (J.all_cons (J.stands_mk X G a18 l18 c18 k18 fun _ _ _ _ _ _ us hl => match us, hl with | [_], _ => rfl)
      (J.all_cons (J.stands_mk X G a19 l19 c19 k19 fun _ _ _ _ _ _ us hl => match us, hl with | [_], _ => rfl)
      (J.all_cons (J.stands_mk X G a20 l20 c20 k20 fun _ _ _ _ _ _ us hl => match us, hl with | [_], _ => rfl)
      (J.all_cons (J.stands_mk X G a21 l21 c21 k21 fun _ _ _ _ _ _ us hl => match us, hl with | [_], _ => rfl)
      (J.all_cons (J.stands_mk X G a22 l22 c22 k22 fun _ _ _ _ _ _ us hl => match us, hl with | [_, _], _ => rfl)
      (J.all_cons (J.stands_mk X G a23 l23 c23 k23 fun _ _ _ _ _ _ us hl => match us, hl with | [_, _], _ => rfl)
      (J.all_cons (J.stands_mk X G a24 l24 c24 k24 fun _ _ _ _ _ _ us hl => match us, hl with | [_, _], _ => rfl)
      (J.all_cons (J.stands_mk X G a25 l25 c25 k25 fun _ _ _ _ _ _ us hl => match us, hl with | [_], _ => rfl)
      J.all_nil))))))))))))))))))))))))))
  have hb : ∀ b ∈ J.blts, mg b = none := (J.all_cons (mg_none_of X G z0) (J.all_cons (mg_none_of X G z1) (J.all_cons (mg_none_of X G z2) (J.all_cons (mg_none_of X G z3) (J.all_cons (mg_none_of X G z4) (J.all_cons (mg_none_of X G z5) (J.all_cons (mg_none_of X G z6) (J.all_cons (mg_none_of X G z7) (J.all_cons (mg_none_of X G z8) (J.all_cons (mg_none_of X G z9) (J.all_cons (mg_none_of X G z10) (J.all_cons (mg_none_of X G z11) (J.all_cons (mg_none_of X G z12) (J.all_cons (mg_none_of X G z13) (J.all_cons (mg_none_of X G z14) (J.all_cons (mg_none_of X G z15) (J.all_cons (mg_none_of X G z16) J.all_nil)))))))))))))))))
  have x0 : ∀ base : Heap, J.XsOk K mg LW.prog w base (md.xs.map (·.2)) (.ref C0) "InvalidName" "name" := fun base => J.xs_mk (st := J.clsInit (topS 2)) (pn := "name") X G ca0 cl0 cl5 ve0 sa0 cb0 sv0 cy0 kp0 mr0 ga0 gg0 hd0 kc0 gn gt km0 (J.all_cons fd0_0 (J.all_cons fd0_1 (J.all_cons fd0_2 (J.all_cons fd0_3 (J.all_cons fd0_4 J.all_nil))))) (by decide) in0 ty0 li0 cc0_ ld0 lc0 op z17 sr0 fi0 fe0 (by decide +kernel)
    (rfl) ⟨⟨_, fun env he => rfl⟩, fun env he => J.inter_of he (by decide +kernel), fun env he => rfl, fun env he => rfl⟩ (by decide +kernel) (by decide +kernel) (by decide +kernel) (by decide +kernel) (by decide +kernel) (by decide +kernel) (by decide +kernel) (by decide +kernel) (by decide) (by decide) (by decide +kernel) fun _ _ _ _ _ _ us hl => match us, hl with | [_, _], _ => rfl
  have x1 : ∀ base : Heap, J.XsOk K mg LW.prog w base (md.xs.map (·.2)) (.ref C1) "InvalidLiteral" "value" := fun base => J.xs_mk (st := J.clsInit (topS 3)) (pn := "value") X G ca1 cl1 cl5 ve1 sa1 cb1 sv1 cy1 kp1 mr1 ga1 gg1 hd1 kc1 gn gt km1 (J.all_cons fd1_0 (J.all_cons fd1_1 (J.all_cons fd1_2 (J.all_cons fd1_3 (J.all_cons fd1_4 J.all_nil))))) (by decide) in1 ty1 li1 cc1_ ld1 lc1 op z17 sr1 fi1 fe1 (by decide +kernel)
    (rfl) ⟨⟨_, fun env he => rfl⟩, fun env he => J.inter_of he (by decide +kernel), fun env he => rfl, fun env he => rfl⟩ (by decide +kernel) (by decide +kernel) (by decide +kernel) (by decide +kernel) (by decide +kernel) (by decide +kernel) (by decide +kernel) (by decide +kernel) (by decide) (by decide) (by decide +kernel) fun _ _ _ _ _ _ us hl => match us, hl with | [_, _], _ => rfl
  have x2 : ∀ base : Heap, J.XsOk K mg LW.prog w base (md.xs.map (·.2)) (.ref C2) "InvalidClause" "value" := fun base => J.xs_mk (st := J.clsInit (topS 4)) (pn := "value") X G ca2 cl2 cl5 ve2 sa2 cb2 sv2 cy2 kp2 mr2 ga2 gg2 hd2 kc2 gn gt km2 (J.all_cons fd2_0 (J.all_cons fd2_1 (J.all_cons fd2_2 (J.all_cons fd2_3 (J.all_cons fd2_4 J.all_nil))))) (by decide) in2 ty2 li2 cc2_ ld2 lc2 op z17 sr2 fi2 fe2 (by decide +kernel)
    (rfl) ⟨⟨_, fun env he => rfl⟩, fun env he => J.inter_of he (by decide +kernel), fun env he => rfl, fun env he => rfl⟩ (by decide +kernel) (by decide +kernel) (by decide +kernel) (by decide +kernel) (by decide +kernel) (by decide +kernel) (by decide +kernel) (by decide +kernel) (by decide) (by decide) (by decide +kernel) fun _ _ _ _ _ _ us hl => match us, hl with | [_, _], _ => rfl
  have x3 : ∀ base : Heap, J.XsOk K mg LW.prog w base (md.xs.map (·.2)) (.ref C3) "InvalidText" "line" := fun base => J.xs_mk (st := J.clsInit (topS 5)) (pn := "line") X G ca3 cl3 cl5 ve3 sa3 cb3 sv3 cy3 kp3 mr3 ga3 gg3 hd3 kc3 gn gt km3 (J.all_cons fd3_0 (J.all_cons fd3_1 (J.all_cons fd3_2 (J.all_cons fd3_3 (J.all_cons fd3_4 J.all_nil))))) (by decide) in3 ty3 li3 cc3_ ld3 lc3 op z17 sr3 fi3 fe3 (by decide +kernel)
    (rfl) ⟨⟨_, fun env he => rfl⟩, fun env he => J.inter_of he (by decide +kernel), fun env he => rfl, fun env he => rfl⟩ (by decide +kernel) (by decide +kernel) (by decide +kernel) (by decide +kernel) (by decide +kernel) (by decide +kernel) (by decide +kernel) (by decide +kernel) (by decide) (by decide) (by decide +kernel) fun _ _ _ _ _ _ us hl => match us, hl with | [_, _], _ => rfl
  have x4 : ∀ base : Heap, J.XsOk K mg LW.prog w base (md.xs.map (·.2)) (.ref C4) "UnknownMoment" "name" := fun base => J.xs_mk (st := J.clsInit (topS 6)) (pn := "name") X G ca4 cl4 cl5 ve4 sa4 cb4 sv4 cy4 kp4 mr4 ga4 gg4 hd4 kc4 gn gt km4 (J.all_cons fd4_0 (J.all_cons fd4_1 (J.all_cons fd4_2 (J.all_cons fd4_3 (J.all_cons fd4_4 J.all_nil))))) (by decide) in4 ty4 li4 cc4_ ld4 lc4 op z17 sr4 fi4 fe4 (by decide +kernel)
    (rfl) ⟨⟨_, fun env he => rfl⟩, fun env he => J.inter_of he (by decide +kernel), fun env he => rfl, fun env he => rfl⟩ (by decide +kernel) (by decide +kernel) (by decide +kernel) (by decide +kernel) (by decide +kernel) (by decide +kernel) (by decide +kernel) (by decide +kernel) (by decide) (by decide) (by decide +kernel) fun _ _ _ _ _ _ us hl => match us, hl with | [_, _], _ => rfl
  have b0 : J.XbOk K mg (fun i => ([.ref C0, .ref C1, .ref C2, .ref C3, .ref C4] : List Value).getD i .none) (.ref C2) "InvalidClause" [2] [0, 1, 3, 4] := J.xb_mk X G ca2 cl2 cy2 cb2 (J.all_cons ⟨C2, rfl, by0_2, ss2_⟩ J.all_nil) (J.all_cons ⟨C0, rfl, bn0_0, ss0_⟩ (J.all_cons ⟨C1, rfl, bn0_1, ss1_⟩ (J.all_cons ⟨C3, rfl, bn0_3, ss3_⟩ (J.all_cons ⟨C4, rfl, bn0_4, ss4_⟩ J.all_nil))))
  have b1 : J.XbOk K mg (fun i => ([.ref C0, .ref C1, .ref C2, .ref C3, .ref C4] : List Value).getD i .none) (.ref C1) "InvalidLiteral" [1] [0, 2, 3, 4] := J.xb_mk X G ca1 cl1 cy1 cb1 (J.all_cons ⟨C1, rfl, by1_1, ss1_⟩ J.all_nil) (J.all_cons ⟨C0, rfl, bn1_0, ss0_⟩ (J.all_cons ⟨C2, rfl, bn1_2, ss2_⟩ (J.all_cons ⟨C3, rfl, bn1_3, ss3_⟩ (J.all_cons ⟨C4, rfl, bn1_4, ss4_⟩ J.all_nil))))
  have b2 : J.XbOk K mg (fun i => ([.ref C0, .ref C1, .ref C2, .ref C3, .ref C4] : List Value).getD i .none) (.ref C0) "InvalidName" [0] [1, 2, 3, 4] := J.xb_mk X G ca0 cl0 cy0 cb0 (J.all_cons ⟨C0, rfl, by2_0, ss0_⟩ J.all_nil) (J.all_cons ⟨C1, rfl, bn2_1, ss1_⟩ (J.all_cons ⟨C2, rfl, bn2_2, ss2_⟩ (J.all_cons ⟨C3, rfl, bn2_3, ss3_⟩ (J.all_cons ⟨C4, rfl, bn2_4, ss4_⟩ J.all_nil))))
  have b3 : J.XbOk K mg (fun i => ([.ref C0, .ref C1, .ref C2, .ref C3, .ref C4] : List Value).getD i .none) (.ref C3) "InvalidText" [3] [0, 1, 2, 4] := J.xb_mk X G ca3 cl3 cy3 cb3 (J.all_cons ⟨C3, rfl, by3_3, ss3_⟩ J.all_nil) (J.all_cons ⟨C0, rfl, bn3_0, ss0_⟩ (J.all_cons ⟨C1, rfl, bn3_1, ss1_⟩ (J.all_cons ⟨C2, rfl, bn3_2, ss2_⟩ (J.all_cons ⟨C4, rfl, bn3_4, ss4_⟩ J.all_nil))))
  have b4 : J.XbOk K mg (fun i => ([.ref C0, .ref C1, .ref C2, .ref C3, .ref C4] : List Value).getD i .none) (.ref C5) "RingclauseError" [0, 1, 2, 3, 4] [] := J.xb_mk X G ca5 cl5 cy5 cb5 (J.all_cons ⟨C0, rfl, by4_0, ss0_⟩ (J.all_cons ⟨C1, rfl, by4_1, ss1_⟩ (J.all_cons ⟨C2, rfl, by4_2, ss2_⟩ (J.all_cons ⟨C3, rfl, by4_3, ss3_⟩ (J.all_cons ⟨C4, rfl, by4_4, ss4_⟩ J.all_nil))))) J.all_nil
  have b5 : J.XbOk K mg (fun i => ([.ref C0, .ref C1, .ref C2, .ref C3, .ref C4] : List Value).getD i .none) (.ref C4) "UnknownMoment" [4] [0, 1, 2, 3] := J.xb_mk X G ca4 cl4 cy4 cb4 (J.all_cons ⟨C4, rfl, by5_4, ss4_⟩ J.all_nil) (J.all_cons ⟨C0, rfl, bn5_0, ss0_⟩ (J.all_cons ⟨C1, rfl, bn5_1, ss1_⟩ (J.all_cons ⟨C2, rfl, bn5_2, ss2_⟩ (J.all_cons ⟨C3, rfl, bn5_3, ss3_⟩ J.all_nil))))
  have b6 : J.XbOk K mg (fun i => ([.ref C0, .ref C1, .ref C2, .ref C3, .ref C4] : List Value).getD i .none) (.ty "ValueError") "ValueError" [0, 1, 2, 3, 4] [] := J.xb_blt X G bz6 (by decide +kernel) (by decide) (by decide +kernel) bs6_ (J.all_cons ⟨C0, rfl, by6_0⟩ (J.all_cons ⟨C1, rfl, by6_1⟩ (J.all_cons ⟨C2, rfl, by6_2⟩ (J.all_cons ⟨C3, rfl, by6_3⟩ (J.all_cons ⟨C4, rfl, by6_4⟩ J.all_nil))))) J.all_nil
  have hM : ∀ base : Heap, J.MdOk LW.prog w K mg base (fun i => ([.ref C0, .ref C1, .ref C2, .ref C3, .ref C4] : List Value).getD i .none) (fun n => (([("InvalidClause", .ref C2), ("InvalidLiteral", .ref C1), ("InvalidName", .ref C0), ("InvalidText", .ref C3), ("RingclauseError", .ref C5), ("UnknownMoment", .ref C4), ("ValueError", .ty "ValueError")] : List (Str × V)).lookup n).getD .non) md := fun base => ⟨?_, ?_, ?_⟩
  · obtain ⟨fd, q1, q2⟩ := J.law_F (P := LW.prog) (w := w) (n := 20) (fl := f_law) (x := "_law_script") chk chkh hst hb rfl rfl hfa
    exact ⟨fd, q1, fun base _ _ => ⟨fun vs H Q E h => (q2 base (hM base)).arity _ _ _ _ (h _), fun A o s H as us vs Q E c r e b rv h => (q2 base (hM base)).goes A o s H as us vs Q E c r e b rv (h _)⟩⟩
  · exact J.gc_cons ⟨.str gs0 gt0, mg_of X G gx0_, ⟨gt0, by rw [gy0_]⟩⟩ (J.gc_cons ⟨.str gs1 gt1, mg_of X G gx1_, ⟨gt1, by rw [gy1_]⟩⟩ (J.gc_cons ⟨.int 8 gt2, mg_of X G gx2_, ⟨gt2, rfl⟩⟩ (J.gc_cons ⟨.int 200 gt3, mg_of X G gx3_, ⟨gt3, rfl⟩⟩ (J.gc_nil))))
  · exact J.get3 (P := (fun c n f => J.XsOk K mg LW.prog w base (md.xs.map (·.2)) (([.ref C0, .ref C1, .ref C2, .ref C3, .ref C4] : List Value).getD c .none) n f)) (J.g3c (P := (fun c n f => J.XsOk K mg LW.prog w base (md.xs.map (·.2)) (([.ref C0, .ref C1, .ref C2, .ref C3, .ref C4] : List Value).getD c .none) n f)) (k := 0) (x0 base) (J.g3c (P := (fun c n f => J.XsOk K mg LW.prog w base (md.xs.map (·.2)) (([.ref C0, .ref C1, .ref C2, .ref C3, .ref C4] : List Value).getD c .none) n f)) (k := 1) (x1 base) (J.g3c (P := (fun c n f => J.XsOk K mg LW.prog w base (md.xs.map (·.2)) (([.ref C0, .ref C1, .ref C2, .ref C3, .ref C4] : List Value).getD c .none) n f)) (k := 2) (x2 base) (J.g3c (P := (fun c n f => J.XsOk K mg LW.prog w base (md.xs.map (·.2)) (([.ref C0, .ref C1, .ref C2, .ref C3, .ref C4] : List Value).getD c .none) n f)) (k := 3) (x3 base) (J.g3c (P := (fun c n f => J.XsOk K mg LW.prog w base (md.xs.map (·.2)) (([.ref C0, .ref C1, .ref C2, .ref C3, .ref C4] : List Value).getD c .none) n f)) (k := 4) (x4 base) (J.g3n (P := (fun c n f => J.XsOk K mg LW.prog w base (md.xs.map (·.2)) (([.ref C0, .ref C1, .ref C2, .ref C3, .ref C4] : List Value).getD c .none) n f)) (k := 5)))))))
  · exact J.l3c (P := (fun n cs ns => (∀ c ∈ cs, c < md.xs.length) ∧ J.XbOk K mg (fun i => ([.ref C0, .ref C1, .ref C2, .ref C3, .ref C4] : List Value).getD i .none) ((fun n => (([("InvalidClause", .ref C2), ("InvalidLiteral", .ref C1), ("InvalidName", .ref C0), ("InvalidText", .ref C3), ("RingclauseError", .ref C5), ("UnknownMoment", .ref C4), ("ValueError", .ty "ValueError")] : List (Str × V)).lookup n).getD .non) n) n cs ns)) ⟨by decide, b0⟩ (J.l3c (P := (fun n cs ns => (∀ c ∈ cs, c < md.xs.length) ∧ J.XbOk K mg (fun i => ([.ref C0, .ref C1, .ref C2, .ref C3, .ref C4] : List Value).getD i .none) ((fun n => (([("InvalidClause", .ref C2), ("InvalidLiteral", .ref C1), ("InvalidName", .ref C0), ("InvalidText", .ref C3), ("RingclauseError", .ref C5), ("UnknownMoment", .ref C4), ("ValueError", .ty "ValueError")] : List (Str × V)).lookup n).getD .non) n) n cs ns)) ⟨by decide, b1⟩ (J.l3c (P := (fun n cs ns => (∀ c ∈ cs, c < md.xs.length) ∧ J.XbOk K mg (fun i => ([.ref C0, .ref C1, .ref C2, .ref C3, .ref C4] : List Value).getD i .none) ((fun n => (([("InvalidClause", .ref C2), ("InvalidLiteral", .ref C1), ("InvalidName", .ref C0), ("InvalidText", .ref C3), ("RingclauseError", .ref C5), ("UnknownMoment", .ref C4), ("ValueError", .ty "ValueError")] : List (Str × V)).lookup n).getD .non) n) n cs ns)) ⟨by decide, b2⟩ (J.l3c (P := (fun n cs ns => (∀ c ∈ cs, c < md.xs.length) ∧ J.XbOk K mg (fun i => ([.ref C0, .ref C1, .ref C2, .ref C3, .ref C4] : List Value).getD i .none) ((fun n => (([("InvalidClause", .ref C2), ("InvalidLiteral", .ref C1), ("InvalidName", .ref C0), ("InvalidText", .ref C3), ("RingclauseError", .ref C5), ("UnknownMoment", .ref C4), ("ValueError", .ty "ValueError")] : List (Str × V)).lookup n).getD .non) n) n cs ns)) ⟨by decide, b3⟩ (J.l3c (P := (fun n cs ns => (∀ c ∈ cs, c < md.xs.length) ∧ J.XbOk K mg (fun i => ([.ref C0, .ref C1, .ref C2, .ref C3, .ref C4] : List Value).getD i .none) ((fun n => (([("InvalidClause", .ref C2), ("InvalidLiteral", .ref C1), ("InvalidName", .ref C0), ("InvalidText", .ref C3), ("RingclauseError", .ref C5), ("UnknownMoment", .ref C4), ("ValueError", .ty "ValueError")] : List (Str × V)).lookup n).getD .non) n) n cs ns)) ⟨by decide, b4⟩ (J.l3c (P := (fun n cs ns => (∀ c ∈ cs, c < md.xs.length) ∧ J.XbOk K mg (fun i => ([.ref C0, .ref C1, .ref C2, .ref C3, .ref C4] : List Value).getD i .none) ((fun n => (([("InvalidClause", .ref C2), ("InvalidLiteral", .ref C1), ("InvalidName", .ref C0), ("InvalidText", .ref C3), ("RingclauseError", .ref C5), ("UnknownMoment", .ref C4), ("ValueError", .ty "ValueError")] : List (Str × V)).lookup n).getD .non) n) n cs ns)) ⟨by decide, b5⟩ (J.l3c (P := (fun n cs ns => (∀ c ∈ cs, c < md.xs.length) ∧ J.XbOk K mg (fun i => ([.ref C0, .ref C1, .ref C2, .ref C3, .ref C4] : List Value).getD i .none) ((fun n => (([("InvalidClause", .ref C2), ("InvalidLiteral", .ref C1), ("InvalidName", .ref C0), ("InvalidText", .ref C3), ("RingclauseError", .ref C5), ("UnknownMoment", .ref C4), ("ValueError", .ty "ValueError")] : List (Str × V)).lookup n).getD .non) n) n cs ns)) ⟨by decide, b6⟩ (J.l3n (P := (fun n cs ns => (∀ c ∈ cs, c < md.xs.length) ∧ J.XbOk K mg (fun i => ([.ref C0, .ref C1, .ref C2, .ref C3, .ref C4] : List Value).getD i .none) ((fun n => (([("InvalidClause", .ref C2), ("InvalidLiteral", .ref C1), ("InvalidName", .ref C0), ("InvalidText", .ref C3), ("RingclauseError", .ref C5), ("UnknownMoment", .ref C4), ("ValueError", .ty "ValueError")] : List (Str × V)).lookup n).getD .non) n) n cs ns)))))))))
end K04
open PySem PySem.W PyProof.Rows
set_option maxHeartbeats 0 in
theorem PySem.Challenge.cw_ringclause_k04_texts_of_values_holds : PySem.Challenge.rw_ringclause_k04_texts_of_values.Holds := by
  w_on; o_law; k_head; (case hw => w_witness2)
  k_fill
  refine DG.walkG_of (l := PySem.Challenge.rw_ringclause_k04_texts_of_values) (n := 63) (k := 23) (x := "_law_script") (CX := fun w => L2N.CX (PySem.Challenge.rw_ringclause_k04_texts_of_values).prog w) (sp := fun w vs H Q E => ∀ xv, J.spF ⟨_, none⟩ xv 1 (IL.tbl (K04.defs.map J.DefR.il) 20 K04.f_law) vs H Q E) rfl (by decide) rfl ⟨rfl, by decide, by decide⟩ (fun w h Y => PySem.W.kIn_of Y) ?F (fun w H a ns hl _ hS xv => J.law_sp hS (K04.law_true ns hl).choose_spec) (fun _ _ _ _ _ h => J.cx_none h)
  case F =>
    intro w mg fa h KX G hmg
    refine' K04.all_mk KX G hmg ?a0 ?l0 ?c0 ?k0 ?a1 ?l1 ?c1 ?k1 ?a2 ?l2 ?c2 ?k2 ?a3 ?l3 ?c3 ?k3 ?a4 ?l4 ?c4 ?k4 ?a5 ?l5 ?c5 ?k5 ?a6 ?l6 ?c6 ?k6 ?a7 ?l7 ?c7 ?k7 ?a8 ?l8 ?c8 ?k8 ?a9 ?l9 ?c9 ?k9 ?a10 ?l10 ?c10 ?k10 ?a11 ?l11 ?c11 ?k11 ?a12 ?l12 ?c12 ?k12 ?a13 ?l13 ?c13 ?k13 ?a14 ?l14 ?c14 ?k14 ?a15 ?l15 ?c15 ?k15 ?a16 ?l16 ?c16 ?k16 ?a17 ?l17 ?c17 ?k17 ?a18 ?l18 ?c18 ?k18 ?a19 ?l19 ?c19 ?k19 ?a20 ?l20 ?c20 ?k20 ?a21 ?l21 ?c21 ?k21 ?a22 ?l22 ?c22 ?k22 ?a23 ?l23 ?c23 ?k23 ?a24 ?l24 ?c24 ?k24 ?a25 ?l25 ?c25 ?k25 ?z0 ?z1 ?z2 ?z3 ?z4 ?z5 ?z6 ?z7 ?z8 ?z9 ?z10 ?z11 ?z12 ?z13 ?z14 ?z15 ?z16 ?z17 ?ca0 ?ca1 ?ca2 ?ca3 ?ca4 ?ca5 ?cl0 ?cy0 ?cb0 ?cl1 ?cy1 ?cb1 ?cl2 ?cy2 ?cb2 ?cl3 ?cy3 ?cb3 ?cl4 ?cy4 ?cb4 ?cl5 ?cy5 ?cb5 ?gn ?gt ?op ?ve0 ?sa0 ?sv0 ?kp0 ?mr0 ?ga0 ?gg0 ?hd0 ?kc0 ?km0 ?fd0_0 ?fd0_1 ?fd0_2 ?fd0_3 ?fd0_4 ?in0 ?ty0 ?li0 ?cc0_ ?ld0 ?lc0 ?sr0 ?fi0 ?fe0 ?ss0_ ?ve1 ?sa1 ?sv1 ?kp1 ?mr1 ?ga1 ?gg1 ?hd1 ?kc1 ?km1 ?fd1_0 ?fd1_1 ?fd1_2 ?fd1_3 ?fd1_4 ?in1 ?ty1 ?li1 ?cc1_ ?ld1 ?lc1 ?sr1 ?fi1 ?fe1 ?ss1_ ?ve2 ?sa2 ?sv2 ?kp2 ?mr2 ?ga2 ?gg2 ?hd2 ?kc2 ?km2 ?fd2_0 ?fd2_1 ?fd2_2 ?fd2_3 ?fd2_4 ?in2 ?ty2 ?li2 ?cc2_ ?ld2 ?lc2 ?sr2 ?fi2 ?fe2 ?ss2_ ?ve3 ?sa3 ?sv3 ?kp3 ?mr3 ?ga3 ?gg3 ?hd3 ?kc3 ?km3 ?fd3_0 ?fd3_1 ?fd3_2 ?fd3_3 ?fd3_4 ?in3 ?ty3 ?li3 ?cc3_ ?ld3 ?lc3 ?sr3 ?fi3 ?fe3 ?ss3_ ?ve4 ?sa4 ?sv4 ?kp4 ?mr4 ?ga4 ?gg4 ?hd4 ?kc4 ?km4 ?fd4_0 ?fd4_1 ?fd4_2 ?fd4_3 ?fd4_4 ?in4 ?ty4 ?li4 ?cc4_ ?ld4 ?lc4 ?sr4 ?fi4 ?fe4 ?ss4_ ?by0_2 ?bn0_0 ?bn0_1 ?bn0_3 ?bn0_4 ?by1_1 ?bn1_0 ?bn1_2 ?bn1_3 ?bn1_4 ?by2_0 ?bn2_1 ?bn2_2 ?bn2_3 ?bn2_4 ?by3_3 ?bn3_0 ?bn3_1 ?bn3_2 ?bn3_4 ?by4_0 ?by4_1 ?by4_2 ?by4_3 ?by4_4 ?by5_4 ?bn5_0 ?bn5_1 ?bn5_2 ?bn5_3 ?bz6 ?bs6_ ?by6_0 ?by6_1 ?by6_2 ?by6_3 ?by6_4 ?gx0_ ?gy0_ ?gx1_ ?gy1_ ?gx2_ ?gx3_
    (case a0 => k_is)
    (case l0 => k_is)
    (case c0 => k_is)
    (case k0 => k_is)
    (case a1 => k_is)
    (case l1 => k_is)
    (case c1 => k_is)
    (case k1 => k_is)
    (case a2 => k_is)
    (case l2 => k_is)
    (case c2 => k_is)
    (case k2 => k_is)
    (case a3 => k_is)
    (case l3 => k_is)
    (case c3 => k_is)
    (case k3 => k_is)
    (case a4 => k_is)
    (case l4 => k_is)
    (case c4 => k_is)
    (case k4 => k_is)
    (case a5 => k_is)
    (case l5 => k_is)
    (case c5 => k_is)
    (case k5 => k_is)
    (case a6 => k_is)
    (case l6 => k_is)
    (case c6 => k_is)
    (case k6 => k_is)
    (case a7 => k_is)
    (case l7 => k_is)
    (case c7 => k_is)
    (case k7 => k_is)
    (case a8 => k_is)
    (case l8 => k_is)
    (case c8 => k_is)
    (case k8 => k_is)
    (case a9 => k_is)
    (case l9 => k_is)
    (case c9 => k_is)
    (case k9 => k_is)
    (case a10 => k_is)
    (case l10 => k_is)
    (case c10 => k_is)
    (case k10 => k_is)
    (case a11 => k_is)
    (case l11 => k_is)
    (case c11 => k_is)
    (case k11 => k_is)
    (case a12 => k_is)
    (case l12 => k_is)
    (case c12 => k_is)
    (case k12 => k_is)
    (case a13 => k_is)
    (case l13 => k_is)
    (case c13 => k_is)
    (case k13 => k_is)
    (case a14 => k_is)
    (case l14 => k_is)
    (case c14 => k_is)
    (case k14 => k_is)
    (case a15 => k_is)
    (case l15 => k_is)
    (case c15 => k_is)
    (case k15 => k_is)
    (case a16 => k_is)
    (case l16 => k_is)
    (case c16 => k_is)
    (case k16 => k_is)
    (case a17 => k_is)
    (case l17 => k_is)
    (case c17 => k_is)
    (case k17 => k_is)
    (case a18 => k_is)
    (case l18 => k_is)
    (case c18 => k_is)
    (case k18 => k_is)
    (case a19 => k_is)
    (case l19 => k_is)
    (case c19 => k_is)
    (case k19 => k_is)
    (case a20 => k_is)
    (case l20 => k_is)
    (case c20 => k_is)
    (case k20 => k_is)
    (case a21 => k_is)
    (case l21 => k_is)
    (case c21 => k_is)
    (case k21 => k_is)
    (case a22 => k_is)
    (case l22 => k_is)
    (case c22 => k_is)
    (case k22 => k_is)
    (case a23 => k_is)
    (case l23 => k_is)
    (case c23 => k_is)
    (case k23 => k_is)
    (case a24 => k_is)
    (case l24 => k_is)
    (case c24 => k_is)
    (case k24 => k_is)
    (case a25 => k_is)
    (case l25 => k_is)
    (case c25 => k_is)
    (case k25 => k_is)
    (case z0 => k_is)
    (case z1 => k_is)
    (case z2 => k_is)
    (case z3 => k_is)
    (case z4 => k_is)
    (case z5 => k_is)
    (case z6 => k_is)
    (case z7 => k_is)
    (case z8 => k_is)
    (case z9 => k_is)
    (case z10 => k_is)
    (case z11 => k_is)
    (case z12 => k_is)
    (case z13 => k_is)
    (case z14 => k_is)
    (case z15 => k_is)
    (case z16 => k_is)
    (case z17 => k_is)
    (case ca0 => k_is)
    (case ca1 => k_is)
    (case ca2 => k_is)
    (case ca3 => k_is)
    (case ca4 => k_is)
    (case ca5 => k_is)
    (case cl0 => k_is)
    (case cy0 => k_is)
    (case cb0 => k_is)
    (case cl1 => k_is)
    (case cy1 => k_is)
    (case cb1 => k_is)
    (case cl2 => k_is)
    (case cy2 => k_is)
    (case cb2 => k_is)
    (case cl3 => k_is)
    (case cy3 => k_is)
    (case cb3 => k_is)
    (case cl4 => k_is)
    (case cy4 => k_is)
    (case cb4 => k_is)
    (case cl5 => k_is)
    (case cy5 => k_is)
    (case cb5 => k_is)
    (case gn => k_is)
    (case gt => k_is)
    (case op => k_is)
    (case ve0 => exact rfl)
    (case sa0 => k_is)
    (case sv0 => k_is)
    (case kp0 => k_is)
    (case mr0 => k_is)
    (case ga0 => k_is)
    (case gg0 => k_is)
    (case hd0 => k_is)
    (case kc0 => k_is)
    (case km0 => k_is)
    (case fd0_0 => k_is)
    (case fd0_1 => k_is)
    (case fd0_2 => k_is)
    (case fd0_3 => k_is)
    (case fd0_4 => k_is)
    (case in0 => k_is)
    (case ty0 => k_is)
    (case li0 => k_is)
    (case cc0_ => k_is)
    (case ld0 => k_is)
    (case lc0 => k_is)
    (case sr0 => k_is)
    (case fi0 => exact rfl)
    (case fe0 => decide +kernel)
    (case ss0_ => k_is)
    (case ve1 => exact rfl)
    (case sa1 => k_is)
    (case sv1 => k_is)
    (case kp1 => k_is)
    (case mr1 => k_is)
    (case ga1 => k_is)
    (case gg1 => k_is)
    (case hd1 => k_is)
    (case kc1 => k_is)
    (case km1 => k_is)
    (case fd1_0 => k_is)
    (case fd1_1 => k_is)
    (case fd1_2 => k_is)
    (case fd1_3 => k_is)
    (case fd1_4 => k_is)
    (case in1 => k_is)
    (case ty1 => k_is)
    (case li1 => k_is)
    (case cc1_ => k_is)
    (case ld1 => k_is)
    (case lc1 => k_is)
    (case sr1 => k_is)
    (case fi1 => exact rfl)
    (case fe1 => decide +kernel)
    (case ss1_ => k_is)
    (case ve2 => exact rfl)
    (case sa2 => k_is)
    (case sv2 => k_is)
    (case kp2 => k_is)
    (case mr2 => k_is)
    (case ga2 => k_is)
    (case gg2 => k_is)
    (case hd2 => k_is)
    (case kc2 => k_is)
    (case km2 => k_is)
    (case fd2_0 => k_is)
    (case fd2_1 => k_is)
    (case fd2_2 => k_is)
    (case fd2_3 => k_is)
    (case fd2_4 => k_is)
    (case in2 => k_is)
    (case ty2 => k_is)
    (case li2 => k_is)
    (case cc2_ => k_is)
    (case ld2 => k_is)
    (case lc2 => k_is)
    (case sr2 => k_is)
    (case fi2 => exact rfl)
    (case fe2 => decide +kernel)
    (case ss2_ => k_is)
    (case ve3 => exact rfl)
    (case sa3 => k_is)
    (case sv3 => k_is)
    (case kp3 => k_is)
    (case mr3 => k_is)
    (case ga3 => k_is)
    (case gg3 => k_is)
    (case hd3 => k_is)
    (case kc3 => k_is)
    (case km3 => k_is)
    (case fd3_0 => k_is)
    (case fd3_1 => k_is)
    (case fd3_2 => k_is)
    (case fd3_3 => k_is)
    (case fd3_4 => k_is)
    (case in3 => k_is)
    (case ty3 => k_is)
    (case li3 => k_is)
    (case cc3_ => k_is)
    (case ld3 => k_is)
    (case lc3 => k_is)
    (case sr3 => k_is)
    (case fi3 => exact rfl)
    (case fe3 => decide +kernel)
    (case ss3_ => k_is)
    (case ve4 => exact rfl)
    (case sa4 => k_is)
    (case sv4 => k_is)
    (case kp4 => k_is)
    (case mr4 => k_is)
    (case ga4 => k_is)
    (case gg4 => k_is)
    (case hd4 => k_is)
    (case kc4 => k_is)
    (case km4 => k_is)
    (case fd4_0 => k_is)
    (case fd4_1 => k_is)
    (case fd4_2 => k_is)
    (case fd4_3 => k_is)
    (case fd4_4 => k_is)
    (case in4 => k_is)
    (case ty4 => k_is)
    (case li4 => k_is)
    (case cc4_ => k_is)
    (case ld4 => k_is)
    (case lc4 => k_is)
    (case sr4 => k_is)
    (case fi4 => exact rfl)
    (case fe4 => decide +kernel)
    (case ss4_ => k_is)
    (case by0_2 => k_is)
    (case bn0_0 => k_is)
    (case bn0_1 => k_is)
    (case bn0_3 => k_is)
    (case bn0_4 => k_is)
    (case by1_1 => k_is)
    (case bn1_0 => k_is)
    (case bn1_2 => k_is)
    (case bn1_3 => k_is)
    (case bn1_4 => k_is)
    (case by2_0 => k_is)
    (case bn2_1 => k_is)
    (case bn2_2 => k_is)
    (case bn2_3 => k_is)
    (case bn2_4 => k_is)
    (case by3_3 => k_is)
    (case bn3_0 => k_is)
    (case bn3_1 => k_is)
    (case bn3_2 => k_is)
    (case bn3_4 => k_is)
    (case by4_0 => k_is)
    (case by4_1 => k_is)
    (case by4_2 => k_is)
    (case by4_3 => k_is)
    (case by4_4 => k_is)
    (case by5_4 => k_is)
    (case bn5_0 => k_is)
    (case bn5_1 => k_is)
    (case bn5_2 => k_is)
    (case bn5_3 => k_is)
    (case bz6 => k_is)
    (case bs6_ => k_is)
    (case by6_0 => k_is)
    (case by6_1 => k_is)
    (case by6_2 => k_is)
    (case by6_3 => k_is)
    (case by6_4 => k_is)
    (case gx0_ => k_is)
    (case gy0_ => decide +kernel)
    (case gx1_ => k_is)
    (case gy1_ => decide +kernel)
    (case gx2_ => k_is)
    (case gx3_ => k_is)
end
