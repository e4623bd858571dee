import PyProof.Rows.All
import Wide.All
import OpenK.AllK
import Wide.FinOn
import HandS.ForMost
import HandS.ForExc
import PySem.PyData
import KE.DataEq
import KE.LtData
import KE.DataAny
import KE.DataMinKey
import PyProof.ReprRoads
import HandS.List
import HandS.Wide
import HandS.Text
import HandS.Evl
import HandS.Style
import HandS.More
import HandS.TupAny
import KE.DataCmp
import KE.DataIsa
import KE.SortData
import KE.KRevSl
import HandS.SetFor
import HandS.Strs
import HandS.SortInts
import PySem.Challenge.RW_ringclause_k38_least_hitting
section
set_option Elab.async false
set_option linter.all false
set_option maxRecDepth 100000
set_option maxHeartbeats 1000000
/-! DG: promises of defs that are called where no repr is under way (so repr of containers may be told), their calls, the end of a law. -/
namespace DG
open PySem PySem.Spec PyProof.Rows L2

abbrev St := L2.St
/-- no repr is under way -/
def Clr (A : Around) : Prop := A.guards = some []
/-- the def at f keeps the promise sp where no repr is under way -/
structure FnG (P : Program) (w : World) (K : PySem.W.Frag) (mg : Str → Option Value) (base : Heap) (CX : CXT) (k : Nat) (f : Addr) (fd : FuncData) (ps : List Str) (sp : Sp) : Prop where
  arity : ∀ vs H Q E, sp vs H Q E → vs.length = ps.length
  goes : ∀ (A : Around) (o : List Env) (s : Shared) (H : Hp) (as : Args) (us : List Value) (vs : List V) (Q : VK) (E : XK),
    Clr A → Room k A → Env0 P w K mg base A o s H → BindsTo s fd as (ps.zip us) → Vals vs us → sp vs H Q E → codeAny (model P w) A (.call (.ref f) as) (CR CX o P w H s Q E) s
theorem FnG.mono {P : Program} {w : World} {K : PySem.W.Frag} {mg : Str → Option Value} {base : Heap} {CX : CXT} {j k : Nat} {f : Addr} {fd : FuncData} {ps : List Str} {sp : Sp} (F : FnG P w K mg base CX j f fd ps sp) (h : j ≤ k) :
    FnG P w K mg base CX k f fd ps sp := ⟨F.arity, fun A o s H as us vs Q E c r => F.goes A o s H as us vs Q E c (r.mono h)⟩
theorem FnG.of {P : Program} {w : World} {K : PySem.W.Frag} {mg : Str → Option Value} {base : Heap} {CX : CXT} {k : Nat} {f : Addr} {fd : FuncData} {ps : List Str} {sp : Sp} (F : FnOk P w K mg base CX k f fd ps sp) : FnG P w K mg base CX k f fd ps sp :=
  ⟨F.len, fun A o s H as us vs Q E _ => F.run A o s H as us vs Q E⟩

section
variable {X : Cx} {CX : CXT} {k : Nat} {f : Addr} {fd : FuncData} {ps : List Str} {sp : Sp} {dvs : List V} {ds : List Value} {E : XK} {ES : St → XK} {x : Str} {p pos : Pos} {e : Expr} {es : List Expr} {t : TA}
theorem fnG_runs {pins : List (Addr × Obj)} {σ : St} {H : Hp} {s : Shared} {Q : VK} {us : List Value} {vs : List V} (F : FnG X.prog X.w X.K X.mg X.base CX k f fd ps sp) (c : Clr X.A) (hr : Room k X.A) (hb : Binds X.K fd ps ds)
    (hd : Vals dvs ds) (E : XK) (hx : PassesAt CX X σ E) (I : Inv X pins σ H s) (r : Vals vs us) (h : sp (vs ++ dvs) H Q E) : wpAny (model X.prog X.w) X.A (call (.ref f) us) (EP X pins σ Q) X.xe s := by
  have both := r.append hd
  have len : (us ++ ds).length = ps.length := (both.length.symm).trans (F.arity _ _ _ _ h)
  have go := F.goes X.A X.stack s H ⟨us, []⟩ (us ++ ds) (vs ++ dvs) Q E c hr I.env0 (hb s us I.kIn len) both h
  refine wpAny_call (codeAny_mono go fun r s' q => ?_)
  rcases r with e | fl
  · exact hx pins H s e s' I q
  · cases fl <;> first | exact I.after q | exact False.elim q
/-- f(e, ..), the reading that of pe_callS -/
theorem pe_callG (F : FnG X.prog X.w X.K X.mg X.base CX k f fd ps sp) (c : Clr X.A) (hr : Room k X.A) (hg : Gl X x) (hm : X.mg x = some (.ref f)) (hk : PySem.W.keepIn X.K (.ref f) = true) (hb : Binds X.K fd ps [])
    (hx : ∀ σ, PassesAt CX X σ (ES σ)) (ha : PA X (e :: es) t) (hdb : (x == ("__debug__" : Str)) = false := by decide)
    (he : starEach (e :: es) X.env = (false, eval e X.env) :: starEach es X.env := by rfl) (hpl : (backTo pos (starEach es X.env)).any (·.1) = false := by rfl) : PE X (.Call (.Name x p) (e :: es) [] pos) (tCallS sp ES t) :=
  ⟨fun pins s σ H Q I h => wpAny_Call_Name_kw (ld_glob I hg hm (PySem.W.callWith_K (h₀ := X.base) I.ok.mod.kin hk
    (thn (ha.run pos pins s σ H _ I h) fun us s1 ⟨vs, H1, I1, r, q⟩ => ⟨I1.kIn, fnG_runs F c hr hb .nil (ES σ) (hx σ) I1 r (by rw [List.append_nil]; exact q)⟩) he hpl) hdb)⟩
/-- f() -/
theorem pe_callG0 (F : FnG X.prog X.w X.K X.mg X.base CX k f fd ps sp) (c : Clr X.A) (hr : Room k X.A) (hg : Gl X x) (hm : X.mg x = some (.ref f)) (hk : PySem.W.keepIn X.K (.ref f) = true) (hb : Binds X.K fd ps [])
    (hx : ∀ σ, PassesAt CX X σ (ES σ)) (hdb : (x == ("__debug__" : Str)) = false := by decide) : PE X (.Call (.Name x p) [] [] pos) (tCallS sp ES tNil) :=
  ⟨fun pins s σ H Q I h => wpAny_Call_Name_kw (ld_glob I hg hm (PySem.W.callWith_K0 I.kIn hk (fnG_runs (us := []) F c hr hb .nil (ES σ) (hx σ) I .nil (by rw [List.append_nil]; exact h))) hdb)⟩
end
/-- nothing is let out -/
theorem passN {X : Cx} (σ : St) : PassesAt CX0 X σ E0 := fun _ _ _ _ _ _ h => h.elim

section
variable {P : Program} {w : World} {K : PySem.W.Frag} {mg : Str → Option Value} {base : Heap} {CX : CXT} {k : Nat} {f : Addr} {fd : FuncData} {N ps : List Str} {sp : Sp}
/-- a def's promise from the walk of its body -/
theorem fnG_mk {x qual : Str} {st : Stmt} (F : Fun K x qual st f fd) (S : FnScope N ps (defScope st)) (len : ∀ vs H Q E, sp vs H Q E → vs.length = ps.length)
    (body : ∀ (cdv : Value) (A : Around) (o : List Env) (s : Shared) (H : Hp) (vs : List V) (Q : VK) (E : XK), Clr (A.deeper (envOfC qual (defScope st) s.heap.objs.size f cdv)) → Room k (A.deeper (envOfC qual (defScope st) s.heap.objs.size f cdv)) → sp vs H Q E →
      ∃ t, PSs (cxOf CX P w K mg base N qual (defScope st) f cdv A o s H E) (defBody st) t ∧ t { nx := fun _ H' => Q .non H', rt := Q } (L2.start N vs) H) : FnG P w K mg base CX (k + 1) f fd ps sp := by
  obtain ⟨oc, od, kV, doc, pm, an, cdv, ct, osl, rfl, lk, hcd⟩ := F.ex
  refine ⟨len, fun A o s H as us vs Q E c hr e0 hb r hsp => ?_⟩
  have inK : K.In s.heap := e0.mod.kin.keeps fun b q e => (e0.bs b q e).1
  have places : ∀ y ∈ ps.zip us, (defScope st).names.lookup y.1 = some .local ∨ ((defScope st).names.lookup y.1 = some .cell ∧ ((cellsFrom (s.heap.objs.size + 1) (defScope st).names []).lookup y.1).isSome = true) := by
    rintro ⟨n, v⟩ hy
    have z := S.par n (List.of_mem_zip hy).1
    exact z.imp id fun q => ⟨q, PySem.W.cellsFrom_some _ _ _ (.inl q)⟩
  refine codeAny_call_function hr.depth (inK _ _ lk) rfl S.co S.gen rfl (PySem.W.codeRec_of inK hcd) (hb _ _ _ _ ?_)
  refine wpAny_newFunctionEnv_cells S.kind places fun env he s1 x => ?_
  subst he
  refine ⟨(e0.mod.nolimit.keeps fun b q e => (e0.bs b q e).1).keeps x.toInCall.keep, codeAny_func ?_⟩
  obtain ⟨t, walk, reads⟩ := body cdv A o s H vs Q E c (hr.deeper _) hsp
  have I := inv_start (CX := CX) (P := P) (E := E) S hr.hd e0 (len _ _ _ _ hsp) r x
  refine wpAny_mono (walk.run [] s1 (L2.start N vs) H _ I reads) (fun fl s' hs => ?_) fun e s' hs => hs
  match fl, hs with
  | .ret u, ⟨v, σ', H', J, rv, q⟩ => exact ⟨v, H', J.os, J.bare, J.base, J.hok, rv, q⟩
  | .next, ⟨σ', H', J, q⟩ => exact ⟨V.non, H', J.os, J.bare, J.base, J.hok, rfl, q⟩
  | .brk, ⟨_, _, _, q⟩ => exact q.elim
  | .cont, ⟨_, _, _, q⟩ => exact q.elim
theorem fnG_mk0 {x qual : Str} {st : Stmt} (F : Fun K x qual st f fd) (S : FnScope N ps (defScope st)) (len : ∀ vs H Q E, sp vs H Q E → vs.length = ps.length)
    (body : ∀ (cdv : Value) (A : Around) (o : List Env) (s : Shared) (H : Hp) (vs : List V) (Q : VK) (E : XK), Clr (A.deeper (envOfC qual (defScope st) s.heap.objs.size f cdv)) → Room k (A.deeper (envOfC qual (defScope st) s.heap.objs.size f cdv)) → sp vs H Q E →
      ∃ t, PSs (cxOf CX0 P w K mg base N qual (defScope st) f cdv A o s H E).nox (defBody st) t ∧ t { nx := fun _ H' => Q .non H', rt := Q } (L2.start N vs) H) : FnG P w K mg base CX0 (k + 1) f fd ps sp :=
  fnG_mk F S len fun cdv A o s H vs Q E c r h => by
    obtain ⟨t, a, b⟩ := body cdv A o s H vs Q E c r h
    exact ⟨t, a.nox, b⟩
end

/-- the law's def is called with the script -/
theorem law_ends {P : Program} {w : World} {K : PySem.W.Frag} {mg mb : Str → Option Value} {CX : CXT} {k : Nat} {fa a : Addr} {fd : FuncData} {x : Str} {sp : Sp} {s₁ : Shared} {vs : List Value} {ns : List Int}
    (inK : K.In s₁.heap) (hns : s₁.heap.Ns mainGlobals mg) (hb : s₁.heap.Ns builtinsNs mb) (hbb : ∀ x : Str, x ≠ "__name__" → mb x = bootBuiltins x) (lim : s₁.heap.NoLimit) (hg : s₁.gens = #[])
    (ha : s₁.heap.get? a = some { cls := .type "list", data := .seq vs.toArray }) (hi : IntsAre vs ns) (hl : ns.length ≤ sizeLine) (hr : Room k callerA)
    (F : ∀ base : Heap, K.In base → base.Ns mainGlobals mg → FnG P w K mg base CX k fa fd [x] sp) (binds : ∀ (s : Shared) (u : Value), BindsTo s fd ⟨[u], []⟩ [(x, u)])
    (hsp : ∀ H : Hp, Only H → SqL K H a (ns.map V.int) → sp [.ref a] H (fun v _ => v = .bl true) fun _ _ _ => False)
    (hCX : ∀ H e s', CX [] H s₁ (fun _ _ _ => False) e s' → False) :
    codeAny (model P w) callerA (.call (.ref fa) ⟨[.ref a], []⟩) (fun r s' => r = .ok (.ret (.bool true)) ∧ OldK s₁.heap s'.heap ∧ s'.os = s₁.os ∧ AllBare s'.gens) s₁ := by
  have rv := vals_ints hi
  have lenV := hi.length
  -- H tracks the script or nothing
  have from_ : ∀ H : Hp, Only H → SqL K H a (ns.map V.int) → HOk P w H s₁.heap → (∀ b, H b ≠ none → b = a ∧ K.lookup a = none) →
      codeAny (model P w) callerA (.call (.ref fa) ⟨[.ref a], []⟩) (fun r s' => r = .ok (.ret (.bool true)) ∧ OldK s₁.heap s'.heap ∧ s'.os = s₁.os ∧ AllBare s'.gens) s₁ := by
    intro H only seq hok one
    have untracked : ∀ {b : Addr}, b ≠ a → H b = none := fun {b} ne => Classical.byContradiction fun z => ne (one b z).1
    have ns_ : ∀ {b : Addr} {m : Str → Option Value}, s₁.heap.Ns b m → (hidT s₁.heap H).Ns b m := by
      rintro b m ⟨o, es, ep, e, d, r⟩
      refine ⟨o, es, ep, hidT_get e (untracked fun z => ?_), d, r⟩
      subst z
      rw [ha] at e
      cases e
      cases d
    have k_ : K.In (hidT s₁.heap H) := by
      intro b o e
      refine hidT_get (inK b o e) (Classical.byContradiction fun z => ?_)
      obtain ⟨h1, h2⟩ := one b z
      rw [h1, h2] at e
      cases e
    obtain ⟨mc, c1, c2⟩ := lim
    have mod_ : Mod K mg (hidT s₁.heap H) := ⟨k_, ns_ hns, ⟨mb, ns_ hb, hbb⟩, ⟨mc, ns_ c1, c2⟩⟩
    have env_ : Env0 P w K mg (hidT s₁.heap H) callerA [] s₁ H :=
      { frames := rfl, mod := mod_, bs := fun b o e => of_hidT e, bsz := Nat.le_of_eq (hidT_size _ _), funs := trivial, frf := fun b hb => (by cases hb), hok := hok, bare := .of_eq hg }
    have go := (F _ k_ (ns_ hns)).goes callerA [] s₁ H ⟨[.ref a], []⟩ [.ref a] [.ref a] _ _ rfl hr env_ (binds s₁ (.ref a)) (.cons rfl .nil) (hsp H only seq)
    refine codeAny_mono go fun r s' h => ?_
    match r, h with
    | .error e, h => exact (hCX H e s' h).elim
    | .ok .next, h => exact False.elim h
    | .ok .brk, h => exact False.elim h
    | .ok .cont, h => exact False.elim h
    | .ok (.ret u), ⟨v, H', os, bare, un, hok', rv', q⟩ =>
      have q' : v = .bl true := q
      subst q'
      cases rv'
      refine ⟨rfl, OldK.of_keep fun b o e => ?_, os, bare⟩
      rcases only b with z | ⟨ob, xs, z⟩
      · exact un.keep b o e z (fun h => by cases h) (fun h => by cases h)
      · have old := (hok b _ z).1
        have new := (hok' b _ (un.frzs b ob _ z)).1
        exact new.trans (old.symm.trans e)
  cases hk : K.lookup a with
  | some o =>
    have e := inK a o hk
    rw [ha] at e
    cases e
    refine from_ (fun _ => none) (fun _ => .inl rfl) (.inr ⟨_, vs.toArray, _, hk, rfl, rfl, rfl, by rw [List.size_toArray, lenV]; exact hl, by simpa using rv⟩) (fun b u z => ?_) fun b z => absurd rfl z
    cases (show (none : Option HO) = some u from z)
  | none =>
    have at_ : (fun b => if b = a then some (HO.frz { cls := .type "list", data := .seq vs.toArray } (.lst (ns.map V.int))) else none : Hp) a = some (.frz { cls := .type "list", data := .seq vs.toArray } (.lst (ns.map V.int))) := if_pos rfl
    refine from_ (fun b => if b = a then some (HO.frz { cls := .type "list", data := .seq vs.toArray } (.lst (ns.map V.int))) else none) (fun b => ?_) (.inl (.inr ⟨_, at_⟩)) (fun b u z => ?_) (fun b z => ⟨Classical.byContradiction fun ne => z (if_neg ne), hk⟩)
    · rcases Nat.decEq b a with h | h
      · exact .inl (if_neg h)
      · exact .inr ⟨_, _, if_pos h⟩
    · rcases Nat.decEq b a with h | h
      · cases (if_neg h).symm.trans z
      · cases (if_pos h).symm.trans z
        subst h
        exact ⟨ha, by rw [List.length_map]; exact hl, vs, _, rv, ha⟩
/-- the goal that k_head leaves -/
theorem walkG_of {l : PySem.W.OpenLaw} {n k : Nat} {q : Program} {loose : List Str} {XP : (Str → Option Value) → Heap → Prop} {YP : World → Heap → Prop} {d : DefRec} {K : Params → PySem.W.Frag} {CX : World → CXT} {sp : World → Sp} {x : Str}
    (hn : l.most = some n) (hn2 : n ≤ sizeLine) (hdf : d.params.defaults = []) (hr : Room k callerA) (hY : ∀ (w : World) (h : Heap), YP w h → (K w.params).In h)
    (F : ∀ (w : World) (mg : Str → Option Value) (fa : Addr) (h : Heap), (K w.params).In h → h.Ns mainGlobals mg → mg d.name = some (.ref fa) →
      ∃ fd : FuncData, (∀ (s : Shared) (u : Value), BindsTo s fd ⟨[u], []⟩ [(x, u)]) ∧ ∀ base : Heap, (K w.params).In base → base.Ns mainGlobals mg → FnG l.prog w (K w.params) mg base (CX w) k fa fd [x] (sp w))
    (hsp : ∀ (w : World) (H : Hp) (a : Addr) (ns : List Int), ns.length ≤ n → Only H → SqL (K w.params) H a (ns.map V.int) → sp w [.ref a] H (fun v _ => v = .bl true) fun _ _ _ => False)
    (hCX : ∀ (w : World) (H : Hp) (s : Shared) (e : Value) (s' : Shared), CX w [] H s (fun _ _ _ => False) e s' → False) :
    PySem.W.WalkO q loose XP YP l.row.toRowW d [] (fun f vs => PySem.call f vs) :=
  Att.attach_call hn hdf fun w s₀ s₁ mg mb fa o pm cd doc a vs ns G Y ho hd hcd hmg hobj hints hlen hg => by
    have inK := hY w _ Y
    obtain ⟨fd, hb, hF⟩ := F w mg fa _ inK G.T.g hmg
    exact law_ends inK G.T.g G.T.b G.T.builtins G.T.nolimit hg hobj hints (Nat.le_trans hlen hn2) hr hF hb (fun H hO hS => hsp w H a ns hlen hO hS) fun H e s' => hCX w H s₁ e s'
end DG
end
section
set_option Elab.async false
set_option linter.all false
/-! J0: a small language over plain data, and what it does: the clean semantics that the walk is turned into. -/
namespace IL
open PySem

abbrev D := PyData
/-- what one owns and may change: a list, a dict -/
inductive Ow where
  | lst (ds : List D)
  | dct (kvs : List (L2.Key × D))
/-- a slot: nothing known, data that stays, an owned thing -/
inductive Slot where
  | un
  | im (d : D)
  | ow (o : Ow)
abbrev Env := List Slot
/-- a value: data that stays, the thing that a slot owns, a new thing -/
inductive Val where
  | dat (d : D)
  | own (i : Nat)
  | new (o : Ow)
/-- an answer: a value and the slots behind it; an exception; nothing is claimed -/
inductive R (α : Type) where
  | ok (a : α) (δ : Env)
  | ex (c : Nat) (fs : List (Str × D)) (δ : Env)
  | no
def R.bind {α β : Type} : R α → (α → Env → R β) → R β
  | .ok a δ, k => k a δ
  | .ex c fs δ, _ => .ex c fs δ
  | .no, _ => .no
@[simp] theorem bind_ok {α β : Type} (a : α) (δ : Env) (k : α → Env → R β) : (R.ok a δ).bind k = k a δ := rfl
@[simp] theorem bind_ex {α β : Type} (c : Nat) (fs : List (Str × D)) (δ : Env) (k : α → Env → R β) : (R.ex c fs δ).bind k = .ex c fs δ := rfl
@[simp] theorem bind_no {α β : Type} (k : α → Env → R β) : (R.no : R α).bind k = .no := rfl
/-- a def's answer: what it returns, its parameters' slots behind it -/
inductive RV where
  | dat (d : D)
  | new (o : Ow)
inductive CR where
  | ret (v : RV) (ss : Env)
  | ex (c : Nat) (fs : List (Str × D)) (ss : Env)
  | no
structure Cfg where
  /-- parameters -/
  kp : Nat
  call : Nat → Env → CR
inductive Bop where
  | add | sub | mul | fdiv | mod | pow
  deriving DecidableEq
inductive Cop where
  | eq | ne | lt | le | gt | ge | isin | notin
  deriving DecidableEq
/-- built-in functions -/
inductive Fn where
  | len | int | abs | sum | min2 | max2 | any | all | tuple | list | repr | sorted | sortedSet | minLen
  deriving DecidableEq
/-- methods that change what a slot owns -/
inductive Mt where
  | append | pop | insert
  deriving DecidableEq
inductive Tg where
  | name (i : Nat)
  | tup (is : List Nat)
  deriving DecidableEq
mutual
inductive CE where
  | var (i : Nat) | int (i : Int) | str (s : Str) | bool (b : Bool) | none
  | fz (e : CE)
  | bin (o : Bop) (a b : CE) | neg (a : CE)
  | cmp (o : Cop) (a b : CE) | isN (a : CE) | notN (a : CE)
  | not (a : CE) | and (a b : CE) | or (a b : CE)
  | ite (c : CT) (a b : CE)
  | tup (es : CEs) | lst (es : CEs)
  | idx (a b : CE) | sli (a : CE) (lo hi : CO) | rev (a : CE)
  | call (f : Nat) (es : CEs)
  | bi (f : Fn) (es : CEs)
  | mt (m : Mt) (i : Nat) (es : CEs)
  | ext (i : Nat) (e : CE)
  | lc (e : CE) (g : Tg) (it : CI) (vs : List Nat)
  | lcIf (e : CE) (g : Tg) (it : CI) (c : CT) (vs : List Nat)
/-- tests -/
inductive CT where
  | tr (e : CE) | cmp (o : Cop) (a b : CE) | isN (a : CE) | notN (a : CE)
  | not (a : CT) | and (a b : CT) | or (a b : CT)
inductive CEs where
  | nil | cons (e : CE) (es : CEs)
inductive CO where
  | no | yes (e : CE)
inductive CI where
  | of (e : CE) | rng1 (e : CE) | rng2 (a b : CE)
end
mutual
inductive CS where
  | pass
  | set (g : Tg) (e : CE)
  | setI (i : Nat) (e1 e2 : CE)
  | exp (e : CE)
  | ret (e : CE) | retN
  | cond (c : CT) (a b : CB)
  | wh (c : CT) (a : CB)
  | loop (g : Tg) (it : CI) (a : CB)
  | brk | cont
inductive CB where
  | nil | cons (s : CS) (b : CB)
end
/-! ### reading, changing slots -/
@[simp] def get (δ : Env) (i : Nat) : Slot := δ.getD i .un
/-- the data that a value is now -/
def cur (δ : Env) : Val → Option D
  | .dat d => some d
  | .new (.lst ds) => some (.list ds)
  | .own i => match δ[i]? with
    | some (.im d) => some d
    | some (.ow (.lst ds)) => some (.list ds)
    | _ => none
  | _ => none
/-- data that stays from now on -/
def dem (kp : Nat) : Val → Env → R D
  | .dat d, δ => .ok d δ
  | .new (.lst ds), δ => .ok (.list ds) δ
  | .own i, δ => match δ[i]? with
    | some (.im d) => .ok d δ
    | some (.ow (.lst ds)) => if kp ≤ i then .ok (.list ds) (δ.set i (.im (.list ds))) else .no
    | _ => .no
  | _, _ => .no
/-- a slot that may be stored to -/
def freeB (kp : Nat) (δ : Env) (i : Nat) : Bool := decide (kp ≤ i) || (match δ[i]? with
  | some (.ow _) => false
  | _ => true)
def wipeE (δ : Env) : List Nat → Env
  | [] => δ
  | v :: vs => (wipeE δ vs).set v .un
/-! ### operators -/
def binop : Bop → D → D → Option Val
  | .add, .int i, .int j => some (.dat (.int (i + j)))
  | .add, .str a, .str b => if a.length + b.length ≤ sizeLine then some (.dat (.str (a ++ b))) else none
  | .add, .list a, .list b => if a.length + b.length ≤ sizeLine then some (.new (.lst (a ++ b))) else none
  | .add, .tuple a, .tuple b => if a.length + b.length ≤ sizeLine then some (.dat (.tuple (a ++ b))) else none
  | .sub, .int i, .int j => some (.dat (.int (i - j)))
  | .mul, .int i, .int j => if (i.natAbs < 2 ^ 64 ∨ j.natAbs < 2 ^ 64) ∨ i.natAbs.log2 + j.natAbs.log2 < 1000000 then some (.dat (.int (i * j))) else none
  | .fdiv, .int i, .int j => if 0 < j ∧ j.natAbs.log2 < 9000 then some (.dat (.int (i / j))) else none
  | .mod, .int i, .int j => if 0 < j then some (.dat (.int (i % j))) else none
  | .pow, .int i, .int j => if 0 ≤ j ∧ j ≤ 1000000 ∧ i.natAbs < 2 ^ 64 then some (.dat (.int (i ^ j.toNat))) else none
  | _, _, _ => none
def plain2 (d e : D) : Bool := d.plain && e.plain && decide (min d.depth e.depth ≤ 60)
def orderd (d e : D) : Bool := PySem.W.alike d e && (match d with | .none => false | _ => true) && decide (min d.depth e.depth ≤ 60)
def memOk (d : D) (es : List D) : Bool := d.plain && PyData.plainAll es && decide (min (PyData.depthAll es) d.depth ≤ 60)
def mem (d : D) (es : List D) : Bool := es.any fun y => PyData.eqv y d
def isIn : D → D → Option Bool
  | d, .list es => if memOk d es = true then some (mem d es) else none
  | d, .tuple es => if memOk d es = true then some (mem d es) else none
  | .str c, .str z => match c.cps.toList with
    | [n] => some (decide (n ∈ z.cps.toList))
    | _ => none
  | _, _ => none
def cmpop : Cop → D → D → Option Bool
  | .eq, d, e => if plain2 d e = true then some (PyData.eqv d e) else none
  | .ne, d, e => if plain2 d e = true then some (!PyData.eqv d e) else none
  | .lt, d, e => if orderd d e = true then some (PySem.W.dataLt d e) else none
  | .gt, d, e => if orderd d e = true then some (PySem.W.dataLt e d) else none
  | .le, d, e => if orderd d e = true then some (!PySem.W.dataLt e d) else none
  | .ge, d, e => if orderd d e = true then some (!PySem.W.dataLt d e) else none
  | .isin, d, e => isIn d e
  | .notin, d, e => (isIn d e).map (! ·)
def truth : D → Option Bool
  | .none => some false
  | .bool b => some b
  | .int i => some (i != 0)
  | .str s => if s.length ≤ sizeLine then some (s.length != 0) else none
  | .list ds => some (!ds.isEmpty)
  | .tuple ds => some (!ds.isEmpty)
  | _ => none
def asInts : List D → Option (List Int)
  | [] => some []
  | .int i :: ds => (asInts ds).map (i :: ·)
  | _ => none
def asBools : List D → Option (List Bool)
  | [] => some []
  | .bool i :: ds => (asBools ds).map (i :: ·)
  | _ => none
def intsD (ns : List Int) : List D := ns.map PyData.int
/-- ints, ascending -/
def sortI (ns : List Int) : List Int := ns.mergeSort fun a b => decide (a ≤ b)
/-- each once -/
def uniqI : List Int → List Int
  | [] => []
  | n :: ns => if n ∈ ns then uniqI ns else n :: uniqI ns
/-- the first of the items whose length is the least -/
def lenD : D → Nat
  | .list es => es.length
  | .tuple es => es.length
  | _ => 0
def rowsD : List D → Bool
  | [] => true
  | .list _ :: ds => rowsD ds
  | .tuple _ :: ds => rowsD ds
  | _ => false
def minLenAt (ds : List D) : Nat := PySem.argBest (fun i j => decide ((lenD (ds.getD i .none) : Int) < (lenD (ds.getD j .none) : Int))) (ds.length - 1)
def fn : Fn → List D → Option Val
  | .len, [.list ds] => some (.dat (.int ds.length))
  | .len, [.tuple ds] => some (.dat (.int ds.length))
  | .len, [.str s] => if s.length ≤ sizeLine then some (.dat (.int s.length)) else none
  | .int, [.int i] => some (.dat (.int i))
  | .int, [.bool b] => some (.dat (.int (if b = true then 1 else 0)))
  | .abs, [.int i] => some (.dat (.int (if i < 0 then -i else i)))
  | .sum, [.list ds] => (asInts ds).map fun ns => .dat (.int ns.sum)
  | .min2, [.int i, .int j] => some (.dat (.int (if j < i then j else i)))
  | .max2, [.int i, .int j] => some (.dat (.int (if j > i then j else i)))
  | .any, [.list ds] => (asBools ds).map fun bs => .dat (.bool (bs.any id))
  | .all, [.list ds] => (asBools ds).map fun bs => .dat (.bool (bs.all id))
  | .tuple, [.list ds] => some (.dat (.tuple ds))
  | .tuple, [.tuple ds] => some (.dat (.tuple ds))
  | .list, [.list ds] => some (.new (.lst ds))
  | .list, [.tuple ds] => some (.new (.lst ds))
  | .repr, [d] => if d.showable = true ∧ d.depth ≤ 60 ∧ d.shown.length ≤ sizeLine then some (.dat (.str d.shown)) else none
  | .sorted, [.list ds] => (asInts ds).map fun ns => .new (.lst (intsD (sortI ns)))
  | .sorted, [.tuple ds] => (asInts ds).map fun ns => .new (.lst (intsD (sortI ns)))
  | .sortedSet, [.list ds] => (asInts ds).bind fun ns => if ns.length < 60 then some (.new (.lst (intsD (sortI (uniqI ns))))) else none
  | .sortedSet, [.tuple ds] => (asInts ds).bind fun ns => if ns.length < 60 then some (.new (.lst (intsD (sortI (uniqI ns))))) else none
  | .minLen, [.list ds] => if rowsD ds = true then (match ds with | [] => some (.dat .none) | _ => (ds[minLenAt ds]?).map .dat) else none
  | _, _ => none
def idxop : D → D → Option D
  | .list ds, .int i => L2.atI ds i
  | .tuple ds, .int i => L2.atI ds i
  | .str s, .int i => if s.length ≤ sizeLine then (L2.atI s.cps.toList i).map fun c => .str ⟨#[c]⟩ else none
  | _, _ => none
def cutD {α : Type} (xs : List α) (lo hi : Option Int) : List α := (xs.drop (HT.sIx xs.length 0 lo)).take (HT.sIx xs.length xs.length hi - HT.sIx xs.length 0 lo)
def sliop (lo hi : Option Int) : D → Option Val
  | .list ds => some (.new (.lst (cutD ds lo hi)))
  | .tuple ds => some (.dat (.tuple (cutD ds lo hi)))
  | .str s => if s.length ≤ sizeLine then some (.dat (.str (L2.cutS s lo hi))) else none
  | _ => none
def revop : D → Option Val
  | .list ds => some (.new (.lst ds.reverse))
  | _ => none
/-- a method on the list that is owned: what it gives, what the list is behind it -/
def mtop : Mt → List D → List D → Option (D × List D)
  | .append, ds, [d] => if ds.length < sizeLine then some (.none, ds ++ [d]) else none
  | .pop, ds, [] => (ds[ds.length - 1]?).map fun d => (d, ds.dropLast)
  | .insert, ds, [.int i, d] => if 0 ≤ i ∧ i < 2 ^ 63 ∧ ds.length < sizeLine then some (.none, ds.take i.toNat ++ [d] ++ ds.drop i.toNat) else none
  | _, _, _ => none
/-! ### targets -/
def bindAll (kp : Nat) : List Nat → List D → Env → Option Env
  | [], [], δ => some δ
  | i :: is, d :: ds, δ => if freeB kp δ i = true then bindAll kp is ds (δ.set i (.im d)) else none
  | _, _, _ => none
def bindT (kp : Nat) : Tg → D → Env → Option Env
  | .name i, d, δ => if freeB kp δ i = true then some (δ.set i (.im d)) else none
  | .tup is, .tuple ds, δ => bindAll kp is ds δ
  | _, _, _ => none
def optR {α : Type} (δ : Env) : Option α → R α
  | some a => .ok a δ
  | none => .no
/-- operators on what the values are now -/
def op1 {α : Type} (o : D → Option α) (x : Val) (δ : Env) : R α := optR δ ((cur δ x).bind o)
def op2 {α : Type} (o : D → D → Option α) (x y : Val) (δ : Env) : R α := optR δ ((cur δ x).bind fun d => (cur δ y).bind fun e => o d e)
def intD : D → Option Int
  | .int i => some i
  | _ => none
def isNoneD : D → Bool
  | .none => true
  | _ => false
def cmpV (o : Cop) (d e : D) : Option Val := (cmpop o d e).map fun b => .dat (.bool b)
def idxV (d e : D) : Option Val := (idxop d e).map .dat
def negV (d : D) : Option Val := (intD d).map fun i => .dat (.int (-i))
/-! ### expressions -/
/-- a comprehension's turns -/
def lcGo (kp : Nat) (g : Tg) (c : Env → R Bool) (e : Env → R D) (vs : List Nat) : List D → List D → Env → R (List D)
  | [], acc, δ => .ok acc δ
  | d :: ds, acc, δ => match bindT kp g d δ with
    | none => .no
    | some δ1 => (c δ1).bind fun b δ2 => if b = true then (e δ2).bind fun y δ3 => if acc.length < sizeLine then lcGo kp g c e vs ds (acc ++ [y]) (wipeE δ3 vs) else .no
      else lcGo kp g c e vs ds acc (wipeE δ2 vs)
def rngD (lo : Int) (n : Nat) : List D := (List.range n).map fun (i : Nat) => PyData.int (lo + (i : Int))
def rng1D : D → Option (List D)
  | .int j => if -(2 ^ 62) ≤ j ∧ j < 2 ^ 62 then some (rngD 0 j.toNat) else none
  | _ => none
def rng2D : D → D → Option (List D)
  | .int i, .int j => if -(2 ^ 62) ≤ i ∧ i < 2 ^ 62 ∧ -(2 ^ 62) ≤ j ∧ j < 2 ^ 62 then some (rngD i (j - i).toNat) else none
  | _, _ => none
def itemsD : D → Option (List D)
  | .list ds => some ds
  | .tuple ds => some ds
  | _ => none
/-- the slots of the arguments -/
def argSlot (δ : Env) : Val → Slot
  | .dat d => .im d
  | .own i => get δ i
  | .new o => .ow o
/-- the slots behind a call -/
def putBack (δ : Env) : List Val → Env → Env
  | .own i :: as, s :: ss => putBack (match δ[i]? with
    | some (.ow _) => δ.set i s
    | _ => δ) as ss
  | _ :: as, _ :: ss => putBack δ as ss
  | _, _ => δ
def ownIx : List Val → List Nat
  | [] => []
  | .own i :: as => i :: ownIx as
  | _ :: as => ownIx as
def callR (cr : CR) (as : List Val) (δ : Env) : R Val := match cr with
  | .ret (.dat d) ss => .ok (.dat d) (putBack δ as ss)
  | .ret (.new o) ss => .ok (.new o) (putBack δ as ss)
  | .ex c fs ss => .ex c fs (putBack δ as ss)
  | .no => .no
def mtR (m : Mt) (i : Nat) (ds : List D) (δ : Env) : R Val := match δ[i]? with
  | some (.ow (.lst xs)) => (match mtop m xs ds with
    | some (d, ys) => .ok (.dat d) (δ.set i (.ow (.lst ys)))
    | none => .no)
  | _ => .no
def extR (i : Nat) (v : Val) (δ : Env) : R Val := match δ[i]?, v with
  | some (.ow (.lst xs)), .new (.lst es) => if xs.length + es.length ≤ sizeLine then .ok (.dat .none) (δ.set i (.ow (.lst (xs ++ es)))) else .no
  | _, _ => .no
section
variable (C : Cfg)
mutual
def ev : CE → Env → R Val
  | .var i => fun δ => match δ[i]? with
    | some (.im d) => .ok (.dat d) δ
    | some (.ow _) => .ok (.own i) δ
    | _ => .no
  | .int i => fun δ => .ok (.dat (.int i)) δ
  | .str s => fun δ => .ok (.dat (.str s)) δ
  | .bool b => fun δ => .ok (.dat (.bool b)) δ
  | .none => fun δ => .ok (.dat .none) δ
  | .fz e => fun δ => (ev e δ).bind fun v δ1 => (dem C.kp v δ1).bind fun d δ2 => .ok (.dat d) δ2
  | .bin o a b => fun δ => (ev a δ).bind fun x δ1 => (ev b δ1).bind fun y δ2 => op2 (binop o) x y δ2
  | .neg a => fun δ => (ev a δ).bind fun x δ1 => op1 negV x δ1
  | .cmp o a b => fun δ => (ev a δ).bind fun x δ1 => (ev b δ1).bind fun y δ2 => op2 (cmpV o) x y δ2
  | .isN a => fun δ => (ev a δ).bind fun x δ1 => op1 (fun d => some (.dat (.bool (isNoneD d)))) x δ1
  | .notN a => fun δ => (ev a δ).bind fun x δ1 => op1 (fun d => some (.dat (.bool (!isNoneD d)))) x δ1
  | .not a => fun δ => (ev a δ).bind fun x δ1 => match x with
    | .dat (.bool b) => .ok (.dat (.bool (!b))) δ1
    | _ => .no
  | .and a b => fun δ => (ev a δ).bind fun x δ1 => match x with
    | .dat (.bool true) => ev b δ1
    | .dat (.bool false) => .ok (.dat (.bool false)) δ1
    | _ => .no
  | .or a b => fun δ => (ev a δ).bind fun x δ1 => match x with
    | .dat (.bool false) => ev b δ1
    | .dat (.bool true) => .ok (.dat (.bool true)) δ1
    | _ => .no
  | .ite c a b => fun δ => (evT c δ).bind fun k δ1 => if k = true then ev a δ1 else ev b δ1
  | .tup es => fun δ => (evD es δ).bind fun ds δ1 => if ds.length ≤ sizeLine then .ok (.dat (.tuple ds)) δ1 else .no
  | .lst es => fun δ => (evD es δ).bind fun ds δ1 => if ds.length ≤ sizeLine then .ok (.new (.lst ds)) δ1 else .no
  | .idx a b => fun δ => (ev a δ).bind fun x δ1 => (ev b δ1).bind fun y δ2 => op2 idxV x y δ2
  | .sli a lo hi => fun δ => (ev a δ).bind fun x δ1 => (evO lo δ1).bind fun l δ2 => (evO hi δ2).bind fun h δ3 => op1 (sliop l h) x δ3
  | .rev a => fun δ => (ev a δ).bind fun x δ1 => op1 revop x δ1
  | .call f es => fun δ => (evA es δ).bind fun as δ1 => if (ownIx as).Nodup then callR (C.call f (as.map (argSlot δ1))) as δ1 else .no
  | .bi f es => fun δ => (evA es δ).bind fun as δ1 => optR δ1 ((as.mapM (cur δ1)).bind (fn f))
  | .mt m i es => fun δ => match δ[i]? with
    | some (.ow (.lst _)) => (evD es δ).bind fun ds δ1 => mtR m i ds δ1
    | _ => .no
  | .ext i e => fun δ => match δ[i]? with
    | some (.ow (.lst _)) => (ev e δ).bind fun v δ1 => extR i v δ1
    | _ => .no
  | .lc e g it vs => fun δ => (evI it δ).bind fun ds δ1 => if vs.all (fun v => decide (C.kp ≤ v)) = true then
      (lcGo C.kp g (fun δ => .ok true δ) (fun δ => (ev e δ).bind (dem C.kp)) vs ds [] (wipeE δ1 vs)).bind fun ys δ2 => .ok (.new (.lst ys)) δ2 else .no
  | .lcIf e g it c vs => fun δ => (evI it δ).bind fun ds δ1 => if vs.all (fun v => decide (C.kp ≤ v)) = true then
      (lcGo C.kp g (evT c) (fun δ => (ev e δ).bind (dem C.kp)) vs ds [] (wipeE δ1 vs)).bind fun ys δ2 => .ok (.new (.lst ys)) δ2 else .no
/-- a test -/
def evT : CT → Env → R Bool
  | .tr e => fun δ => (ev e δ).bind fun v δ1 => op1 truth v δ1
  | .cmp o a b => fun δ => (ev a δ).bind fun x δ1 => (ev b δ1).bind fun y δ2 => op2 (cmpop o) x y δ2
  | .isN a => fun δ => (ev a δ).bind fun x δ1 => op1 (fun d => some (isNoneD d)) x δ1
  | .notN a => fun δ => (ev a δ).bind fun x δ1 => op1 (fun d => some (!isNoneD d)) x δ1
  | .not a => fun δ => (evT a δ).bind fun b δ1 => .ok (!b) δ1
  | .and a b => fun δ => (evT a δ).bind fun k δ1 => if k = true then evT b δ1 else .ok false δ1
  | .or a b => fun δ => (evT a δ).bind fun k δ1 => if k = true then .ok true δ1 else evT b δ1
/-- data, one after another -/
def evD : CEs → Env → R (List D)
  | .nil => fun δ => .ok [] δ
  | .cons e es => fun δ => (ev e δ).bind fun v δ1 => (dem C.kp v δ1).bind fun d δ2 => (evD es δ2).bind fun ds δ3 => .ok (d :: ds) δ3
/-- arguments -/
def evA : CEs → Env → R (List Val)
  | .nil => fun δ => .ok [] δ
  | .cons e es => fun δ => (ev e δ).bind fun v δ1 => (evA es δ1).bind fun vs δ2 => .ok (v :: vs) δ2
/-- a slice's part -/
def evO : CO → Env → R (Option Int)
  | .no => fun δ => .ok none δ
  | .yes e => fun δ => (ev e δ).bind fun v δ1 => op1 (fun d => (intD d).map some) v δ1
/-- what is walked -/
def evI : CI → Env → R (List D)
  | .of e => fun δ => (ev e δ).bind fun v δ1 => (dem C.kp v δ1).bind fun d δ2 => optR δ2 (itemsD d)
  | .rng1 e => fun δ => (ev e δ).bind fun v δ1 => op1 rng1D v δ1
  | .rng2 a b => fun δ => (ev a δ).bind fun v δ1 => (ev b δ1).bind fun u δ2 => op2 rng2D v u δ2
end
end
/-! ### statements -/
inductive Fl where
  | nx | rt (v : RV) | bk | ct
/-- the turns of a for -/
def forGo (kp : Nat) (g : Tg) (b : Env → R Fl) : List D → Env → R Fl
  | [], δ => .ok .nx δ
  | d :: ds, δ => match bindT kp g d δ with
    | none => .no
    | some δ1 => (b δ1).bind fun f δ2 => match f with
      | .nx => forGo kp g b ds δ2
      | .ct => forGo kp g b ds δ2
      | .bk => .ok .nx δ2
      | .rt v => .ok (.rt v) δ2
/-- the turns of a while: n is never reached -/
def whGo (c : Env → R Bool) (b : Env → R Fl) : Nat → Env → R Fl
  | 0, _ => .no
  | n + 1, δ => (c δ).bind fun k δ1 => if k = true then (b δ1).bind fun f δ2 => (match f with
      | .nx => whGo c b n δ2
      | .ct => whGo c b n δ2
      | .bk => .ok .nx δ2
      | .rt v => .ok (.rt v) δ2) else .ok .nx δ1
/-- more turns than any loop here takes -/
@[irreducible] def fuel : Nat := 10 ^ 30
theorem fuel_eq : fuel = 10 ^ 30 := by
  unfold fuel
  rfl
/-- what is returned -/
def retV (kp : Nat) (v : Val) (δ : Env) : R Fl := match v with
  | .dat d => .ok (.rt (.dat d)) δ
  | .new o => .ok (.rt (.new o)) δ
  | .own i => match δ[i]? with
    | some (.im d) => .ok (.rt (.dat d)) δ
    | some (.ow o) => if kp ≤ i then .ok (.rt (.new o)) δ else .no
    | _ => .no
/-- a store to a name -/
def setV (kp i : Nat) (v : Val) (δ1 : Env) : R Fl := match v with
    | .dat d => if freeB kp δ1 i = true then .ok .nx (δ1.set i (.im d)) else .no
    | .new o => if freeB kp δ1 i = true then .ok .nx (δ1.set i (.ow o)) else .no
    | .own j => (dem kp (.own j) δ1).bind fun d δ2 => if freeB kp δ2 i = true then .ok .nx (δ2.set i (.im d)) else .no
/-- a store to an item -/
def setIR (i : Nat) (d : D) (n : Int) (δ4 : Env) : R Fl := match δ4[i]? with
    | some (.ow (.lst ds)) => (match L2.ixN ds.length n with
      | some j => .ok .nx (δ4.set i (.ow (.lst (ds.set j d))))
      | none => .no)
    | _ => .no
section
variable (C : Cfg)
mutual
def ex : CS → Env → R Fl
  | .pass => fun δ => .ok .nx δ
  | .set (.name i) e => fun δ => (ev C e δ).bind fun v δ1 => setV C.kp i v δ1
  | .set (.tup is) e => fun δ => (ev C e δ).bind fun v δ1 => (dem C.kp v δ1).bind fun d δ2 => (optR δ2 (bindT C.kp (.tup is) d δ2)).bind fun δ3 _ => .ok .nx δ3
  | .setI i e1 e2 => fun δ => (ev C e2 δ).bind fun v δ1 => (dem C.kp v δ1).bind fun d δ2 => match δ2[i]? with
    | some (.ow (.lst _)) => (ev C e1 δ2).bind fun k δ3 => (op1 intD k δ3).bind fun n δ4 => setIR i d n δ4
    | _ => .no
  | .exp e => fun δ => (ev C e δ).bind fun _ δ1 => .ok .nx δ1
  | .ret e => fun δ => (ev C e δ).bind fun v δ1 => retV C.kp v δ1
  | .retN => fun δ => .ok (.rt (.dat .none)) δ
  | .cond c a b => fun δ => (evT C c δ).bind fun k δ1 => if k = true then exs a δ1 else exs b δ1
  | .wh c a => fun δ => whGo (evT C c) (exs a) fuel δ
  | .loop g it a => fun δ => (evI C it δ).bind fun ds δ1 => forGo C.kp g (exs a) ds δ1
  | .brk => fun δ => .ok .bk δ
  | .cont => fun δ => .ok .ct δ
def exs : CB → Env → R Fl
  | .nil => fun δ => .ok .nx δ
  | .cons s b => fun δ => (ex s δ).bind fun f δ1 => match f with
    | .nx => exs b δ1
    | f => .ok f δ1
end
end
/-! ### defs -/
structure Def where
  /-- names: the parameters first -/
  kp : Nat
  ns : Nat
  body : CB
/-- of the parameters: what is owned, as it is now; the rest as it came -/
def backE : Env → Env → Env
  | .ow _ :: δ, s :: δ' => s :: backE δ δ'
  | s :: δ, _ :: δ' => s :: backE δ δ'
  | δ, _ => δ
def runDef (call : Nat → Env → CR) (d : Def) (δ : Env) : CR := if δ.length = d.kp then
    (match exs ⟨d.kp, call⟩ d.body (δ ++ List.replicate (d.ns - d.kp) .un) with
    | .ok .nx δ' => .ret (.dat .none) (backE δ δ')
    | .ok (.rt v) δ' => .ret v (backE δ δ')
    | .ok _ _ => .no
    | .ex c fs δ' => .ex c fs (backE δ δ')
    | .no => .no) else .no
/-- the defs, each call one level down -/
def tbl (defs : List Def) : Nat → Nat → Env → CR
  | 0, _, _ => .no
  | n + 1, f, δ => match defs[f]? with
    | some d => runDef (tbl defs n) d δ
    | none => .no
end IL
end
section
set_option Elab.async false
set_option linter.all false
set_option maxRecDepth 100000
set_option maxHeartbeats 1000000
/-! J1: the state of the calculus: data that stays, things that slots own, above the hand layer's heap. -/
namespace J
open PySem L2
abbrev Ex := Evl.Ex
abbrev St := L2.St
end J
namespace L2
open PySem
open J (Ex)
/-! ### data stays -/
section
variable {K : PySem.W.Frag} {H H' : Hp}
mutual
theorem Dp.ex (e : Ex H H') : ∀ (d : PyData) (v : V), Dp K H v d → Dp K H' v d
  | .none, _, h => by cases h; exact .non
  | .bool b, _, h => by cases h; exact .bl b
  | .int i, _, h => by cases h; exact .int i
  | .str x, _, h => by cases h; exact .str x
  | .list ds, _, h => by
    cases h with
    | lst hs ha => exact .lst (Evl.ex_l e hs) (DpAll.ex e ds _ ha)
  | .tuple ds, _, h => by
    cases h with
    | tup hs ha => exact .tup (Evl.ex_t e hs) (DpAll.ex e ds _ ha)
  | .dict _, _, h => by cases h
theorem DpAll.ex (e : Ex H H') : ∀ (ds : List PyData) (vs : List V), DpAll K H vs ds → DpAll K H' vs ds
  | [], _, h => by cases h; exact .nil
  | d :: ds, _, h => by
    cases h with
    | cons h1 h2 => exact .cons (Dp.ex e d _ h1) (DpAll.ex e ds _ h2)
end
theorem DpAll.length : ∀ {vs : List V} {ds : List PyData}, DpAll K H vs ds → vs.length = ds.length
  | _, _, .nil => rfl
  | _, _, .cons _ t => congrArg (· + 1) (DpAll.length t)
theorem DpAll.get : ∀ {vs : List V} {ds : List PyData}, DpAll K H vs ds → ∀ {i : Nat} {d : PyData}, ds[i]? = some d → ∃ v, vs[i]? = some v ∧ Dp K H v d
  | _, _, .nil, i, d, h => by simp at h
  | _, _, .cons h1 t, 0, d, h => by
    simp at h
    subst h
    exact ⟨_, rfl, h1⟩
  | _, _, .cons h1 t, i + 1, d, h => by
    obtain ⟨v, e, hv⟩ := DpAll.get t (i := i) (d := d) (by simpa using h)
    exact ⟨v, by simpa using e, hv⟩
theorem DpAll.getV : ∀ {vs : List V} {ds : List PyData}, DpAll K H vs ds → ∀ {i : Nat} {v : V}, vs[i]? = some v → ∃ d, ds[i]? = some d ∧ Dp K H v d
  | _, _, .nil, i, v, h => by simp at h
  | _, _, .cons h1 t, 0, v, h => by
    simp at h
    subst h
    exact ⟨_, rfl, h1⟩
  | _, _, .cons h1 t, i + 1, v, h => by
    obtain ⟨d, e, hv⟩ := DpAll.getV t (i := i) (v := v) (by simpa using h)
    exact ⟨d, by simpa using e, hv⟩
theorem DpAll.append : ∀ {vs ws : List V} {ds es : List PyData}, DpAll K H vs ds → DpAll K H ws es → DpAll K H (vs ++ ws) (ds ++ es)
  | _, _, _, _, .nil, s => s
  | _, _, _, _, .cons h t, s => .cons h (DpAll.append t s)
theorem DpAll.one {v : V} {d : PyData} (h : Dp K H v d) : DpAll K H [v] [d] := .cons h .nil
theorem DpAll.set : ∀ {vs : List V} {ds : List PyData} {v : V} {d : PyData} (i : Nat), Dp K H v d → DpAll K H vs ds → DpAll K H (vs.set i v) (ds.set i d)
  | _, _, _, _, _, _, .nil => .nil
  | _, _, _, _, 0, h, .cons _ t => .cons h t
  | _, _, _, _, i + 1, h, .cons q t => .cons q (DpAll.set i h t)
theorem DpAll.take : ∀ {vs : List V} {ds : List PyData} (n : Nat), DpAll K H vs ds → DpAll K H (vs.take n) (ds.take n)
  | _, _, 0, _ => .nil
  | _, _, _ + 1, .nil => .nil
  | _, _, n + 1, .cons r t => .cons r (DpAll.take n t)
theorem DpAll.drop : ∀ {vs : List V} {ds : List PyData} (n : Nat), DpAll K H vs ds → DpAll K H (vs.drop n) (ds.drop n)
  | _, _, 0, r => r
  | _, _, _ + 1, .nil => .nil
  | _, _, n + 1, .cons _ t => DpAll.drop n t
theorem DpAll.reverse : ∀ {vs : List V} {ds : List PyData}, DpAll K H vs ds → DpAll K H vs.reverse ds.reverse
  | _, _, .nil => .nil
  | _, _, .cons h t => by
    rw [List.reverse_cons, List.reverse_cons]
    exact (DpAll.reverse t).append (.one h)
theorem Dp.int_of {v : V} {i : Int} (h : Dp K H v (.int i)) : v = .int i := by cases h; rfl
theorem Dp.bool_of {v : V} {b : Bool} (h : Dp K H v (.bool b)) : v = .bl b := by cases h; rfl
theorem Dp.str_of {v : V} {x : Str} (h : Dp K H v (.str x)) : v = .str x := by cases h; rfl
theorem Dp.none_of {v : V} (h : Dp K H v .none) : v = .non := by cases h; rfl
theorem Dp.list_of {v : V} {ds : List PyData} (h : Dp K H v (.list ds)) : ∃ a vs, v = .ref a ∧ SqL K H a vs ∧ DpAll K H vs ds := by
  cases h with
  | lst h1 h2 => exact ⟨_, _, rfl, h1, h2⟩
theorem Dp.tuple_of {v : V} {ds : List PyData} (h : Dp K H v (.tuple ds)) : ∃ a vs, v = .ref a ∧ SqT K H a vs ∧ DpAll K H vs ds := by
  cases h with
  | tup h1 h2 => exact ⟨_, _, rfl, h1, h2⟩
theorem DpAll.ints : ∀ {vs : List V} {ns : List Int}, DpAll K H vs (ns.map PyData.int) → vs = ns.map V.int
  | _, [], h => by cases h; rfl
  | _, n :: ns, h => by
    cases h with
    | cons h1 h2 =>
      rw [Dp.int_of h1, DpAll.ints h2]
      rfl
theorem DpAll.of_ints : ∀ (ns : List Int), DpAll K H (ns.map V.int) (ns.map PyData.int)
  | [] => .nil
  | n :: ns => .cons (.int n) (DpAll.of_ints ns)
theorem DpAll.bools : ∀ {vs : List V} {ns : List Bool}, DpAll K H vs (ns.map PyData.bool) → vs = ns.map V.bl
  | _, [], h => by cases h; rfl
  | _, n :: ns, h => by
    cases h with
    | cons h1 h2 =>
      rw [Dp.bool_of h1, DpAll.bools h2]
      rfl
theorem DpAll.strs : ∀ {vs : List V} {ns : List Str}, DpAll K H vs (ns.map PyData.str) → vs = ns.map V.str
  | _, [], h => by cases h; rfl
  | _, n :: ns, h => by
    cases h with
    | cons h1 h2 =>
      rw [Dp.str_of h1, DpAll.strs h2]
      rfl
end

end L2
namespace J
open PySem L2
open IL (D Ow Slot)
abbrev Env := IL.Env
/-! ### the state -/
def OwR (K : PySem.W.Frag) (G : Hp) : Ow → HO → Prop
  | .lst ds, ho => ∃ vs, ho = .lst vs ∧ DpAll K G vs ds
  | .dct kvs, ho => ∃ ws, ho = .dK ws ∧ Paired (fun (p : Key × V) (q : Key × PyData) => p.1 = q.1 ∧ Dp K G p.2 q.2) ws kvs
theorem OwR.ex {K : PySem.W.Frag} {G G' : Hp} (e : Ex G G') : ∀ {o : Ow} {ho : HO}, OwR K G o ho → OwR K G' o ho
  | .lst _, _, ⟨vs, h, a⟩ => ⟨vs, h, DpAll.ex e _ _ a⟩
  | .dct _, _, ⟨ws, h, a⟩ => ⟨ws, h, Paired.mapP a fun _ _ z => ⟨z.1, Dp.ex e _ _ z.2⟩⟩
def SlotR (K : PySem.W.Frag) (G H : Hp) : Slot → Option (Option V) → Prop
  | .un, _ => True
  | .im d, v => ∃ u, v = some (some u) ∧ Dp K G u d
  | .ow o, v => ∃ l ho, v = some (some (.ref l)) ∧ G l = none ∧ H l = some ho ∧ OwR K G o ho
/-- slot i owns the thing at l -/
def OwnAt (δ : Env) (σ : St) (i : Nat) (l : Addr) : Prop := (∃ o, δ[i]? = some (.ow o)) ∧ σ[i]? = some (some (.ref l))
def Own (δ : Env) (σ : St) (l : Addr) : Prop := ∃ i, OwnAt δ σ i l
structure Stt (K : PySem.W.Frag) (δ : Env) (σ : St) (G H : Hp) : Prop where
  gh : Ex G H
  env : ∀ (i : Nat) (s : Slot), δ[i]? = some s → SlotR K G H s σ[i]?
  dis : ∀ (i j : Nat) (l : Addr), OwnAt δ σ i l → OwnAt δ σ j l → i = j
  len : δ.length = σ.length
/-- what may have happened: M may have changed, the rest stays; new things came -/
structure Nx (M : Addr → Prop) (G H G' H' : Hp) : Prop where
  gg : Ex G G'
  hh : ∀ a o, ¬ M a → H a = some o → H' a = some o
  fr : ∀ a o, ¬ M a → H a = some o → G' a = G a
  dom : ∀ a o, H a = some o → ∃ o', H' a = some o'
theorem Nx.refl {M : Addr → Prop} {G H : Hp} : Nx M G H G H := ⟨Evl.Ex.refl G, fun _ _ _ h => h, fun _ _ _ _ => rfl, fun _ o h => ⟨o, h⟩⟩
theorem Nx.trans {M M' : Addr → Prop} {G H G1 H1 G2 H2 : Hp} (a : Nx M G H G1 H1) (b : Nx M' G1 H1 G2 H2) (s : ∀ l, M' l → M l ∨ H l = none) : Nx M G H G2 H2 := by
  have nm : ∀ x o, ¬ M x → H x = some o → ¬ M' x := fun x o hx e hm => by
    rcases s x hm with z | z
    · exact hx z
    · rw [z] at e; cases e
  refine ⟨a.gg.trans b.gg, fun x o hx e => b.hh x o (nm x o hx e) (a.hh x o hx e), fun x o hx e => ?_, fun x o e => ?_⟩
  · rw [b.fr x o (nm x o hx e) (a.hh x o hx e), a.fr x o hx e]
  · obtain ⟨o1, e1⟩ := a.dom x o e
    exact b.dom x o1 e1
theorem Nx.mono {M M' : Addr → Prop} {G H G' H' : Hp} (a : Nx M G H G' H') (s : ∀ l, M l → M' l) : Nx M' G H G' H' :=
  ⟨a.gg, fun x o hx => a.hh x o fun z => hx (s x z), fun x o hx => a.fr x o fun z => hx (s x z), a.dom⟩
theorem Nx.noneOf {M : Addr → Prop} {G H G' H' : Hp} (a : Nx M G H G' H') {l : Addr} (h : H' l = none) : H l = none := by
  cases e : H l with
  | none => rfl
  | some o =>
    obtain ⟨o', e'⟩ := a.dom l o e
    rw [e'] at h; cases h
section
variable {K : PySem.W.Frag} {δ : Env} {σ : St} {G H : Hp}
theorem Stt.own (S : Stt K δ σ G H) {l : Addr} (h : Own δ σ l) : G l = none ∧ ∃ ho, H l = some ho := by
  obtain ⟨i, ⟨o, e⟩, e2⟩ := h
  obtain ⟨l', ho, q1, q2, q3, _⟩ := S.env i _ e
  rw [e2] at q1
  cases q1
  exact ⟨q2, ho, q3⟩
theorem Stt.gnone (S : Stt K δ σ G H) {p : Addr} (h : H p = none) : G p = none := by
  cases e : G p with
  | none => rfl
  | some o => rw [S.gh p o e] at h; cases h
/-- the same things, a later heap, in which what is owned is as it was -/
theorem Stt.next {G' H' : Hp} (S : Stt K δ σ G H) (gg : Ex G G') (gh : Ex G' H') (ho : ∀ l, Own δ σ l → G' l = none ∧ H' l = H l) : Stt K δ σ G' H' := by
  refine ⟨gh, fun i s e => ?_, S.dis, S.len⟩
  have q := S.env i s e
  cases s with
  | un => trivial
  | im d => obtain ⟨u, a, b⟩ := q; exact ⟨u, a, Dp.ex gg _ _ b⟩
  | ow o =>
    obtain ⟨l, z, a, b, c, d⟩ := q
    obtain ⟨o1, o2⟩ := ho l ⟨i, ⟨o, e⟩, a⟩
    exact ⟨l, z, a, o1, by rw [o2]; exact c, d.ex gg⟩
/-- a new thing that will stay -/
theorem Stt.alloc {p : Addr} {o : HO} (S : Stt K δ σ G H) (hp : H p = none) : Stt K δ σ (upd G p o) (upd H p o) ∧ Nx (Own δ σ) G H (upd G p o) (upd H p o) := by
  have gp := S.gnone hp
  have ne : ∀ a x, H a = some x → a ≠ p := fun a x e => ne_of_none e hp
  refine ⟨S.next (Evl.Ex.new gp) (fun a x e => ?_) (fun l hl => ?_), ⟨Evl.Ex.new gp, fun a x _ e => ?_, fun a x _ e => ?_, fun a x e => ?_⟩⟩
  · by_cases h : a = p
    · subst h; rw [upd_same] at e ⊢; exact e
    · rw [upd_ne h] at e ⊢; exact S.gh a x e
  · obtain ⟨a, x, b⟩ := S.own hl
    have h := ne _ _ b
    exact ⟨by rw [upd_ne h]; exact a, by rw [upd_ne h]⟩
  · rw [upd_ne (ne a x e)]; exact e
  · rw [upd_ne (ne a x e)]
  · exact ⟨x, by rw [upd_ne (ne a x e)]; exact e⟩
/-- a new thing that H alone knows -/
theorem Stt.fresh {p : Addr} {o : HO} (S : Stt K δ σ G H) (hp : H p = none) : Stt K δ σ G (upd H p o) ∧ Nx (Own δ σ) G H G (upd H p o) := by
  have ne : ∀ a x, H a = some x → a ≠ p := fun a x e => ne_of_none e hp
  refine ⟨S.next (Evl.Ex.refl G) (fun a x e => ?_) (fun l hl => ?_), ⟨Evl.Ex.refl G, fun a x _ e => ?_, fun a x _ e => rfl, fun a x e => ?_⟩⟩
  · rw [upd_ne (ne _ _ (S.gh a x e))]; exact S.gh a x e
  · obtain ⟨a, x, b⟩ := S.own hl
    exact ⟨a, by rw [upd_ne (ne _ _ b)]⟩
  · rw [upd_ne (ne a x e)]; exact e
  · exact ⟨x, by rw [upd_ne (ne a x e)]; exact e⟩
/-- what H alone knew stays from now on -/
theorem Stt.freeze {p : Addr} {o : HO} (S : Stt K δ σ G H) (gp : G p = none) (hp : H p = some o) (hn : ¬ Own δ σ p) : Stt K δ σ (upd G p o) H := by
  refine S.next (Evl.Ex.new gp) (fun a x e => ?_) (fun l hl => ⟨?_, rfl⟩)
  · by_cases h : a = p
    · subst h; rw [upd_same] at e; rw [hp]; exact e
    · rw [upd_ne h] at e; exact S.gh a x e
  · have h : l ≠ p := fun z => hn (z ▸ hl)
    rw [upd_ne h]
    exact (S.own hl).1
theorem get_set {α : Type} {l : List α} {i j : Nat} {x y : α} (h : (l.set i x)[j]? = some y) : (i = j ∧ y = x) ∨ (i ≠ j ∧ l[j]? = some y) := by
  rw [List.getElem?_set] at h
  split at h
  · rename_i e
    split at h
    · exact .inl ⟨e, (Option.some.inj h).symm⟩
    · cases h
  · rename_i e
    exact .inr ⟨e, h⟩
/-- data at a slot -/
theorem Stt.put {i : Nat} {v : V} {d : PyData} (S : Stt K δ σ G H) (hd : Dp K G v d) : Stt K (δ.set i (.im d)) (σ.set i (some v)) G H ∧ ∀ l, Own (δ.set i (.im d)) (σ.set i (some v)) l → Own δ σ l := by
  have back : ∀ j l, OwnAt (δ.set i (.im d)) (σ.set i (some v)) j l → OwnAt δ σ j l := fun j l ⟨⟨o, e⟩, e2⟩ => by
    rcases get_set e with ⟨_, z⟩ | ⟨h, z⟩
    · cases z
    · rw [List.getElem?_set_ne h] at e2
      exact ⟨⟨o, z⟩, e2⟩
  refine ⟨⟨S.gh, fun j s e => ?_, fun a b l h1 h2 => S.dis a b l (back _ _ h1) (back _ _ h2), by rw [List.length_set, List.length_set]; exact S.len⟩, fun l ⟨j, h⟩ => ⟨j, back j l h⟩⟩
  rcases get_set e with ⟨h, z⟩ | ⟨h, z⟩
  · subst h
    subst z
    have hi : i < σ.length := by
      rw [← S.len]
      have q := (List.getElem?_eq_some_iff.mp e).1
      rw [List.length_set] at q
      exact q
    exact ⟨v, by rw [List.getElem?_set_self hi], hd⟩
  · rw [List.getElem?_set_ne h]
    exact S.env j s z
/-- nothing known of a slot from now on -/
theorem Stt.unk {i : Nat} {v : Option V} (S : Stt K δ σ G H) : Stt K (δ.set i .un) (σ.set i v) G H ∧ ∀ l, Own (δ.set i .un) (σ.set i v) l → Own δ σ l := by
  have back : ∀ j l, OwnAt (δ.set i .un) (σ.set i v) j l → OwnAt δ σ j l := fun j l ⟨⟨o, e⟩, e2⟩ => by
    rcases get_set e with ⟨_, z⟩ | ⟨h, z⟩
    · cases z
    · rw [List.getElem?_set_ne h] at e2
      exact ⟨⟨o, z⟩, e2⟩
  refine ⟨⟨S.gh, fun j s e => ?_, fun a b l h1 h2 => S.dis a b l (back _ _ h1) (back _ _ h2), by rw [List.length_set, List.length_set]; exact S.len⟩, fun l ⟨j, h⟩ => ⟨j, back j l h⟩⟩
  rcases get_set e with ⟨h, z⟩ | ⟨h, z⟩
  · subst z
    trivial
  · rw [List.getElem?_set_ne h]
    exact S.env j s z
/-- an owned thing at a slot, new to all others -/
theorem Stt.putOwn {i : Nat} {l : Addr} {o : Ow} {ho : HO} (S : Stt K δ σ G H) (gl : G l = none) (hl : H l = some ho) (r : OwR K G o ho) (hn : ¬ Own δ σ l) :
    Stt K (δ.set i (.ow o)) (σ.set i (some (.ref l))) G H ∧ ∀ x, Own (δ.set i (.ow o)) (σ.set i (some (.ref l))) x → Own δ σ x ∨ x = l := by
  have back : ∀ j x, OwnAt (δ.set i (.ow o)) (σ.set i (some (.ref l))) j x → (i ≠ j ∧ OwnAt δ σ j x) ∨ (i = j ∧ x = l) := fun j x ⟨⟨o', e⟩, e2⟩ => by
    rcases get_set e with ⟨h, z⟩ | ⟨h, z⟩
    · rcases get_set e2 with ⟨_, z2⟩ | ⟨h2, _⟩
      · cases z2
        exact .inr ⟨h, rfl⟩
      · exact absurd h h2
    · rw [List.getElem?_set_ne h] at e2
      exact .inl ⟨h, ⟨o', z⟩, e2⟩
  refine ⟨⟨S.gh, fun j s e => ?_, fun a b x h1 h2 => ?_, by rw [List.length_set, List.length_set]; exact S.len⟩, fun x ⟨j, h⟩ => ?_⟩
  · rcases get_set e with ⟨h, z⟩ | ⟨h, z⟩
    · subst h
      subst z
      have hi : i < σ.length := by
        rw [← S.len]
        have q := (List.getElem?_eq_some_iff.mp e).1
        rw [List.length_set] at q
        exact q
      exact ⟨l, ho, by rw [List.getElem?_set_self hi], gl, hl, r⟩
    · rw [List.getElem?_set_ne h]
      exact S.env j s z
  · rcases back a x h1 with ⟨_, q1⟩ | ⟨q1, z1⟩
    · rcases back b x h2 with ⟨_, q2⟩ | ⟨q2, z2⟩
      · exact S.dis a b x q1 q2
      · exact absurd ⟨a, z2 ▸ q1⟩ hn
    · rcases back b x h2 with ⟨_, q2⟩ | ⟨q2, _⟩
      · exact absurd ⟨b, z1 ▸ q2⟩ hn
      · exact q1.symm.trans q2
  · rcases back j x h with ⟨_, q⟩ | ⟨_, q⟩
    · exact .inl ⟨j, q⟩
    · exact .inr q
/-- an owned thing changes -/
theorem Stt.mut {i : Nat} {l : Addr} {o : Ow} {ho : HO} (S : Stt K δ σ G H) (ha : OwnAt δ σ i l) (r : OwR K G o ho) :
    Stt K (δ.set i (.ow o)) σ G (upd H l ho) ∧ Nx (Own δ σ) G H G (upd H l ho) ∧ ∀ x, Own (δ.set i (.ow o)) σ x → Own δ σ x := by
  obtain ⟨gl, h0, hl⟩ := S.own ⟨i, ha⟩
  obtain ⟨⟨o0, e0⟩, e1⟩ := ha
  have back : ∀ j x, OwnAt (δ.set i (.ow o)) σ j x → OwnAt δ σ j x := fun j x ⟨⟨o', e⟩, e2⟩ => by
    rcases get_set e with ⟨h, z⟩ | ⟨h, z⟩
    · subst h
      exact ⟨⟨o0, e0⟩, e2⟩
    · exact ⟨⟨o', z⟩, e2⟩
  have ne : ∀ a x, ¬ Own δ σ a → H a = some x → a ≠ l := fun a x hm _ z => hm (z ▸ ⟨i, ⟨o0, e0⟩, e1⟩)
  refine ⟨⟨fun a x e => ?_, fun j s e => ?_, fun a b x h1 h2 => S.dis a b x (back _ _ h1) (back _ _ h2), by rw [List.length_set]; exact S.len⟩, ⟨Evl.Ex.refl G, fun a x hm e => by rw [upd_ne (ne a x hm e)]; exact e, fun _ _ _ _ => rfl, fun a x e => ?_⟩, fun x ⟨j, h⟩ => ⟨j, back j x h⟩⟩
  · rw [upd_ne (ne_of_none e gl)]
    exact S.gh a x e
  · rcases get_set e with ⟨h, z⟩ | ⟨h, z⟩
    · subst h
      subst z
      exact ⟨l, ho, e1, gl, upd_same, r⟩
    · have q := S.env j s z
      cases s with
      | un => trivial
      | im d => exact q
      | ow o' =>
        obtain ⟨l', z', a, b, c, d⟩ := q
        have hne : l' ≠ l := fun w => h (S.dis i j l ⟨⟨o0, e0⟩, e1⟩ ⟨⟨o', z⟩, w ▸ a⟩)
        exact ⟨l', z', a, b, by rw [upd_ne hne]; exact c, d⟩
  · by_cases h : a = l
    · subst h; exact ⟨ho, upd_same⟩
    · exact ⟨x, by rw [upd_ne h]; exact e⟩
end
end J
end
section
set_option Elab.async false
set_option linter.all false
set_option maxRecDepth 100000
set_option maxHeartbeats 1000000
/-! J2: the judgements that tie a reading to what the small language does; expressions. -/
namespace J
open PySem L2
open IL (D Ow Slot Val CR RV Fl)

structure Ctx where
  K : PySem.W.Frag
  kp : Nat

/-- from one state to a later one -/
structure Aft (C : Ctx) (δ : Env) (σ : St) (G H : Hp) (δ' : Env) (σ' : St) (G' H' : Hp) : Prop where
  st : Stt C.K δ' σ' G' H'
  nx : Nx (Own δ σ) G H G' H'
  ow : ∀ l, Own δ' σ' l → Own δ σ l ∨ H l = none
  kp : ∀ (i : Nat) (l : Addr), i < C.kp → OwnAt δ σ i l → OwnAt δ' σ' i l
  ln : δ'.length = δ.length
section
variable {C : Ctx} {δ δ' δ1 δ2 : Env} {σ σ' σ1 : St} {G H G' H' G1 H1 G2 H2 : Hp}
theorem Aft.refl (S : Stt C.K δ σ G H) : Aft C δ σ G H δ σ G H := ⟨S, Nx.refl, fun _ h => .inl h, fun _ _ _ h => h, rfl⟩
theorem Aft.trans (a : Aft C δ σ G H δ1 σ1 G1 H1) (b : Aft C δ1 σ1 G1 H1 δ' σ' G' H') : Aft C δ σ G H δ' σ' G' H' :=
  ⟨b.st, a.nx.trans b.nx a.ow, fun l h => by
    rcases b.ow l h with z | z
    · exact a.ow l z
    · exact .inr (a.nx.noneOf z), fun i l hi h => b.kp i l hi (a.kp i l hi h), b.ln.trans a.ln⟩
end
/-- how a value stands: H0 the heap ahead of it -/
def ValR (K : PySem.W.Frag) (σ : St) (δ : Env) (H0 G H : Hp) : V → Val → Prop
  | v, .dat d => Dp K G v d
  | v, .own i => σ[i]? = some (some v)
  | v, .new o => ∃ l ho, v = .ref l ∧ H0 l = none ∧ G l = none ∧ H l = some ho ∧ ¬ Own δ σ l ∧ OwR K G o ho
/-- values in a row, the new ones apart -/
def ValsR (K : PySem.W.Frag) (σ : St) (δ : Env) (H0 G H : Hp) : List V → List Val → Prop
  | [], [] => True
  | v :: vs, a :: as => ValR K σ δ H0 G H v a ∧ ValsR K σ δ H0 G H vs as ∧ ∀ (o : Ow), a = .new o → ∀ (k : Nat) (o' : Ow), as[k]? = some (.new o') → vs[k]? ≠ some v
  | _, _ => False
section
variable {α β : Type}
abbrev Rel (α β : Type) := St → Env → Hp → Hp → Hp → β → α → Prop
/-- a relation that an earlier start serves, too -/
def Back (rel : Rel α β) : Prop := ∀ σ δ H0 H1 G H v a, (∀ l, H1 l = none → H0 l = none) → rel σ δ H1 G H v a → rel σ δ H0 G H v a
def relV (K : PySem.W.Frag) : Rel Val V := fun σ δ H0 G H v a => ValR K σ δ H0 G H v a
def relVs (K : PySem.W.Frag) : Rel (List Val) (List V) := fun σ δ H0 G H v a => ValsR K σ δ H0 G H v a
def relD (K : PySem.W.Frag) : Rel D V := fun _ _ _ G _ v a => Dp K G v a
def relDs (K : PySem.W.Frag) : Rel (List D) (List V) := fun _ _ _ G _ v a => DpAll K G v a
def relE (α : Type) : Rel α α := fun _ _ _ _ _ v a => v = a
theorem back_V {K : PySem.W.Frag} : Back (relV K) := fun σ δ H0 H1 G H v a h r => by
  cases a with
  | dat d => exact r
  | own i => exact r
  | new o =>
    obtain ⟨l, ho, a, b, c⟩ := r
    exact ⟨l, ho, a, h l b, c⟩
theorem back_Vs {K : PySem.W.Frag} : Back (relVs K) := fun σ δ H0 H1 G H vs as h r => by
  induction vs generalizing as with
  | nil =>
    cases as with
    | nil => exact r
    | cons a as => exact r
  | cons v vs ih =>
    cases as with
    | nil => exact r
    | cons a as => exact ⟨back_V σ δ H0 H1 G H v a h r.1, ih as r.2.1, r.2.2⟩
theorem back_D {K : PySem.W.Frag} : Back (relD K) := fun _ _ _ _ _ _ _ _ _ r => r
theorem back_Ds {K : PySem.W.Frag} : Back (relDs K) := fun _ _ _ _ _ _ _ _ _ r => r
theorem back_E : Back (relE α) := fun _ _ _ _ _ _ _ _ _ r => r
/-- what is asked of Q where the answer is r -/
def Want (rel : Rel α β) (C : Ctx) (δ : Env) (σ : St) (G H : Hp) (r : IL.R α) (Q : β → Hp → Prop) : Prop := match r with
  | .ok a δ' => ∀ v G' H', Aft C δ σ G H δ' σ G' H' → rel σ δ' H G' H' v a → Q v H'
  | .ex _ _ _ => False
  | .no => False
/-- the reading t does what f says -/
def JE (rel : Rel α β) (C : Ctx) (t : St → Hp → (β → Hp → Prop) → Prop) (f : Env → IL.R α) : Prop :=
  ∀ δ σ G H, Stt C.K δ σ G H → ∀ Q, Want rel C δ σ G H (f δ) Q → t σ H Q
def WantS (C : Ctx) (δ : Env) (σ : St) (G H : Hp) (r : IL.R Fl) (De : Ends) : Prop := match r with
  | .ok .nx δ' => ∀ σ' G' H', Aft C δ σ G H δ' σ' G' H' → De.nx σ' H'
  | .ok .bk δ' => ∀ σ' G' H', Aft C δ σ G H δ' σ' G' H' → De.bk σ' H'
  | .ok .ct δ' => ∀ σ' G' H', Aft C δ σ G H δ' σ' G' H' → De.ct σ' H'
  | .ok (.rt (.dat d)) δ' => ∀ v σ' G' H', Aft C δ σ G H δ' σ' G' H' → Dp C.K G' v d → De.rt v H'
  | .ok (.rt (.new o)) δ' => ∀ l ho σ' G' H', Aft C δ σ G H δ' σ' G' H' → ((∃ i, C.kp ≤ i ∧ OwnAt δ σ i l) ∨ H l = none) → (∀ i, i < C.kp → ¬ OwnAt δ' σ' i l) → G' l = none → H' l = some ho → OwR C.K G' o ho → De.rt (.ref l) H'
  | .ex _ _ _ => False
  | .no => False
def JS (C : Ctx) (t : TS) (f : Env → IL.R Fl) : Prop := ∀ δ σ G H, Stt C.K δ σ G H → ∀ De, WantS C δ σ G H (f δ) De → t De σ H
end
section
variable {C : Ctx} {δ δ' δ1 δ2 : Env} {σ σ' σ1 : St} {G H G' H' G1 H1 G2 H2 : Hp}
variable {α α' β β' : Type} {rel : Rel α β} {rel' : Rel α' β'}
theorem Loc.back {p : Addr} (a : Aft C δ σ G H δ1 σ1 G1 H1) (h : (∃ i, C.kp ≤ i ∧ OwnAt δ1 σ1 i p) ∨ H1 p = none) : (∃ i, C.kp ≤ i ∧ OwnAt δ σ i p) ∨ H p = none := by
  rcases h with ⟨i, hi, o⟩ | h
  · rcases a.ow p ⟨i, o⟩ with ⟨j, oj⟩ | z
    · rcases Nat.lt_or_ge j C.kp with hj | hj
      · have e := a.st.dis i j p o (a.kp j p hj oj)
        omega
      · exact .inl ⟨j, hj, oj⟩
    · exact .inr z
  · exact .inr (a.nx.noneOf h)
theorem Want.step {r : IL.R α} {Q : β → Hp → Prop} (hb : Back rel) (w : Want rel C δ σ G H r Q) (a : Aft C δ σ G H δ1 σ G1 H1) : Want rel C δ1 σ G1 H1 r Q := by
  cases r with
  | ok x δ' => exact fun v G' H' b h => w v G' H' (a.trans b) (hb _ _ _ _ _ _ _ _ (fun l z => a.nx.noneOf z) h)
  | ex c fs δ' => exact w
  | no => exact w
theorem WantS.step {r : IL.R Fl} {De : Ends} (w : WantS C δ σ G H r De) (a : Aft C δ σ G H δ1 σ1 G1 H1) : WantS C δ1 σ1 G1 H1 r De := by
  cases r with
  | ok f δ' =>
    cases f with
    | nx => exact fun σ' G' H' b => w σ' G' H' (a.trans b)
    | bk => exact fun σ' G' H' b => w σ' G' H' (a.trans b)
    | ct => exact fun σ' G' H' b => w σ' G' H' (a.trans b)
    | rt v =>
      cases v with
      | dat d => exact fun v σ' G' H' b => w v σ' G' H' (a.trans b)
      | new o => exact fun l ho σ' G' H' b h => w l ho σ' G' H' (a.trans b) (Loc.back a h)
  | ex c fs δ' => exact w
  | no => exact w
theorem want_bind {r : IL.R α'} {k : α' → Env → IL.R α} {Q : β → Hp → Prop} {P : β' → Hp → Prop} (hb : Back rel) (w : Want rel C δ σ G H (r.bind k) Q)
    (h : ∀ a δ1 v G1 H1, Aft C δ σ G H δ1 σ G1 H1 → rel' σ δ1 H G1 H1 v a → Want rel C δ1 σ G1 H1 (k a δ1) Q → P v H1) : Want rel' C δ σ G H r P := by
  cases r with
  | ok a δ1 => exact fun v G1 H1 b q => h a δ1 v G1 H1 b q (Want.step hb w b)
  | ex c fs δ' => exact w
  | no => exact w
theorem wantS_bind {r : IL.R α'} {k : α' → Env → IL.R Fl} {De : Ends} {P : β' → Hp → Prop} (w : WantS C δ σ G H (r.bind k) De)
    (h : ∀ a δ1 v G1 H1, Aft C δ σ G H δ1 σ G1 H1 → rel' σ δ1 H G1 H1 v a → WantS C δ1 σ G1 H1 (k a δ1) De → P v H1) : Want rel' C δ σ G H r P := by
  cases r with
  | ok a δ1 => exact fun v G1 H1 b q => h a δ1 v G1 H1 b q (WantS.step w b)
  | ex c fs δ' => exact w
  | no => exact w
/-- nothing happened -/
theorem Want.now {Q : β → Hp → Prop} {a : α} (w : Want rel C δ σ G H (.ok a δ) Q) (S : Stt C.K δ σ G H) {v : β} (h : rel σ δ H G H v a) : Q v H := w v G H (Aft.refl S) h
theorem JE.mono {t t' : St → Hp → (β → Hp → Prop) → Prop} {f : Env → IL.R α} (h : JE rel C t f) (k : ∀ σ H Q, t σ H Q → t' σ H Q) : JE rel C t' f := fun δ σ G H S Q w => k σ H Q (h δ σ G H S Q w)
/-- a value stands as it stood -/
theorem ValR.later {v : V} {a : Val} (r : ValR C.K σ δ1 H G1 H1 v a) (b : Aft C δ1 σ G1 H1 δ2 σ G2 H2) : ValR C.K σ δ2 H G2 H2 v a := by
  cases a with
  | dat d => exact Dp.ex b.nx.gg _ _ r
  | own i => exact r
  | new o =>
    obtain ⟨l, ho, e, h0, g, h, n, w⟩ := r
    refine ⟨l, ho, e, h0, (b.nx.fr l ho n h).trans g, b.nx.hh l ho n h, fun z => ?_, w.ex b.nx.gg⟩
    rcases b.ow l z with z | z
    · exact n z
    · rw [h] at z; cases z
theorem ValR.back0 {v : V} {a : Val} (b : Aft C δ σ G H δ1 σ1 G1 H1) (r : ValR C.K σ' δ2 H1 G2 H2 v a) : ValR C.K σ' δ2 H G2 H2 v a := back_V _ _ _ _ _ _ _ _ (fun l z => b.nx.noneOf z) r
/-! ### what is read now -/
inductive Tp (K : PySem.W.Frag) (G H : Hp) : V → D → Prop
  | im {v : V} {d : D} : Dp K G v d → Tp K G H v d
  | lst {a : Addr} {vs : List V} {ds : List D} : SqL K H a vs → DpAll K G vs ds → Tp K G H (.ref a) (.list ds)
theorem Tp.dp {K : PySem.W.Frag} (e : Ex G H) {v : V} {d : D} (h : Tp K G H v d) : Dp K H v d := by
  cases h with
  | im h => exact Dp.ex e _ _ h
  | lst h1 h2 => exact .lst h1 (DpAll.ex e _ _ h2)
theorem Tp.list_of {K : PySem.W.Frag} (e : Ex G H) {v : V} {ds : List D} (h : Tp K G H v (.list ds)) : ∃ a vs, v = .ref a ∧ SqL K H a vs ∧ DpAll K G vs ds := by
  cases h with
  | im h =>
    obtain ⟨a, vs, z, h1, h2⟩ := Dp.list_of h
    exact ⟨a, vs, z, Evl.ex_l e h1, h2⟩
  | lst h1 h2 => exact ⟨_, _, rfl, h1, h2⟩
theorem Tp.tuple_of {K : PySem.W.Frag} (e : Ex G H) {v : V} {ds : List D} (h : Tp K G H v (.tuple ds)) : ∃ a vs, v = .ref a ∧ SqT K H a vs ∧ DpAll K G vs ds := by
  cases h with
  | im h =>
    obtain ⟨a, vs, z, h1, h2⟩ := Dp.tuple_of h
    exact ⟨a, vs, z, Evl.ex_t e h1, h2⟩
theorem Tp.int_of {K : PySem.W.Frag} {v : V} {i : Int} (h : Tp K G H v (.int i)) : v = .int i := by
  cases h with
  | im h => exact Dp.int_of h
theorem Tp.str_of {K : PySem.W.Frag} {v : V} {i : Str} (h : Tp K G H v (.str i)) : v = .str i := by
  cases h with
  | im h => exact Dp.str_of h
theorem Tp.bool_of {K : PySem.W.Frag} {v : V} {i : Bool} (h : Tp K G H v (.bool i)) : v = .bl i := by
  cases h with
  | im h => exact Dp.bool_of h
theorem Tp.none_of {K : PySem.W.Frag} {v : V} (h : Tp K G H v .none) : v = .non := by
  cases h with
  | im h => exact Dp.none_of h
theorem cur_tp {H0 : Hp} (S : Stt C.K δ σ G H) {v : V} {a : Val} {d : D} (r : ValR C.K σ δ H0 G H v a) (c : IL.cur δ a = some d) : Tp C.K G H v d := by
  cases a with
  | dat e =>
    cases c
    exact .im r
  | new o =>
    cases o with
    | lst ds =>
      cases c
      obtain ⟨l, ho, rfl, _, _, h, _, vs, rfl, w⟩ := r
      exact .lst (.inl (.inl h)) w
    | dct kvs => cases c
  | own i =>
    simp only [IL.cur] at c
    cases e : δ[i]? with
    | none => rw [e] at c; cases c
    | some s =>
      rw [e] at c
      have q := S.env i s e
      have r' : σ[i]? = some (some v) := r
      cases s with
      | un => cases c
      | im x =>
        cases c
        obtain ⟨u, q1, q2⟩ := q
        rw [r'] at q1
        cases q1
        exact .im q2
      | ow o =>
        cases o with
        | dct kvs => cases c
        | lst ds =>
          cases c
          obtain ⟨l, ho, q1, _, h, vs, rfl, w⟩ := q
          rw [r'] at q1
          cases q1
          exact .lst (.inl (.inl h)) w
end
/-! ### new things -/
section
variable {C : Ctx} {δ δ' δ1 δ2 : Env} {σ σ' σ1 : St} {G H G' H' G1 H1 G2 H2 : Hp}
theorem Aft.alloc {p : Addr} {o : HO} (S : Stt C.K δ σ G H) (hp : H p = none) : Aft C δ σ G H δ σ (upd G p o) (upd H p o) :=
  ⟨(S.alloc hp).1, (S.alloc hp).2, fun _ h => .inl h, fun _ _ _ h => h, rfl⟩
theorem Aft.fresh {p : Addr} {o : HO} (S : Stt C.K δ σ G H) (hp : H p = none) : Aft C δ σ G H δ σ G (upd H p o) :=
  ⟨(S.fresh hp).1, (S.fresh hp).2, fun _ h => .inl h, fun _ _ _ h => h, rfl⟩
theorem notOwn (S : Stt C.K δ σ G H) {p : Addr} (hp : H p = none) : ¬ Own δ σ p := fun h => by
  obtain ⟨_, o, e⟩ := S.own h
  rw [hp] at e; cases e
theorem Want.newTup {Q : VK} {ds : List D} {vs : List V} {p : Addr} (w : Want (relV C.K) C δ σ G H (.ok (.dat (.tuple ds)) δ) Q) (S : Stt C.K δ σ G H) (hp : H p = none) (h : DpAll C.K G vs ds) : Q (.ref p) (upd H p (.tup vs)) :=
  w _ _ _ (Aft.alloc S hp) (.tup (.inl (.inl upd_same)) (DpAll.ex (Evl.Ex.new (S.gnone hp)) _ _ h))
theorem Want.newLst {Q : VK} {ds : List D} {vs : List V} {p : Addr} (w : Want (relV C.K) C δ σ G H (.ok (.new (.lst ds)) δ) Q) (S : Stt C.K δ σ G H) (hp : H p = none) (h : DpAll C.K G vs ds) : Q (.ref p) (upd H p (.lst vs)) :=
  w _ _ _ (Aft.fresh S hp) ⟨p, .lst vs, rfl, hp, S.gnone hp, upd_same, notOwn S hp, vs, rfl, h⟩
/-- a new thing stays from now on -/
theorem Want.ofNew {K : PySem.W.Frag} {P : V → Hp → Prop} {ds : List D} (hK : K = C.K) (w : Want (relD K) C δ σ G H (.ok (.list ds) δ') P) : Want (relV K) C δ σ G H (.ok (.new (.lst ds)) δ') P := fun v G' H' a r => by
  subst hK
  obtain ⟨l, ho, rfl, h0, h1, h2, h3, vs, rfl, h4⟩ := r
  refine w (.ref l) (upd G' l (.lst vs)) H' ⟨a.st.freeze h1 h2 h3, ⟨a.nx.gg.trans (Evl.Ex.new h1), a.nx.hh, fun b o hb e => ?_, a.nx.dom⟩, a.ow, a.kp, a.ln⟩ (.lst (.inl (.inl upd_same)) (DpAll.ex (Evl.Ex.new h1) _ _ h4))
  rw [upd_ne (ne_of_none e h0)]
  exact a.nx.fr b o hb e
/-- what a slot owns stays as it is from now on -/
theorem aft_freeze (S : Stt C.K δ σ G H) {i : Nat} {ds : List D} (hi : δ[i]? = some (.ow (.lst ds))) (hk : C.kp ≤ i) : ∃ l G', σ[i]? = some (some (.ref l)) ∧ Aft C δ σ G H (δ.set i (.im (.list ds))) σ G' H ∧ Dp C.K G' (.ref l) (.list ds) := by
  obtain ⟨l, ho, e1, e2, e3, vs, rfl, e5⟩ := S.env i _ hi
  have oi : OwnAt δ σ i l := ⟨⟨_, hi⟩, e1⟩
  have u := S.unk (i := i) (v := some (.ref l))
  have hset : σ.set i (some (.ref l)) = σ := by
    apply List.ext_getElem?
    intro j
    rw [List.getElem?_set]
    split
    · rename_i e
      subst e
      have hl := (List.getElem?_eq_some_iff.mp e1).1
      rw [if_pos hl, e1]
    · rfl
  rw [hset] at u
  have nown : ¬ Own (δ.set i .un) σ l := fun ⟨j, h1⟩ => by
    have h2 : OwnAt δ σ j l := by
      obtain ⟨⟨o, e⟩, e'⟩ := h1
      rcases get_set e with ⟨_, z⟩ | ⟨_, z⟩
      · cases z
      · exact ⟨⟨o, z⟩, e'⟩
    have e := S.dis i j l oi h2
    subst e
    obtain ⟨⟨o, e⟩, _⟩ := h1
    rcases get_set e with ⟨_, z⟩ | ⟨z, _⟩
    · cases z
    · exact z rfl
  have f := u.1.freeze e2 e3 nown
  have hd : Dp C.K (upd G l (.lst vs)) (.ref l) (.list ds) := .lst (.inl (.inl upd_same)) (DpAll.ex (Evl.Ex.new e2) _ _ e5)
  have z := f.put (i := i) hd
  rw [hset, List.set_set] at z
  refine ⟨l, upd G l (.lst vs), e1, ⟨z.1, ⟨Evl.Ex.new e2, fun _ _ _ h => h, fun a o hm e => ?_, fun a o e => ⟨o, e⟩⟩, fun l' h' => .inl (u.2 l' (z.2 l' h')), fun j l' hj o' => ?_, by rw [List.length_set]⟩, hd⟩
  · have ne : a ≠ l := fun w => hm (w ▸ ⟨i, oi⟩)
    rw [upd_ne ne]
  · have hij : i ≠ j := by omega
    obtain ⟨⟨o, e⟩, e'⟩ := o'
    exact ⟨⟨o, by rw [List.getElem?_set_ne hij]; exact e⟩, e'⟩
/-- from a value to data: the reading is the same -/
theorem want_dem {P : V → Hp → Prop} {a : Val} (w : Want (relD C.K) C δ σ G H (IL.dem C.kp a δ') P) : Want (relV C.K) C δ σ G H (.ok a δ') P := by
  cases a with
  | dat d => exact fun v G' H' b r => w v G' H' b r
  | new o =>
    cases o with
    | lst ds => exact Want.ofNew rfl w
    | dct kvs => exact w.elim
  | own i =>
    intro v G' H' b r
    simp only [IL.dem] at w
    cases e : δ'[i]? with
    | none => rw [e] at w; exact w.elim
    | some s =>
      rw [e] at w
      have r' : σ[i]? = some (some v) := r
      cases s with
      | un => exact w.elim
      | im x =>
        obtain ⟨u, q1, q2⟩ := b.st.env i _ e
        rw [r'] at q1
        cases q1
        exact w v G' H' b q2
      | ow o =>
        cases o with
        | dct kvs => exact w.elim
        | lst ds =>
          by_cases hk : C.kp ≤ i
          · simp only [if_pos hk] at w
            obtain ⟨l, G2, q1, q2, q3⟩ := aft_freeze b.st e hk
            rw [r'] at q1
            cases q1
            exact w _ G2 H' (b.trans q2) q3
          · simp only [if_neg hk] at w
            exact w.elim
theorem want_demR {P : V → Hp → Prop} {r : IL.R Val} (w : Want (relD C.K) C δ σ G H (r.bind (IL.dem C.kp)) P) : Want (relV C.K) C δ σ G H r P := by
  cases r with
  | ok a δ' => exact want_dem w
  | ex c fs δ' => exact w
  | no => exact w
theorem wantS_demR {P : V → Hp → Prop} {r : IL.R Val} {k : D → Env → IL.R Fl} {De : Ends} (w : WantS C δ σ G H (r.bind fun v δ1 => (IL.dem C.kp v δ1).bind k) De)
    (h : ∀ d δ1 v G1 H1, Aft C δ σ G H δ1 σ G1 H1 → Dp C.K G1 v d → WantS C δ1 σ G1 H1 (k d δ1) De → P v H1) : Want (relV C.K) C δ σ G H r P := by
  cases r with
  | ok a δ' => exact want_dem (wantS_bind w fun d δ1 v G1 H1 b q w1 => h d δ1 v G1 H1 b q w1)
  | ex c fs δ' => exact w
  | no => exact w
theorem want_demRk {α β : Type} {rel : Rel α β} {P : V → Hp → Prop} {r : IL.R Val} {k : D → Env → IL.R α} {Q : β → Hp → Prop} (hb : Back rel) (w : Want rel C δ σ G H (r.bind fun v δ1 => (IL.dem C.kp v δ1).bind k) Q)
    (h : ∀ d δ1 v G1 H1, Aft C δ σ G H δ1 σ G1 H1 → Dp C.K G1 v d → Want rel C δ1 σ G1 H1 (k d δ1) Q → P v H1) : Want (relV C.K) C δ σ G H r P := by
  cases r with
  | ok a δ' => exact want_dem (want_bind hb w fun d δ1 v G1 H1 b q w1 => h d δ1 v G1 H1 b q w1)
  | ex c fs δ' => exact w
  | no => exact w
end
end J
end
section
set_option Elab.async false
set_option linter.all false
set_option maxRecDepth 100000
set_option maxHeartbeats 1000000
/-! DR: rules of operators and built-ins over data (Dp), for the calculus DW. -/
namespace DR
open PySem PySem.Spec PyProof.Rows L2
abbrev St := L2.St
section
variable {X : Cx}
/-! ### one of two rules -/
def orR (r1 r2 : R2) : R2 := fun x y H Q => r1 x y H Q ∨ r2 x y H Q
theorem or_op {f : Value → Value → Sem Value} {r1 r2 : R2} (h1 : OpR X f r1) (h2 : OpR X f r2) : OpR X f (orR r1 r2) := fun pins s σ H x y v u Q I rx ry h => h.elim (h1 pins s σ H x y v u Q I rx ry) (h2 pins s σ H x y v u Q I rx ry)
def orC (r1 r2 : List V → Hp → VK → Prop) : List V → Hp → VK → Prop := fun xs H Q => r1 xs H Q ∨ r2 xs H Q
theorem or_call {f : Value} {r1 r2 : List V → Hp → VK → Prop} (h1 : CallR X f r1) (h2 : CallR X f r2) : CallR X f (orC r1 r2) := fun pins s σ H xs us Q I r h => h.elim (h1 pins s σ H xs us Q I r) (h2 pins s σ H xs us Q I r)
/-! ### comparisons of data -/
def Plain2 (d e : PyData) : Prop := d.plain = true ∧ e.plain = true ∧ min d.depth e.depth ≤ 60
def qEq (K : PySem.W.Frag) (neg : Bool) : R2 := fun x y H Q => ∃ d e, Dp K H x d ∧ Dp K H y e ∧ Plain2 d e ∧ Q (.bl (if neg then !PyData.eqv d e else PyData.eqv d e)) H
theorem op_qEq (hu : X.A.units + 64 < cLine) : OpR X (compareOp .Eq) (qEq X.K false) := by
  intro pins s σ H x y v u Q I rx ry ⟨d, e, hd, he, ⟨p1, p2, p3⟩, q⟩
  obtain ⟨as, r1⟩ := Dp.reads I d x v hd rx
  obtain ⟨bs, r2⟩ := Dp.reads I e y u he ry
  exact SeqAt.eq_plain r1 r2 p1 p2 (by omega) ⟨.bl _, H, I, rfl, q⟩
theorem op_qNe (hu : X.A.units + 64 < cLine) : OpR X (compareOp .NotEq) (qEq X.K true) := by
  intro pins s σ H x y v u Q I rx ry ⟨d, e, hd, he, ⟨p1, p2, p3⟩, q⟩
  obtain ⟨as, r1⟩ := Dp.reads I d x v hd rx
  obtain ⟨bs, r2⟩ := Dp.reads I e y u he ry
  exact SeqAt.ne_plain r1 r2 p1 p2 (by omega) ⟨.bl _, H, I, rfl, q⟩
open PySem.W (alike alikeAll dataLt) in
def Ordered (d e : PyData) : Prop := alike d e = true ∧ d ≠ .none ∧ min d.depth e.depth ≤ 60
/-- the answer of an order: lt, gt, le, ge -/
inductive Ord | lt | gt | le | ge
open PySem.W (dataLt) in
def Ord.ask (o : Ord) (d e : PyData) : Bool := match o with
  | .lt => dataLt d e
  | .gt => dataLt e d
  | .le => !dataLt e d
  | .ge => !dataLt d e
def qOrd (K : PySem.W.Frag) (o : Ord) : R2 := fun x y H Q => ∃ d e, Dp K H x d ∧ Dp K H y e ∧ Ordered d e ∧ Q (.bl (o.ask d e)) H
theorem op_qLt (hu : X.A.units + 64 < cLine) : OpR X (compareOp .Lt) (qOrd X.K .lt) := by
  intro pins s σ H x y v u Q I rx ry ⟨d, e, hd, he, ⟨p1, p2, p3⟩, q⟩
  obtain ⟨as, r1⟩ := Dp.reads I d x v hd rx
  obtain ⟨bs, r2⟩ := Dp.reads I e y u he ry
  exact PySem.W.lt_data r1 r2 p1 p2 (by omega) ⟨.bl _, H, I, rfl, q⟩
theorem op_qGt (hu : X.A.units + 64 < cLine) : OpR X (compareOp .Gt) (qOrd X.K .gt) := by
  intro pins s σ H x y v u Q I rx ry ⟨d, e, hd, he, ⟨p1, p2, p3⟩, q⟩
  obtain ⟨as, r1⟩ := Dp.reads I d x v hd rx
  obtain ⟨bs, r2⟩ := Dp.reads I e y u he ry
  exact PySem.W.gt_data r1 r2 p1 p2 (by omega) ⟨.bl _, H, I, rfl, q⟩
theorem op_qLe (hu : X.A.units + 64 < cLine) : OpR X (compareOp .LtE) (qOrd X.K .le) := by
  intro pins s σ H x y v u Q I rx ry ⟨d, e, hd, he, ⟨p1, p2, p3⟩, q⟩
  obtain ⟨as, r1⟩ := Dp.reads I d x v hd rx
  obtain ⟨bs, r2⟩ := Dp.reads I e y u he ry
  exact PySem.W.le_data r1 r2 p1 p2 (by omega) ⟨.bl _, H, I, rfl, q⟩
theorem op_qGe (hu : X.A.units + 64 < cLine) : OpR X (compareOp .GtE) (qOrd X.K .ge) := by
  intro pins s σ H x y v u Q I rx ry ⟨d, e, hd, he, ⟨p1, p2, p3⟩, q⟩
  obtain ⟨as, r1⟩ := Dp.reads I d x v hd rx
  obtain ⟨bs, r2⟩ := Dp.reads I e y u he ry
  exact PySem.W.ge_data r1 r2 p1 p2 (by omega) ⟨.bl _, H, I, rfl, q⟩
/-- x in a list or tuple -/
def qIn (K : PySem.W.Frag) (neg : Bool) : R2 := fun x y H Q => ∃ d es, Dp K H x d ∧ (Dp K H y (.list es) ∨ Dp K H y (.tuple es)) ∧ d.plain = true ∧ PyData.plainAll es = true ∧ min (PyData.depthAll es) d.depth ≤ 60 ∧
  Q (.bl (if neg then !es.any (fun y => PyData.eqv y d) else es.any (fun y => PyData.eqv y d))) H
theorem op_qIn (hu : X.A.units + 64 < cLine) : OpR X (compareOp .In) (qIn X.K false) := by
  intro pins s σ H x y v u Q I rx ry ⟨d, es, hd, he, p1, p2, p3, q⟩
  obtain ⟨as, r1⟩ := Dp.reads I d x v hd rx
  rcases he with he | he
  · obtain ⟨bs, r2⟩ := Dp.reads I (.list es) y u he ry
    exact SeqAt.in_list_data r2 r1 p2 p1 (by omega) ⟨.bl _, H, I, rfl, q⟩
  · obtain ⟨bs, r2⟩ := Dp.reads I (.tuple es) y u he ry
    exact SeqAt.in_tuple_data r2 r1 p2 p1 (by omega) ⟨.bl _, H, I, rfl, q⟩
theorem op_qNotIn (hu : X.A.units + 64 < cLine) : OpR X (compareOp .NotIn) (qIn X.K true) := by
  intro pins s σ H x y v u Q I rx ry ⟨d, es, hd, he, p1, p2, p3, q⟩
  obtain ⟨as, r1⟩ := Dp.reads I d x v hd rx
  rcases he with he | he
  · obtain ⟨bs, r2⟩ := Dp.reads I (.list es) y u he ry
    exact SeqAt.notIn_list_data r2 r1 p2 p1 (by omega) ⟨.bl _, H, I, rfl, q⟩
  · obtain ⟨bs, r2⟩ := Dp.reads I (.tuple es) y u he ry
    exact SeqAt.notIn_tuple_data r2 r1 p2 p1 (by omega) ⟨.bl _, H, I, rfl, q⟩
/-- one sign in a text -/
def qInS (neg : Bool) : R2 := fun x y H Q => ∃ (c : Nat) (z : Str), x = .str ⟨#[c]⟩ ∧ y = .str z ∧ Q (.bl (if neg then !decide (c ∈ z.cps.toList) else decide (c ∈ z.cps.toList))) H
theorem op_qInS : OpR X (compareOp .In) (qInS false) := op_in_sign
theorem op_qNotInS : OpR X (compareOp .NotIn) (qInS true) := op_notIn_sign
/-! ### + of anything -/
def qAddS : R2 := fun x y H Q => ∃ i j, x = .str i ∧ y = .str j ∧ i.length + j.length ≤ sizeLine ∧ Q (.str (i ++ j)) H
theorem op_qAddS : OpR X (binaryOp .Add) qAddS := op_add_str
/-- two lists, however they stand -/
def qCatL (K : PySem.W.Frag) : R2 := fun x y H Q => ∃ a b xs ys, x = .ref a ∧ y = .ref b ∧ SqL K H a xs ∧ SqL K H b ys ∧ xs.length + ys.length ≤ sizeLine ∧ ∀ p, H p = none → Q (.ref p) (upd H p (.lst (xs ++ ys)))
theorem op_qCatL : OpR X (binaryOp .Add) (qCatL X.K) := by
  intro pins s σ H x y v u Q I rx ry ⟨a, b, xs, ys, ex, ey, ha, hb, hz, q⟩
  subst ex ey
  cases rx
  cases ry
  obtain ⟨its, r1, p1, _⟩ := I.list ha
  obtain ⟨jts, r2, p2, _⟩ := I.list hb
  obtain ⟨⟨c1, dd1, da1, sl1⟩, e1, hc1, n1, hd1⟩ := p1.isList
  obtain ⟨⟨c2, dd2, da2, sl2⟩, e2, hc2, n2, hd2⟩ := p2.isList
  simp only at hc1 hd1 hc2 hd2
  subst hc1 hd1 hc2 hd2
  have l1 := r1.length
  have l2 := r2.length
  have es : its.toArray ++ jts.toArray = (its ++ jts).toArray := by simp
  refine concat_meets ⟨_, e1, rfl⟩ ⟨_, e2, rfl⟩ noFill_list_add seq_list_add PySem.F.slot_list_add PySem.F.entry_list_add (PySem.F.args_list_add_2 _ _)
    (list_addW a b its.toArray jts.toArray n1 n2 dd1 dd2 sl1 sl2 (by rw [List.size_toArray, List.size_toArray]; omega)) ⟨e1, e2, ?_⟩
  rw [es]
  exact ⟨.ref _, _, I.lnew (t' := s.toks) (r1.append r2) (by rw [List.length_append]; omega), rfl, q _ I.fresh⟩
/-! ### repr -/
mutual
theorem hasDict_of {K : PySem.W.Frag} {H : Hp} : ∀ (d : PyData) (v : V), Dp K H v d → d.hasDict = false
  | .none, _, _ => rfl
  | .bool _, _, _ => rfl
  | .int _, _, _ => rfl
  | .str _, _, _ => rfl
  | .list ds, _, h => by
    cases h with
    | lst _ ha => simpa [PyData.hasDict] using hasDictAll_of ds _ ha
  | .tuple ds, _, h => by
    cases h with
    | tup _ ha => simpa [PyData.hasDict] using hasDictAll_of ds _ ha
  | .dict _, _, h => by cases h
theorem hasDictAll_of {K : PySem.W.Frag} {H : Hp} : ∀ (ds : List PyData) (vs : List V), DpAll K H vs ds → PyData.hasDictAll ds = false
  | [], _, _ => rfl
  | d :: ds, _, h => by
    cases h with
    | cons h1 h2 => simp [PyData.hasDictAll, hasDict_of d _ h1, hasDictAll_of ds _ h2]
end
def qRepr (K : PySem.W.Frag) : List V → Hp → VK → Prop := fun xs H Q => ∃ v d, xs = [v] ∧ Dp K H v d ∧ d.showable = true ∧ d.depth ≤ 60 ∧ d.shown.length ≤ sizeLine ∧ Q (.str d.shown) H
theorem call_qRepr (c : X.A.guards = some []) (hu : X.A.units + 64 < cLine) : CallR X (.builtin "repr") (qRepr X.K) := by
  intro pins s σ H xs us Q I r ⟨v, d, ex, hd, hs, hdp, hz, q⟩
  subst ex
  obtain ⟨u, eu, ru⟩ := vals1 r
  subst eu
  obtain ⟨as, rd⟩ := Dp.reads I d v u hd ru
  have nd := hasDict_of d v hd
  cases hd with
  | non =>
    cases ru
    exact PySem.P.repr_of_none ⟨.str _, H, I.tok _, ⟨_, rfl⟩, q⟩
  | bl b =>
    cases ru
    exact PySem.P.repr_of_bool ⟨.str _, H, I.tok _, ⟨_, rfl⟩, q⟩
  | int i =>
    obtain ⟨t, rfl⟩ := ru
    exact PySem.P.repr_of_int (by simpa [PyData.showable] using hs) ⟨.str _, H, I.tok _, ⟨_, rfl⟩, q⟩
  | str x =>
    obtain ⟨t, rfl⟩ := ru
    exact PySem.P.repr_of_str ⟨.str _, H, I.tok _, ⟨_, rfl⟩, q⟩ (by simpa only [PyData.shown] using hz)
  | lst _ _ =>
    cases ru
    exact repr_of_reads' rd hs (fun z => by rw [nd] at z; cases z) c (by omega) (fun _ _ e => e) (fun h' u tk k => ⟨.str _, H, I.kept k, ⟨_, rfl⟩, q⟩) hz
  | tup _ _ =>
    cases ru
    exact repr_of_reads' rd hs (fun z => by rw [nd] at z; cases z) c (by omega) (fun _ _ e => e) (fun h' u tk k => ⟨.str _, H, I.kept k, ⟨_, rfl⟩, q⟩) hz
/-! ### min(x, key=len, default=None) of a list of lists and tuples: one of them, None where there is none -/
def lenD : PyData → Nat
  | .list es => es.length
  | .tuple es => es.length
  | _ => 0
/-- the place of the first item whose length is the least -/
def minLenAt (ds : List PyData) : Nat := PySem.argBest (fun i j => decide ((lenD (ds.getD i .none) : Int) < (lenD (ds.getD j .none) : Int))) (ds.length - 1)
def qMinLen (K : PySem.W.Frag) : List V → Hp → VK → Prop := fun xs H Q => ∃ a vs ds, xs = [.ref a] ∧ SqL K H a vs ∧ DpAll K H vs ds ∧ (∀ d ∈ ds, ∃ es, d = .list es ∨ d = .tuple es) ∧ (ds = [] → Q .non H) ∧ ∀ v, vs[minLenAt ds]? = some v → Q v H
theorem min_len_at {w : World} {P : Program} {A : Around} {E : Value → Shared → Prop} {s : Shared} {l : Addr} {vs : Array Value} (ln : Nat → Nat) {Q : Value → Shared → Prop} (hh : A.handled = none) (hl : s.heap.IsList l vs)
    (hlen : ∀ i v, vs[i]? = some v → ∀ s' : Shared, (∀ b o, s.heap.get? b = some o → s'.heap.get? b = some o) → ∀ (Q : Value → Shared → Prop) (E : Value → Shared → Prop), (∀ t tk, s'.toks ≤ tk → Q (.int (ln i) t) { s' with toks := tk }) → wpAny (model P w) A.in1 (call (.builtin "len") [v]) Q E s')
    (h : ∀ s' : Shared, (∀ b o, s.heap.get? b = some o → s'.heap.get? b = some o) → s'.gens = s.gens → s'.os = s.os → (vs.size = 0 → Q .none s') ∧ ∀ v, vs[argBest (fun i j => decide ((ln i : Int) < (ln j : Int))) (vs.size - 1)]? = some v → Q v s') :
    wpAny (model P w) A (call (.builtin "min") [.ref l] [(Str.ofString "key", .builtin "len"), (Str.ofString "default", .none)]) Q E s := by
  refine call_min_walkKBD (PySem.W.iter_listW hh hl fun s₂ e2 W st fp old keep => ?_)
  have J0 : ∀ b o, s.heap.get? b = some o → s₂.heap.get? b = some o := keep
  refine ⟨_, _, _, _, _, _, _, fun s' => (∀ b o, s.heap.get? b = some o → s'.heap.get? b = some o) ∧ s'.gens = s.gens ∧ s'.os = s.os, fun i k s' => ∃ t, k = .int (ln i) t, fun i j => decide ((ln i : Int) < (ln j : Int)), rfl, W, st, fp, ?_, ⟨keep, by rw [e2], by rw [e2]⟩, fun hn s' j => (h s' j.1 j.2.1 j.2.2).1 hn, fun hn v s' hv j => (h s' j.1 j.2.1 j.2.2).2 v hv⟩
  have S0 : s.heap.objs.size ≤ s₂.heap.objs.size := by
    rw [e2]
    show s.heap.objs.size ≤ (s.heap.push _).objs.size
    rw [Heap.size_push]
    exact Nat.le_succ _
  have low : ∀ {b : Addr} {o : Obj}, s.heap.get? b = some o → b ∉ s₂.heap.objs.size :: [s.heap.objs.size] := fun {b o} e hm => by
    have hb := Heap.lt_size e
    rcases List.mem_cons.mp hm with z | z
    · exact Nat.lt_irrefl _ (Nat.lt_of_lt_of_le (z ▸ hb) S0)
    · exact Nat.lt_irrefl _ ((List.mem_singleton.mp z) ▸ hb)
  refine ⟨fun s1 s' j m => ⟨fun b o e => m.heap b o (low e) (j.1 b o e), m.gens.trans j.2.1, m.os.trans j.2.2⟩, fun i k s1 s' v m => v, fun i v s1 o Q E hi hP j st' hS hQ => ?_, fun i j ki kj s1 Q E _ ⟨t, e⟩ ⟨u, e'⟩ q => ?_⟩
  · refine hlen i v hP s1 j.1 Q E fun t tk htk => hQ _ _ ⟨j.1, j.2.1, j.2.2⟩ ?_ hS ⟨t, rfl⟩ fun _ _ z => z
    exact W.frame _ s1 s1.heap _ st' htk fun b _ o e => e
  · subst e e'
    exact lt_int q
theorem pe_minLen {p q pos : Pos} {k1 k2 : Pos} {j : Nat} {c : Pos} {a : Expr} {t : TA} (hc : X.calm = true) (hg : Gl X "min") (hm : X.mg "min" = none) (hgl : Gl X "len") (hml : X.mg "len" = none) (ha : PA X [a] t)
    (he : backTo pos (starEach [a] X.env) = (false, eval a X.env) :: backTo pos (starEach [] X.env) := by rfl) (hpl : (backTo pos (starEach [a] X.env)).any (·.1) = false := by rfl) :
    PE X (.Call (.Name "min" p) [a] [⟨some "key", .Name "len" q, k1⟩, ⟨some "default", .Constant .none j c, k2⟩] pos) (tCB (qMinLen X.K) t) := by
  refine ⟨fun pins s σ H Q I h => ?_⟩
  have hmin : bootBuiltins "min" = some (.builtin "min") := by decide +kernel
  have hlen : bootBuiltins "len" = some (.builtin "len") := by decide +kernel
  refine wpAny_Call_Name_kw (ld_blt I hg hm hmin ?_)
  refine PyProof.Rows.callWith_kw (thn (ha.run pos pins s σ H _ I h) fun us s1 ⟨xs1, H1, I1, r1, a, vs, ds, ev, hsq, hall, hs, q0, q1⟩ => ?_) he hpl
  subst ev
  obtain ⟨u, eu, ru⟩ := vals1 r1
  subst eu
  show wpAny _ _ (evalAll ((do let v ← eval (.Name "len" q) X.env; standAt pos; pure v) :: (do let v ← eval (.Constant .none j c) X.env; standAt pos; pure v) :: [])) _ _ s1
  refine wpAny_evalAll_cons (wpAny_bind (ld_blt I1 hgl hml hlen (wpAny_bind (wpAny_standAt (wpAny_pure ?_)))))
  refine wpAny_evalAll_cons (wpAny_bind (Constant_none (wpAny_bind (wpAny_standAt (wpAny_pure ?_)))))
  refine wpAny_evalAll_nil ?_
  cases ru
  obtain ⟨its, rv, pl, hz⟩ := I1.list hsq
  show wpAny _ _ (call (.builtin "min") [.ref a] [(Str.ofString "key", .builtin "len"), (Str.ofString "default", .none)]) _ _ _
  have at_ : ∀ (i : Nat) (v : Value), its.toArray[i]? = some v → ∃ (x : V) (d : PyData), ds[i]? = some d ∧ RelV x v ∧ Dp X.K H1 x d ∧ vs[i]? = some x := fun i v e => by
    have e1 : its[i]? = some v := by simpa using e
    cases hx : vs[i]? with
    | none =>
      rw [rv.none_of hx] at e1
      cases e1
    | some x =>
      obtain ⟨u, e2, r⟩ := rv.get hx
      rw [e1] at e2
      cases e2
      obtain ⟨d, e3, hd3⟩ := DpAll.getV hall hx
      exact ⟨x, d, e3, r, hd3, rfl⟩
  refine min_len_at (fun i => lenD (ds.getD i .none)) (I1.ok.hd hc) pl.isList (fun i v e s' ks Q' E' hq => ?_) fun s' ks kg ko => ⟨fun hn => ?_, fun v e => ?_⟩
  · obtain ⟨y, d, e1, r, hd1, _⟩ := at_ i v e
    obtain ⟨es, z⟩ := hs d (List.mem_of_getElem? e1)
    have hn := line63
    rcases z with z | z
    · subst z
      obtain ⟨b, ws, rfl, hb, hw⟩ := Dp.list_of hd1
      cases r
      obtain ⟨jts, rj, pj, hj⟩ := I1.list hb
      have hl := rj.length
      have hl2 := DpAll.length hw
      obtain ⟨o, ho, hc', n, hdt⟩ := pj.isList
      refine Calls.call_len_list ⟨o, ks _ _ ho, hc', n, hdt⟩ (by rw [List.size_toArray]; omega) ?_
      have q2 := hq (s'.toks + 1) (s'.toks + 1 + 1) (by omega)
      rw [List.getD_eq_getElem?_getD, e1] at q2
      rw [List.size_toArray, ← hl, hl2]
      exact q2
    · subst z
      obtain ⟨b, ws, rfl, hb, hw⟩ := Dp.tuple_of hd1
      cases r
      obtain ⟨jts, rj, pj, hj⟩ := I1.tuple hb
      have hl := rj.length
      have hl2 := DpAll.length hw
      obtain ⟨o, ho, hc', n, hdt⟩ := pj
      refine len_tuple ⟨o, ks _ _ ho, hc', n, hdt⟩ (by rw [List.size_toArray]; omega) ?_
      have q2 := hq (s'.toks + 1) (s'.toks + 1 + 1) (by omega)
      rw [List.getD_eq_getElem?_getD, e1] at q2
      rw [List.size_toArray, ← hl, hl2]
      exact q2
  · have hds : ds = [] := by
      have l1 := rv.length
      have l2 := DpAll.length hall
      have l3 : its.length = 0 := by simpa using hn
      exact List.eq_nil_of_length_eq_zero (by omega)
    exact ⟨.non, H1, I1.call' (ch := []) ko (Un.kept ks) (I1.hok.kept ks) (by rw [kg]; exact I1.bare) (fun _ z => by cases z), rfl, q0 hds⟩
  · obtain ⟨y, d, e1, r, hd1, ey⟩ := at_ _ v e
    have hsz : its.toArray.size = ds.length := by
      have l1 := rv.length
      have l2 := DpAll.length hall
      rw [List.size_toArray]
      omega
    rw [hsz] at ey
    exact ⟨y, H1, I1.call' (ch := []) ko (Un.kept ks) (I1.hok.kept ks) (by rw [kg]; exact I1.bare) (fun _ z => by cases z), r, q1 y ey⟩
end
end DR
end
section
set_option Elab.async false
set_option linter.all false
set_option maxRecDepth 100000
set_option maxHeartbeats 4000000
/-! DS: set(xs) of a list or a tuple of ints, for sorted(set(xs)). -/
namespace DS
open PySem PySem.Spec PyProof.Rows L2 PySem.F
abbrev St := L2.St
/-- the object of a set that is being made -/
abbrev bare (w : World) : Obj := { cls := .type "set", dict := none, data := .set #[] 0 (.fresh 0 0 (!w.params.followText "set-order")) }
section
variable {P : Program} {w : World} {A : Around} {E : Value → Shared → Prop} {s : Shared}
theorem int_at_place {items : Array Value} {ns : List Int} (h : IntsAre items.toList ns) (hz : items.size = ns.length) (i : Nat) (v : Value) (e : items[i]? = some v) : ∃ k t, ns[i]? = some k ∧ v = .int k t := by
  have lt : i < ns.length := hz ▸ (Array.getElem?_eq_some_iff.mp e).1
  obtain ⟨t, q⟩ := IntsAre.int_at h i v (by rw [Array.getElem?_toList]; exact e)
  refine ⟨ns[i], t, List.getElem?_eq_getElem lt, q.trans ?_⟩
  rw [List.getD_eq_getElem?_getD, List.getElem?_eq_getElem lt]
  rfl
/-- the new set at its address, filled from the list -/
theorem fill_list {l : Addr} {items : Array Value} (ns : List Int) {R : Fin → Shared → Prop} (hh : A.handled = none) (hl : s.heap.IsList l items) (hi : IntsAre items.toList ns) (hb : ns.length + 1 < scanBound)
    (hR : ∀ (h' : Heap) (tk c : Nat), SetR w h' s.heap.objs.size (fun j => decide (j ∈ ns)) c → c ≤ ns.length → (∀ b o, s.heap.get? b = some o → h'.get? b = some o) → R (.done (.ret .none)) { s with heap := h', toks := tk }) :
    wpAny (model P w) A (Builtin.«set.__init__» ⟨[.ref s.heap.objs.size, .ref l], []⟩) R E { s with heap := s.heap.push (bare w) } := by
  have hz : items.size = ns.length := (Array.length_toList (xs := items)).symm.trans (IntsAre.length hi)
  have lt : l < s.heap.objs.size := by
    obtain ⟨_, e, _⟩ := hl
    exact Heap.lt_size e
  obtain ⟨⟨oc, od, oda, osl⟩, e, hc, n, hd⟩ := id hl
  simp only at hc hd
  subst hc hd
  have atS : (s.heap.push (bare w)).get? s.heap.objs.size = some (bare w) := Heap.get?_push_size _ rfl
  have atL := Heap.get?_push_of_some (bare w) e
  have isL : (s.heap.push (bare w)).IsList l items := ⟨_, atL, rfl, n, rfl⟩
  have q1 := sub_list_set
  have q2 := sub_list_frozenset
  have q3 : (Value.type "list" == Value.type "dict") = false := by decide
  unfold Builtin.«set.__init__» noKeywords Builtin.Frozenset.updateFrom
  generalize hPI : pyIter = PI
  wp_walk
  subst hPI
  refine wpAny_pyIter_list isL (wpAny_bind (wpAny_runValue ?_))
  have sz : (s.heap.push (bare w)).objs.size = s.heap.objs.size + 1 := Heap.size_push ..
  have neI : l ≠ (s.heap.push (bare w)).objs.size := by
    rw [sz]
    exact Nat.ne_of_lt (Nat.lt_succ_of_lt lt)
  have W := (Walks.list (prog := P) (w := w) (A := A.in1) (by simp [hh]) _ l neI items).toS
  have notS : s.heap.objs.size ∉ [(s.heap.push (bare w)).objs.size, l] := by
    rw [sz]
    intro h
    rcases List.mem_cons.mp h with z | z
    · exact absurd z (Nat.ne_of_lt (Nat.lt_succ_self _))
    · exact absurd (List.mem_singleton.mp z) (Nat.ne_of_gt lt)
  refine set_update_ints W s.heap.objs.size notS ns hz hb (int_at_place hi hz) items.size 0 _ rfl (Nat.zero_le _) ⟨⟨_, Heap.get?_push_size _ rfl, rfl, rfl⟩, isL.push _⟩ ⟨0, Nat.le_refl 0, setR_new_at (Heap.get?_push_of_some _ atS)⟩ fun s' c m hc hS => ?_
  obtain ⟨h', g', d', tk', os'⟩ := s'
  obtain rfl : g' = s.gens := m.gens
  obtain rfl : d' = s.drawn := m.drawn
  obtain rfl : os' = s.os := m.os
  refine wpAny_pure (wpAny_pure (hR h' tk' c hS (by omega) fun b o q => ?_))
  have lb := Heap.lt_size q
  refine m.heap b o (fun h => ?_) (Heap.get?_push_of_some _ (Heap.get?_push_of_some _ q))
  rcases List.mem_cons.mp h with z | z
  · exact absurd z (Nat.ne_of_lt lb)
  · have z' := List.mem_singleton.mp z
    rw [sz] at z'
    exact absurd z' (Nat.ne_of_lt (Nat.lt_succ_of_lt lb))
/-- set(xs) -/
theorem set_of_list {l : Addr} {items : Array Value} (ns : List Int) {Q : Value → Shared → Prop} (hh : A.handled = none) (hl : s.heap.IsList l items) (hi : IntsAre items.toList ns) (hb : ns.length + 1 < scanBound)
    (hQ : ∀ (h' : Heap) (tk c : Nat), SetR w h' s.heap.objs.size (fun j => decide (j ∈ ns)) c → c ≤ ns.length → (∀ b o, s.heap.get? b = some o → h'.get? b = some o) → Q (.ref s.heap.objs.size) { s with heap := h', toks := tk }) :
    wpAny (model P w) A (call (.type "set") [.ref l]) Q E s := by
  obtain ⟨c0, tl, hmro⟩ := called_set.mro
  have f1 := called_set.made
  have f2 := called_set.sub
  have f3 := called_set.notType
  have f4 := called_set.canCreate
  have f5 := typeCall_set_1 (.ref l)
  refine wpAny_call (codeAny_of_tree ?_)
  show wpAny _ _ (callAny (.type "set") _) _ _ _
  refine wpAny_pure ⟨Code.quiet_builtin _ (by decide +kernel), codeAny_builtin PySem.F.entry_type_call ?_⟩
  rw [Around.under_plain (weight_type_call_type "set" [.ref l] []) rfl]
  repeat (any_goals (first | assumption | wp_step))
  have made := code_set_led1 (P := P) (w := w) (A := A.in1) (s := s) (.ref l) (E := E) (Q₁ := fun obj s₁ => obj = .ref s.heap.objs.size ∧ s₁ = { s with heap := s.heap.push (bare w) }) ⟨rfl, rfl⟩
  refine codeAny_mono (by exact made) fun r s₁ hr => ?_
  rcases r with e | fl
  · exact hr
  cases fl with
  | next => exact hr.elim
  | brk => exact hr.elim
  | cont => exact hr.elim
  | ret obj =>
    obtain ⟨rfl, rfl⟩ := hr
    have atS : (s.heap.push (bare w)).get? s.heap.objs.size = some (bare w) := Heap.get?_push_size _ rfl
    have tS : Shared.TypeIs { s with heap := s.heap.push (bare w) } (.ref s.heap.objs.size) "set" := ⟨_, atS, rfl⟩
    have f6 := called_set.init.lookup
    have f7 := called_set.init.bind (.ref s.heap.objs.size)
    repeat (any_goals (first | assumption | wp_step))
    refine codeAny_mono (codeAny_call_builtin (R := wants (fun r s₂ => r = .none ∧ ∃ h' tk c, s₂ = { s with heap := h', toks := tk } ∧ SetR w h' s.heap.objs.size (fun j => decide (j ∈ ns)) c ∧ c ≤ ns.length ∧ (∀ b o, s.heap.get? b = some o → h'.get? b = some o)) E)
      called_set.init.plain entry_set_init (check_set_init_1 tS (fill_list ns (by simp [hh]) hl hi hb fun h' tk c k1 k2 k3 => ⟨rfl, h', tk, c, rfl, k1, k2, k3⟩))) fun r₂ s₂ hr₂ => ?_
    rcases r₂ with e | fl₂
    · exact hr₂
    cases fl₂ with
    | next => exact hr₂.elim
    | brk => exact hr₂.elim
    | cont => exact hr₂.elim
    | ret r =>
      obtain ⟨rfl, h', tk, c, rfl, k1, k2, k3⟩ := hr₂
      repeat (any_goals (first | assumption | wp_step))
      exact hQ _ _ _ k1 k2 k3
end
section
variable {X : Cx}
/-- set(xs) of a list or a tuple of ints -/
def qSetI (K : PySem.W.Frag) (w : World) : List V → Hp → VK → Prop := fun xs H Q => ∃ (a : Addr) (ns : List Int), xs = [.ref a] ∧ (SqL K H a (ns.map V.int) ∨ SqT K H a (ns.map V.int)) ∧ ns.length < 60 ∧
  ∀ p c, H p = none → c ≤ ns.length → Q (.ref p) (upd H p (SetO w p (fun j => decide (j ∈ ns)) c))
theorem call_qSetI (hc : X.calm = true) : CallR X (.type "set") (qSetI X.K X.w) := by
  intro pins s σ H xs us Q I r ⟨a, ns, ex, hs, hz, q⟩
  subst ex
  obtain ⟨u, eu, ru⟩ := vals1 r
  subst eu
  cases ru
  have hb : ns.length + 1 < scanBound := by
    have : (62 : Nat) ≤ scanBound := by decide
    omega
  have fin : ∀ (h' : Heap) (tk c : Nat), SetR X.w h' s.heap.objs.size (fun j => decide (j ∈ ns)) c → c ≤ ns.length → (∀ b o, s.heap.get? b = some o → h'.get? b = some o) → EP X pins σ Q (.ref s.heap.objs.size) { s with heap := h', toks := tk } :=
    fun h' tk c k1 k2 k3 => ⟨.ref _, _, I.laid k3 (Nat.le_refl _) (setO_new k1), rfl, q _ c (I.hok.fresh (Nat.le_refl _)) k2⟩
  rcases hs with hs | hs
  · obtain ⟨its, rv, pl, _⟩ := I.list hs
    exact set_of_list ns (I.ok.hd hc) pl.isList (by simpa using ints_of_vals rv) hb fin
  · obtain ⟨its, rv, pl, _⟩ := I.tuple hs
    exact call_set_tupI ns (I.ok.hd hc) pl (by simpa using ints_of_vals rv) hb fin
end
end DS
end
section
set_option Elab.async false
set_option linter.all false
set_option maxRecDepth 100000
set_option maxHeartbeats 4000000
/-! JL: sorted(t) of a tuple of ints; which item min(xs, key=len, default=None) gives. -/
namespace JL
open PySem PySem.Spec PyProof.Rows L2 PySem.F
section
variable {prog : Program} {w : World} {A : Around} {E : Value → Shared → Prop} {s : Shared}
/-- the heap behind the collecting of the items -/
def gath (h : Heap) (xs : Array Value) : Heap := (h.push { cls := .type "list", data := .seq ([] : List Value).toArray }).update h.objs.size (Obj.mapSeq (· ++ xs))
theorem gath_size (h : Heap) (xs : Array Value) : (gath h xs).objs.size = h.objs.size + 1 := by
  unfold gath
  rw [Heap.size_update]
  exact Heap.size_push ..
theorem gath_old {h : Heap} {xs : Array Value} {b : Addr} {u : Obj} (q : h.get? b = some u) : (gath h xs).get? b = some u := by
  unfold gath
  rw [Heap.get?_update_other _ _ (Nat.ne_of_gt (Heap.lt_size q))]
  exact Heap.get?_push_of_some _ q
theorem collect_any {l : Addr} {T : String} {u : Obj} {xs : Array Value} {n : Nat} {Q : List Value → Shared → Prop} (hT : T = "list" ∨ T = "tuple") (hu : s.heap.get? l = some u) (hc : u.cls = .type T) (hd : u.data = .seq xs n) (hz : xs.size ≤ sizeLine)
    (hQ : Q xs.toList { s with heap := gath s.heap xs }) : wpAny (model prog w) A (collect (.ref l)) Q E s := by
  have new0 : (s.heap.push { cls := .type "list", data := .seq ([] : List Value).toArray }).get? s.heap.objs.size = some { cls := .type "list", data := .seq #[] 0 } := Heap.get?_push_size _ rfl
  have new1 := Heap.get?_update_self (Obj.mapSeq (· ++ xs)) new0 rfl
  have last : wpAny (model prog w) A (do
      let o ← load s.heap.objs.size
      match o.data with
      | .seq ys _ => pure ys.toList
      | _ => unsupported "internal:collect") Q E { s with heap := gath s.heap xs } := by
    refine wpAny_bind (wpAny_load new1 (wpAny_pure ?_))
    have e : ((#[] : Array Value) ++ xs).toList = xs.toList := by rw [Array.empty_append]
    show Q ((#[] : Array Value) ++ xs).toList { s with heap := gath s.heap xs }
    rw [e]
    exact hQ
  have grow := wpAny_extend_seq (prog := prog) (w := w) (hsz := hz) (A := A) (R := fun r z => r = .ok (.ret (.ref s.heap.objs.size)) ∧ z = { s with heap := gath s.heap xs })
    (s := { s with heap := s.heap.push { cls := .type "list", data := .seq ([] : List Value).toArray } }) _ l _ 0 hT new0 (Heap.get?_push_of_some _ hu) hc hd ⟨rfl, rfl⟩
  show wpAny _ _ (runValue (.builtin "proto.collect" ⟨[.ref l], []⟩) >>= _) _ _ _
  refine wpAny_bind (wpAny_runValue (codeAny_builtin entry_proto_collect ?_))
  rw [Around.under_plainId plain_proto_collect _]
  show wpAny _ _ (newList [] >>= fun z => again (.builtin "list.__iadd__" ⟨[z, .ref l], []⟩)) _ _ _
  refine wpAny_bind (wpAny_newObj_type (wpAny_pure ⟨plainId_quiet plain_list_iadd _, codeAny_builtin PySem.F.entry_list_iadd ?_⟩))
  rw [Around.under_plainId plain_list_iadd _]
  refine wpAny_mono grow (fun f z hz' => ?_) fun e z hz' => absurd hz'.1 (by simp)
  cases f with
  | done f =>
    obtain ⟨e, rfl⟩ := hz'
    cases e
    exact last
  | again c' => exact ⟨hz'.1, codeAny_mono hz'.2 fun r z' ⟨h1, h2⟩ => by subst h1 h2; exact last⟩
/-- sorted(x): x a list or a tuple -/
theorem sorted_seq {l : Addr} {T : String} {o : Obj} {n : Nat} {vs : List Value} {ltv : Value → Value → Bool} {Q : Value → Shared → Prop} (O : SrtO.Swo ltv) (hT : T = "list" ∨ T = "tuple")
    (ho : s.heap.get? l = some o) (hc : o.cls = .type T) (hd : o.data = .seq vs.toArray n) (hz : vs.length ≤ sizeLine)
    (hS : 2 ≤ vs.length → ∀ (h₁ : Heap) (a : Addr), SrtO.SortableO prog w A.in1.in1 { s with heap := h₁ } a vs ltv)
    (h : ∀ (h' : Heap) (p : Addr) (out : List Value) (e : Nat), SrtO.Srtd ltv out → SrtO.Stb ltv out vs → (∀ b o', s.heap.get? b = some o' → h'.get? b = some o') → s.heap.objs.size ≤ p → h'.get? p = some (seqObj "list" out.toArray e) → Q (.ref p) { s with heap := h' }) :
    wpAny (model prog w) A (call (.builtin "sorted") [.ref l]) Q E s := by
  refine Calls.call_function_entry kind_sorted plain_sorted entry_sorted (args_sorted1 _) ?_
  unfold Builtin.«sorted»
  refine wpAny_bind (m := checkCount "sorted" 1 1 _) (wpAny_pure ?_)
  refine wpAny_bind (collect_any hT ho hc hd (by rw [List.size_toArray]; exact hz) ?_)
  have hlist : (vs.toArray).toList = vs := rfl
  rw [hlist]
  refine wpAny_bind (wpAny_newList ?_ hz)
  have hoL : ((gath s.heap vs.toArray).push (seqObj "list" vs.toArray 0)).get? (gath s.heap vs.toArray).objs.size = some (seqObj "list" vs.toArray 0) := Heap.get?_push_size _ rfl
  refine wpAny_bind (wpAny_holding (wpAny_call_entry PyProof.Rows.slot_list_sort ⟨_, hoL, rfl⟩ PyProof.Rows.entry_list_sort (SrtO.list_sort_ord O hoL hz (fun h2 => hS h2 _ _) fun out hs hb => ⟨_, rfl, ?_⟩) (args_list_sort _)))
  obtain ⟨e, he⟩ := sortedHeap_at (out := out.toArray) hoL
  refine wpAny_pure ⟨_, rfl, h _ _ out e hs hb (fun b o' q => ?_) (by rw [gath_size]; omega) he⟩
  have q1 : (gath s.heap vs.toArray).get? b = some o' := gath_old q
  have lt := Heap.lt_size q1
  have q2 : ((gath s.heap vs.toArray).push (seqObj "list" vs.toArray 0)).get? b = some o' := Heap.get?_push_of_some _ q1
  rw [sortedHeap_old (Nat.ne_of_lt lt) (Heap.lt_size q2)]
  exact q2
end
section
variable {X : Cx}
/-- sorted(x) of a list or a tuple of ints -/
def rSortedAny (K : PySem.W.Frag) : List V → Hp → VK → Prop := fun vs H Q => ∃ (a : Addr) (ns : List Int), vs = [V.ref a] ∧ (SqL K H a (ns.map V.int) ∨ SqT K H a (ns.map V.int)) ∧
  ∀ (ns' : List Int) (p : Addr), ns'.Perm ns → ns'.Pairwise (· ≤ ·) → H p = none → Q (.ref p) (upd H p (.lst (ns'.map V.int)))
theorem cr_sortedAny : CallR X (.builtin "sorted") (rSortedAny X.K) := by
  intro pins s σ H vs us Q I r h
  obtain ⟨a, ns, ex, hs, q⟩ := h
  subst ex
  rw [Vals.ref1 r]
  have main : ∀ (T : String) (o : Obj) (n : Nat) (its : List Value), (T = "list" ∨ T = "tuple") → s.heap.get? a = some o → o.cls = .type T → o.data = .seq its.toArray n → Vals (ns.map V.int) its → (ns.map V.int).length ≤ sizeLine → wpAny (model X.prog X.w) X.A (call (.builtin "sorted") [.ref a]) (EP X pins σ Q) X.xe s := fun T o n its hT ho hc hd rv hz => by
    have hi := rv.ints
    refine sorted_seq SrtO.swo_int hT ho hc hd (by rw [← rv.length]; exact hz) (fun h2 h₁ a' => SrtO.ints_sortable hi h2) fun h' p out e h1 h2 keep hp he' => ?_
    obtain ⟨k1, k2, k3⟩ := SrtO.ints_out hi h1 h2
    have hlen : ((out.map SrtO.iv).map V.int).length ≤ sizeLine := by
      rw [List.length_map, k2.length_eq]
      rw [List.length_map] at hz
      exact hz
    exact ⟨.ref _, upd H p (.lst ((out.map SrtO.iv).map V.int)), I.laid (t' := s.toks) keep hp ⟨hlen, out, e, vals_of_ints k1, he'⟩, rfl, q _ _ k2 k3 (I.hok.fresh hp)⟩
  rcases hs with hs | hs
  · obtain ⟨its, rv, ⟨o, n, ho, hc, _, hd⟩, hz⟩ := I.list hs
    exact main "list" o n its (.inl rfl) ho hc hd rv hz
  · obtain ⟨its, rv, ⟨o, ho, hc, n, hd⟩, hz⟩ := I.tuple hs
    exact main "tuple" o n its (.inr rfl) ho hc hd rv hz
end
end JL
end
section
set_option Elab.async false
set_option linter.all false
set_option maxRecDepth 100000
set_option maxHeartbeats 1000000
/-! J3: the operators' readings do what the small language says. -/
namespace J
open PySem L2 PyProof.Rows
open IL (D Ow Slot Val CR RV Fl Bop Cop)

section
variable {C : Ctx} {δ δ' δ1 δ2 : Env} {σ σ' σ1 : St} {G H G' H' G1 H1 G2 H2 : Hp}
def Op2 (C : Ctx) (r : R2) (o : D → D → Option Val) : Prop := ∀ δ σ G H u v d e x Q, Stt C.K δ σ G H → Tp C.K G H u d → Tp C.K G H v e → o d e = some x → Want (relV C.K) C δ σ G H (.ok x δ) Q → r u v H Q
def Op1 (C : Ctx) (r : V → Hp → VK → Prop) (o : D → Option Val) : Prop := ∀ δ σ G H u d x Q, Stt C.K δ σ G H → Tp C.K G H u d → o d = some x → Want (relV C.K) C δ σ G H (.ok x δ) Q → r u H Q
theorem want_op1 {α β : Type} {rel : Rel α β} {o : D → Option α} {x : Val} {Q : β → Hp → Prop} {P : Prop} (w : Want rel C δ σ G H (IL.op1 o x δ) Q) (h : ∀ d a, IL.cur δ x = some d → o d = some a → Want rel C δ σ G H (.ok a δ) Q → P) : P := by
  unfold IL.op1 at w
  cases h1 : IL.cur δ x with
  | none => rw [h1] at w; exact w.elim
  | some d =>
    rw [h1] at w
    cases h2 : o d with
    | none =>
      simp only [Option.bind_some, h2] at w
      exact w.elim
    | some a =>
      simp only [Option.bind_some, h2] at w
      exact h d a h1 h2 w
theorem want_op2 {α β : Type} {rel : Rel α β} {o : D → D → Option α} {x y : Val} {Q : β → Hp → Prop} {P : Prop} (w : Want rel C δ σ G H (IL.op2 o x y δ) Q) (h : ∀ d e a, IL.cur δ x = some d → IL.cur δ y = some e → o d e = some a → Want rel C δ σ G H (.ok a δ) Q → P) : P := by
  unfold IL.op2 at w
  cases h1 : IL.cur δ x with
  | none => rw [h1] at w; exact w.elim
  | some d =>
    rw [h1] at w
    cases h2 : IL.cur δ y with
    | none =>
      simp only [Option.bind_some, h2, Option.bind_none] at w
      exact w.elim
    | some e =>
      cases h3 : o d e with
      | none =>
        simp only [Option.bind_some, h2, h3] at w
        exact w.elim
      | some a =>
        simp only [Option.bind_some, h2, h3] at w
        exact h d e a h1 h2 h3 w
theorem je_op2 {ta tb : TE} {fa fb : Env → IL.R Val} {r : R2} {o : D → D → Option Val} (hr : Op2 C r o) (ha : JE (relV C.K) C ta fa) (hb : JE (relV C.K) C tb fb) :
    JE (relV C.K) C (tOp r ta tb) (fun δ => (fa δ).bind fun x δ1 => (fb δ1).bind fun y δ2 => IL.op2 o x y δ2) := fun δ σ G H S Q w =>
  ha δ σ G H S _ (want_bind back_V w fun x δ1 u G1 H1 a1 r1 w1 => hb δ1 σ G1 H1 a1.st _ (want_bind back_V w1 fun y δ2 v G2 H2 a2 r2 w2 =>
    want_op2 w2 fun d e a h1 h2 h3 w3 => hr δ2 σ G2 H2 u v d e a Q a2.st (cur_tp a2.st (r1.later a2) h1) (cur_tp a2.st r2 h2) h3 w3))
theorem je_op1 {ta : TE} {fa : Env → IL.R Val} {r : V → Hp → VK → Prop} {o : D → Option Val} (hr : Op1 C r o) (ha : JE (relV C.K) C ta fa) :
    JE (relV C.K) C (tUn r ta) (fun δ => (fa δ).bind fun x δ1 => IL.op1 o x δ1) := fun δ σ G H S Q w =>
  ha δ σ G H S _ (want_bind back_V w fun x δ1 u G1 H1 a1 r1 w1 => want_op1 w1 fun d a h1 h3 w3 => hr δ1 σ G1 H1 u d a Q a1.st (cur_tp a1.st r1 h1) h3 w3)
/-! ### arithmetic -/
open DR (orR)
def rBop (K : PySem.W.Frag) : Bop → R2
  | .add => orR (rI0 fun i j => .int (i + j)) (orR DR.qAddS (orR (DR.qCatL K) (rCatA K)))
  | .sub => rI0 fun i j => .int (i - j)
  | .mul => orR (rI CMul fun i j => .int (i * j)) (rI CMulW fun i j => .int (i * j))
  | .fdiv => rI CDivW fun i j => .int (i / j)
  | .mod => rI (fun _ j => 0 < j) fun i j => .int (i % j)
  | .pow => rI CPow fun i j => .int (i ^ j.toNat)
def opA : Bop → Operator
  | .add => .Add
  | .sub => .Sub
  | .mul => .Mult
  | .fdiv => .FloorDiv
  | .mod => .Mod
  | .pow => .Pow
theorem bop_ok {X : Cx} : ∀ o : Bop, OpR X (binaryOp (opA o)) (rBop X.K o)
  | .add => DR.or_op op_add (DR.or_op DR.op_qAddS (DR.or_op DR.op_qCatL op_catA))
  | .sub => op_sub
  | .mul => DR.or_op op_mul op_mulW
  | .fdiv => op_fdivW
  | .mod => op_mod
  | .pow => op_pow
theorem abs64 {i : Int} (h : i.natAbs < 2 ^ 64) : -(2 ^ 64) < i ∧ i < 2 ^ 64 := by omega
theorem bop_does : ∀ o : Bop, Op2 C (rBop C.K o) (IL.binop o)
  | .add => fun δ σ G H u v d e x Q S hu hv h w => by
    cases d with
    | int i =>
      cases e with
      | int j =>
        cases h
        exact .inl ⟨i, j, hu.int_of, hv.int_of, w.now S (.int _)⟩
      | _ => cases h
    | str a =>
      cases e with
      | str b =>
        simp only [IL.binop] at h
        split at h
        · rename_i hz
          cases h
          exact .inr (.inl ⟨a, b, hu.str_of, hv.str_of, hz, w.now S (.str _)⟩)
        · cases h
      | _ => cases h
    | list a =>
      cases e with
      | list b =>
        simp only [IL.binop] at h
        split at h
        · rename_i hz
          cases h
          obtain ⟨p, xs, eu, hp, hx⟩ := hu.list_of S.gh
          obtain ⟨q, ys, ev, hq, hy⟩ := hv.list_of S.gh
          refine .inr (.inr (.inl ⟨p, q, xs, ys, eu, ev, hp, hq, ?_, fun l hl => w.newLst S hl (hx.append hy)⟩))
          rw [DpAll.length hx, DpAll.length hy]
          exact hz
        · cases h
      | _ => cases h
    | tuple a =>
      cases e with
      | tuple b =>
        simp only [IL.binop] at h
        split at h
        · rename_i hz
          cases h
          obtain ⟨p, xs, eu, hp, hx⟩ := hu.tuple_of S.gh
          obtain ⟨q, ys, ev, hq, hy⟩ := hv.tuple_of S.gh
          have du : Dp C.K G u (.tuple a) := by
            cases hu with
            | im z => exact z
          have dv : Dp C.K G v (.tuple b) := by
            cases hv with
            | im z => exact z
          refine .inr (.inr (.inr ⟨p, q, xs, ys, eu, ev, hp, hq, ?_, fun z => ?_, fun _ z => ?_, fun _ _ l hl => w.newTup S hl (hx.append hy)⟩))
          · rw [DpAll.length hx, DpAll.length hy]
            exact hz
          · subst z
            cases hx
            subst ev
            exact w.now S dv
          · subst z
            cases hy
            subst eu
            refine w.now S ?_
            rw [List.append_nil]
            exact du
        · cases h
      | _ => cases h
    | _ => cases e <;> cases h
  | .sub => fun δ σ G H u v d e x Q S hu hv h w => by
    cases d with
    | int i =>
      cases e with
      | int j =>
        cases h
        exact ⟨i, j, hu.int_of, hv.int_of, w.now S (.int _)⟩
      | _ => cases h
    | _ => cases e <;> cases h
  | .mul => fun δ σ G H u v d e x Q S hu hv h w => by
    cases d with
    | int i =>
      cases e with
      | int j =>
        simp only [IL.binop] at h
        split at h
        · rename_i hz
          cases h
          rcases hz with hz | hz
          · exact .inl ⟨i, j, hu.int_of, hv.int_of, hz.imp abs64 abs64, w.now S (.int _)⟩
          · exact .inr ⟨i, j, hu.int_of, hv.int_of, hz, w.now S (.int _)⟩
        · cases h
      | _ => cases h
    | _ => cases e <;> cases h
  | .fdiv => fun δ σ G H u v d e x Q S hu hv h w => by
    cases d with
    | int i =>
      cases e with
      | int j =>
        simp only [IL.binop] at h
        split at h
        · rename_i hz
          cases h
          exact ⟨i, j, hu.int_of, hv.int_of, hz, w.now S (.int _)⟩
        · cases h
      | _ => cases h
    | _ => cases e <;> cases h
  | .mod => fun δ σ G H u v d e x Q S hu hv h w => by
    cases d with
    | int i =>
      cases e with
      | int j =>
        simp only [IL.binop] at h
        split at h
        · rename_i hz
          cases h
          exact ⟨i, j, hu.int_of, hv.int_of, hz, w.now S (.int _)⟩
        · cases h
      | _ => cases h
    | _ => cases e <;> cases h
  | .pow => fun δ σ G H u v d e x Q S hu hv h w => by
    cases d with
    | int i =>
      cases e with
      | int j =>
        simp only [IL.binop] at h
        split at h
        · rename_i hz
          cases h
          exact ⟨i, j, hu.int_of, hv.int_of, hz, w.now S (.int _)⟩
        · cases h
      | _ => cases h
    | _ => cases e <;> cases h
def rNeg : V → Hp → VK → Prop := rU fun i => .int (-i)
theorem neg_does : Op1 C rNeg IL.negV := fun δ σ G H u d x Q S hu h w => by
  cases d with
  | int i =>
    cases h
    exact ⟨i, hu.int_of, w.now S (.int _)⟩
  | _ => cases h
/-! ### comparisons -/
def rCop (K : PySem.W.Frag) : Cop → R2
  | .eq => DR.qEq K false
  | .ne => DR.qEq K true
  | .lt => DR.qOrd K .lt
  | .le => DR.qOrd K .le
  | .gt => DR.qOrd K .gt
  | .ge => DR.qOrd K .ge
  | .isin => orR (DR.qIn K false) (DR.qInS false)
  | .notin => orR (DR.qIn K true) (DR.qInS true)
def copA : Cop → CmpOp
  | .eq => .Eq
  | .ne => .NotEq
  | .lt => .Lt
  | .le => .LtE
  | .gt => .Gt
  | .ge => .GtE
  | .isin => .In
  | .notin => .NotIn
theorem cop_ok {X : Cx} (hu : X.A.units + 64 < cLine) : ∀ o : Cop, OpR X (compareOp (copA o)) (rCop X.K o)
  | .eq => DR.op_qEq hu
  | .ne => DR.op_qNe hu
  | .lt => DR.op_qLt hu
  | .le => DR.op_qLe hu
  | .gt => DR.op_qGt hu
  | .ge => DR.op_qGe hu
  | .isin => DR.or_op (DR.op_qIn hu) DR.op_qInS
  | .notin => DR.or_op (DR.op_qNotIn hu) DR.op_qNotInS
theorem plain2_of {d e : D} (h : IL.plain2 d e = true) : DR.Plain2 d e := by
  simp only [IL.plain2, Bool.and_eq_true, decide_eq_true_eq] at h
  exact ⟨h.1.1, h.1.2, h.2⟩
theorem orderd_of {d e : D} (h : IL.orderd d e = true) : DR.Ordered d e := by
  simp only [IL.orderd, Bool.and_eq_true, decide_eq_true_eq] at h
  refine ⟨h.1.1, fun z => ?_, h.2⟩
  rw [z] at h
  exact absurd h.1.2 (by decide)
theorem isIn_does {neg : Bool} {δ : Env} {σ : St} {G H : Hp} {u v : V} {d e : D} {b : Bool} {Q : VK} (S : Stt C.K δ σ G H) (hu : Tp C.K G H u d) (hv : Tp C.K G H v e) (h : IL.isIn d e = some b) (q : Q (.bl (if neg = true then !b else b)) H) : orR (DR.qIn C.K neg) (DR.qInS neg) u v H Q := by
  have fin : ∀ es : List D, IL.memOk d es = true → b = IL.mem d es → (Dp C.K H v (.list es) ∨ Dp C.K H v (.tuple es)) → orR (DR.qIn C.K neg) (DR.qInS neg) u v H Q := fun es hm hb hd => by
    simp only [IL.memOk, Bool.and_eq_true, decide_eq_true_eq] at hm
    subst hb
    exact .inl ⟨d, es, hu.dp S.gh, hd, hm.1.1, hm.1.2, hm.2, q⟩
  cases e with
  | list es =>
    have hv' := hv.dp S.gh
    have h' : (if IL.memOk d es = true then some (IL.mem d es) else none) = some b := by
      cases d <;> exact h
    split at h'
    · rename_i hm
      exact fin es hm (Option.some.inj h').symm (.inl hv')
    · cases h'
  | tuple es =>
    have hv' := hv.dp S.gh
    have h' : (if IL.memOk d es = true then some (IL.mem d es) else none) = some b := by
      cases d <;> exact h
    split at h'
    · rename_i hm
      exact fin es hm (Option.some.inj h').symm (.inr hv')
    · cases h'
  | str z =>
    cases d with
    | str c =>
      simp only [IL.isIn] at h
      split at h
      · rename_i n hn
        cases h
        have ec : c = ⟨#[n]⟩ := by
          cases c with
          | mk a =>
            have : a.toList = [n] := hn
            have : a = #[n] := by
              rw [← Array.toArray_toList (xs := a), this]
            rw [this]
        refine .inr ⟨n, z, ?_, hv.str_of, q⟩
        rw [← ec]
        exact hu.str_of
      · cases h
    | _ => cases h
  | _ => cases d <;> cases h
theorem cop_do : ∀ (o : Cop) {δ : Env} {σ : St} {G H : Hp} {u v : V} {d e : D} {b : Bool} {Q : VK}, Stt C.K δ σ G H → Tp C.K G H u d → Tp C.K G H v e → IL.cmpop o d e = some b → Q (.bl b) H → rCop C.K o u v H Q
  | .eq, δ, σ, G, H, u, v, d, e, b, Q, S, hu, hv, h, q => by
    simp only [IL.cmpop] at h
    split at h
    · rename_i hp
      cases h
      exact ⟨d, e, hu.dp S.gh, hv.dp S.gh, plain2_of hp, q⟩
    · cases h
  | .ne, δ, σ, G, H, u, v, d, e, b, Q, S, hu, hv, h, q => by
    simp only [IL.cmpop] at h
    split at h
    · rename_i hp
      cases h
      exact ⟨d, e, hu.dp S.gh, hv.dp S.gh, plain2_of hp, q⟩
    · cases h
  | .lt, δ, σ, G, H, u, v, d, e, b, Q, S, hu, hv, h, q => by
    simp only [IL.cmpop] at h
    split at h
    · rename_i hp
      cases h
      exact ⟨d, e, hu.dp S.gh, hv.dp S.gh, orderd_of hp, q⟩
    · cases h
  | .le, δ, σ, G, H, u, v, d, e, b, Q, S, hu, hv, h, q => by
    simp only [IL.cmpop] at h
    split at h
    · rename_i hp
      cases h
      exact ⟨d, e, hu.dp S.gh, hv.dp S.gh, orderd_of hp, q⟩
    · cases h
  | .gt, δ, σ, G, H, u, v, d, e, b, Q, S, hu, hv, h, q => by
    simp only [IL.cmpop] at h
    split at h
    · rename_i hp
      cases h
      exact ⟨d, e, hu.dp S.gh, hv.dp S.gh, orderd_of hp, q⟩
    · cases h
  | .ge, δ, σ, G, H, u, v, d, e, b, Q, S, hu, hv, h, q => by
    simp only [IL.cmpop] at h
    split at h
    · rename_i hp
      cases h
      exact ⟨d, e, hu.dp S.gh, hv.dp S.gh, orderd_of hp, q⟩
    · cases h
  | .isin, δ, σ, G, H, u, v, d, e, b, Q, S, hu, hv, h, q => isIn_does (neg := false) S hu hv h q
  | .notin, δ, σ, G, H, u, v, d, e, b, Q, S, hu, hv, h, q => by
    simp only [IL.cmpop, Option.map_eq_some_iff] at h
    obtain ⟨a, h, rfl⟩ := h
    exact isIn_does (neg := true) S hu hv h q
theorem cop_does (o : Cop) : Op2 C (rCop C.K o) (IL.cmpV o) := fun δ σ G H u v d e x Q S hu hv h w => by
  unfold IL.cmpV at h
  simp only [Option.map_eq_some_iff] at h
  obtain ⟨b, h, rfl⟩ := h
  exact cop_do o S hu hv h (w.now S (.bl b))
theorem je_cmpT {ta tb : TE} {fa fb : Env → IL.R Val} (o : Cop) (ha : JE (relV C.K) C ta fa) (hb : JE (relV C.K) C tb fb) :
    JE (relE Bool) C (tTest (tOp (rCop C.K o) ta tb)) (fun δ => (fa δ).bind fun x δ1 => (fb δ1).bind fun y δ2 => IL.op2 (IL.cmpop o) x y δ2) := fun δ σ G H S Q w =>
  ha δ σ G H S _ (want_bind back_E w fun x δ1 u G1 H1 a1 r1 w1 => hb δ1 σ G1 H1 a1.st _ (want_bind back_E w1 fun y δ2 v G2 H2 a2 r2 w2 =>
    want_op2 w2 fun d e a h1 h2 h3 w3 => cop_do o a2.st (cur_tp a2.st (r1.later a2) h1) (cur_tp a2.st r2 h2) h3 ⟨a, rfl, w3.now a2.st rfl⟩))
/-! ### is None -/
theorem isNone_v (S : Stt C.K δ σ G H) {v : V} {d : D} (h : Tp C.K G H v d) : decide (v = .non) = IL.isNoneD d := by
  have q := h.dp S.gh
  cases q <;> simp [IL.isNoneD]
theorem je_isN {ta : TE} {fa : Env → IL.R Val} (ha : JE (relV C.K) C ta fa) : JE (relV C.K) C (tIsN ta) (fun δ => (fa δ).bind fun x δ1 => IL.op1 (fun d => some (.dat (.bool (IL.isNoneD d)))) x δ1) := fun δ σ G H S Q w =>
  ha δ σ G H S _ (want_bind back_V w fun x δ1 u G1 H1 a1 r1 w1 => want_op1 w1 fun d a h1 h3 w3 => by
    cases h3
    show Q (.bl (decide (u = .non))) H1
    rw [isNone_v a1.st (cur_tp a1.st r1 h1)]
    exact w3.now a1.st (.bl _))
theorem je_notN {ta : TE} {fa : Env → IL.R Val} (ha : JE (relV C.K) C ta fa) : JE (relV C.K) C (tNotN ta) (fun δ => (fa δ).bind fun x δ1 => IL.op1 (fun d => some (.dat (.bool (!IL.isNoneD d)))) x δ1) := fun δ σ G H S Q w =>
  ha δ σ G H S _ (want_bind back_V w fun x δ1 u G1 H1 a1 r1 w1 => want_op1 w1 fun d a h1 h3 w3 => by
    cases h3
    show Q (.bl (!decide (u = .non))) H1
    rw [isNone_v a1.st (cur_tp a1.st r1 h1)]
    exact w3.now a1.st (.bl _))
theorem je_isNT {ta : TE} {fa : Env → IL.R Val} (ha : JE (relV C.K) C ta fa) : JE (relE Bool) C (tB (tIsN ta)) (fun δ => (fa δ).bind fun x δ1 => IL.op1 (fun d => some (IL.isNoneD d)) x δ1) := fun δ σ G H S Q w =>
  ha δ σ G H S _ (want_bind back_E w fun x δ1 u G1 H1 a1 r1 w1 => want_op1 w1 fun d a h1 h3 w3 => by
    cases h3
    refine ⟨decide (u = .non), rfl, ?_⟩
    rw [isNone_v a1.st (cur_tp a1.st r1 h1)]
    exact w3.now a1.st rfl)
theorem je_notNT {ta : TE} {fa : Env → IL.R Val} (ha : JE (relV C.K) C ta fa) : JE (relE Bool) C (tB (tNotN ta)) (fun δ => (fa δ).bind fun x δ1 => IL.op1 (fun d => some (!IL.isNoneD d)) x δ1) := fun δ σ G H S Q w =>
  ha δ σ G H S _ (want_bind back_E w fun x δ1 u G1 H1 a1 r1 w1 => want_op1 w1 fun d a h1 h3 w3 => by
    cases h3
    refine ⟨!decide (u = .non), rfl, ?_⟩
    rw [isNone_v a1.st (cur_tp a1.st r1 h1)]
    exact w3.now a1.st rfl)
/-! ### truth, and, or, not, if -/
theorem truth_do (S : Stt C.K δ σ G H) {v : V} {d : D} {b : Bool} (h : Tp C.K G H v d) (t : IL.truth d = some b) : TruV C.K v H b := by
  cases d with
  | none => rw [h.none_of]; cases t; rfl
  | bool k => rw [h.bool_of]; cases t; rfl
  | int i => rw [h.int_of]; cases t; rfl
  | str s =>
    rw [h.str_of]
    simp only [IL.truth] at t
    split at t
    · rename_i hz
      refine ⟨hz, ?_⟩
      have t' := (Option.some.inj t).symm
      rw [t']
      cases hl : s.length <;> simp <;> omega
    · cases t
  | list ds =>
    cases t
    obtain ⟨a, vs, rfl, hs, hv⟩ := h.list_of S.gh
    refine .inl ⟨vs, hs, ?_⟩
    cases hv <;> rfl
  | tuple ds =>
    cases t
    obtain ⟨a, vs, rfl, hs, hv⟩ := h.tuple_of S.gh
    refine .inr (.inl ⟨vs, hs, ?_⟩)
    cases hv <;> rfl
  | dict kvs => cases t
def tTr (K : PySem.W.Frag) (ta : TE) : TT := fun σ H Q => ta σ H fun x H' => ∃ k, TruV K x H' k ∧ Q k H'
theorem je_truth {ta : TE} {fa : Env → IL.R Val} (ha : JE (relV C.K) C ta fa) : JE (relE Bool) C (tTr C.K ta) (fun δ => (fa δ).bind fun x δ1 => IL.op1 IL.truth x δ1) := fun δ σ G H S Q w =>
  ha δ σ G H S _ (want_bind back_E w fun x δ1 u G1 H1 a1 r1 w1 => want_op1 w1 fun d a h1 h3 w3 => ⟨a, truth_do a1.st (cur_tp a1.st r1 h1) h3, w3.now a1.st rfl⟩)
theorem jt_not {ta : TT} {fa : Env → IL.R Bool} (ha : JE (relE Bool) C ta fa) : JE (relE Bool) C (tNot ta) (fun δ => (fa δ).bind fun b δ1 => .ok (!b) δ1) := fun δ σ G H S Q w =>
  ha δ σ G H S _ (want_bind (rel' := relE Bool) back_E w fun x δ1 u G1 H1 a1 r1 w1 => by
    have e : u = x := r1
    subst e
    exact w1.now a1.st rfl)
theorem jt_and {ta tb : TT} {fa fb : Env → IL.R Bool} (ha : JE (relE Bool) C ta fa) (hb : JE (relE Bool) C tb fb) : JE (relE Bool) C (tAnd ta tb) (fun δ => (fa δ).bind fun k δ1 => if k = true then fb δ1 else .ok false δ1) := fun δ σ G H S Q w =>
  ha δ σ G H S _ (want_bind (rel' := relE Bool) back_E w fun x δ1 u G1 H1 a1 r1 w1 => by
    have e : u = x := r1
    subst e
    cases u with
    | true =>
      simp only [if_true] at w1 ⊢
      exact hb δ1 σ G1 H1 a1.st Q w1
    | false =>
      simp only [Bool.false_eq_true, if_false] at w1 ⊢
      exact w1.now a1.st rfl)
theorem jt_or {ta tb : TT} {fa fb : Env → IL.R Bool} (ha : JE (relE Bool) C ta fa) (hb : JE (relE Bool) C tb fb) : JE (relE Bool) C (tOr ta tb) (fun δ => (fa δ).bind fun k δ1 => if k = true then .ok true δ1 else fb δ1) := fun δ σ G H S Q w =>
  ha δ σ G H S _ (want_bind (rel' := relE Bool) back_E w fun x δ1 u G1 H1 a1 r1 w1 => by
    have e : u = x := r1
    subst e
    cases u with
    | true =>
      simp only [if_true] at w1 ⊢
      exact w1.now a1.st rfl
    | false =>
      simp only [Bool.false_eq_true, if_false] at w1 ⊢
      exact hb δ1 σ G1 H1 a1.st Q w1)
theorem je_ite {tc : TT} {ta tb : TE} {fc : Env → IL.R Bool} {fa fb : Env → IL.R Val} (hc : JE (relE Bool) C tc fc) (ha : JE (relV C.K) C ta fa) (hb : JE (relV C.K) C tb fb) : JE (relV C.K) C (tIf tc ta tb) (fun δ => (fc δ).bind fun k δ1 => if k = true then fa δ1 else fb δ1) := fun δ σ G H S Q w =>
  hc δ σ G H S _ (want_bind (rel' := relE Bool) back_V w fun x δ1 u G1 H1 a1 r1 w1 => by
    have e : u = x := r1
    subst e
    cases u with
    | true =>
      simp only [if_true] at w1 ⊢
      exact ha δ1 σ G1 H1 a1.st Q w1
    | false =>
      simp only [Bool.false_eq_true, if_false] at w1 ⊢
      exact hb δ1 σ G1 H1 a1.st Q w1)
theorem je_not {ta : TE} {fa : Env → IL.R Val} (ha : JE (relV C.K) C ta fa) : JE (relV C.K) C (tNotV ta) (fun δ => (fa δ).bind fun x δ1 => match x with
    | .dat (.bool b) => .ok (.dat (.bool (!b))) δ1
    | _ => .no) := fun δ σ G H S Q w =>
  ha δ σ G H S _ (want_bind back_V w fun x δ1 u G1 H1 a1 r1 w1 => by
    cases x with
    | dat d =>
      cases d with
      | bool b => exact ⟨b, Dp.bool_of r1, w1.now a1.st (.bl _)⟩
      | _ => exact w1.elim
    | _ => exact w1.elim)
theorem je_and {ta tb : TE} {fa fb : Env → IL.R Val} (ha : JE (relV C.K) C ta fa) (hb : JE (relV C.K) C tb fb) : JE (relV C.K) C (tAndV ta tb) (fun δ => (fa δ).bind fun x δ1 => match x with
    | .dat (.bool true) => fb δ1
    | .dat (.bool false) => .ok (.dat (.bool false)) δ1
    | _ => .no) := fun δ σ G H S Q w =>
  ha δ σ G H S _ (want_bind back_V w fun x δ1 u G1 H1 a1 r1 w1 => by
    cases x with
    | dat d =>
      cases d with
      | bool b =>
        refine ⟨b, Dp.bool_of r1, ?_⟩
        cases b with
        | true =>
          rw [if_pos rfl]
          exact hb δ1 σ G1 H1 a1.st Q w1
        | false =>
          rw [if_neg Bool.false_ne_true]
          exact w1.now a1.st (.bl _)
      | _ => exact w1.elim
    | _ => exact w1.elim)
theorem je_or {ta tb : TE} {fa fb : Env → IL.R Val} (ha : JE (relV C.K) C ta fa) (hb : JE (relV C.K) C tb fb) : JE (relV C.K) C (tOrV ta tb) (fun δ => (fa δ).bind fun x δ1 => match x with
    | .dat (.bool false) => fb δ1
    | .dat (.bool true) => .ok (.dat (.bool true)) δ1
    | _ => .no) := fun δ σ G H S Q w =>
  ha δ σ G H S _ (want_bind back_V w fun x δ1 u G1 H1 a1 r1 w1 => by
    cases x with
    | dat d =>
      cases d with
      | bool b =>
        refine ⟨b, Dp.bool_of r1, ?_⟩
        cases b with
        | false =>
          rw [if_neg Bool.false_ne_true]
          exact hb δ1 σ G1 H1 a1.st Q w1
        | true =>
          rw [if_pos rfl]
          exact w1.now a1.st (.bl _)
      | _ => exact w1.elim
    | _ => exact w1.elim)
/-! ### names, constants, displays -/
theorem je_var (i : Nat) : JE (relV C.K) C (tVar i) (fun δ => match δ[i]? with
    | some (.im d) => .ok (.dat d) δ
    | some (.ow _) => .ok (.own i) δ
    | _ => .no) := fun δ σ G H S Q w => by
  cases e : δ[i]? with
  | none => simp only [e] at w; exact w.elim
  | some s =>
    simp only [e] at w
    have q := S.env i s e
    cases s with
    | un => exact w.elim
    | im d =>
      obtain ⟨u, q1, q2⟩ := q
      exact ⟨u, q1, w.now S q2⟩
    | ow o =>
      obtain ⟨l, ho, q1, _⟩ := q
      exact ⟨.ref l, q1, w.now S q1⟩
theorem je_const {v : V} {d : D} (h : ∀ K G, Dp K G v d) : JE (relV C.K) C (tC v) (fun δ => .ok (.dat d) δ) := fun δ σ G H S Q w => w.now S (h _ _)
theorem je_fz {ta : TE} {fa : Env → IL.R Val} (ha : JE (relV C.K) C ta fa) : JE (relV C.K) C ta (fun δ => (fa δ).bind fun v δ1 => (IL.dem C.kp v δ1).bind fun d δ2 => .ok (.dat d) δ2) := fun δ σ G H S Q w =>
  ha δ σ G H S Q (want_demRk back_V w fun d δ1 v G1 H1 a r w1 => w1.now a.st r)
theorem jd_nil : JE (relDs C.K) C tNil (fun δ => .ok [] δ) := fun δ σ G H S Q w => w.now S .nil
theorem jd_cons {te : TE} {tr : TA} {fe : Env → IL.R Val} {fr : Env → IL.R (List D)} (h : JE (relV C.K) C te fe) (hr : JE (relDs C.K) C tr fr) :
    JE (relDs C.K) C (tCons te tr) (fun δ => (fe δ).bind fun v δ1 => (IL.dem C.kp v δ1).bind fun d δ2 => (fr δ2).bind fun ds δ3 => .ok (d :: ds) δ3) := fun δ σ G H S Q w =>
  h δ σ G H S _ (want_demRk back_Ds w fun d δ1 v G1 H1 a r w1 => hr δ1 σ G1 H1 a.st _ (want_bind back_Ds w1 fun ds δ2 vs G2 H2 a2 r2 w2 => w2.now a2.st (.cons (Dp.ex a2.nx.gg _ _ r) r2)))
theorem ja_nil : JE (relVs C.K) C tNil (fun δ => .ok [] δ) := fun δ σ G H S Q w => w.now S trivial
theorem ValsR.get {K : PySem.W.Frag} {H0 : Hp} : ∀ {vs : List V} {as : List Val} {k : Nat} {a : Val}, ValsR K σ δ H0 G H vs as → as[k]? = some a → ∃ v, vs[k]? = some v ∧ ValR K σ δ H0 G H v a
  | [], [], k, a, _, h => by simp at h
  | v :: vs, a' :: as, 0, a, h, e => by
    simp at e
    subst e
    exact ⟨v, rfl, h.1⟩
  | v :: vs, a' :: as, k + 1, a, h, e => by
    obtain ⟨u, h1, h2⟩ := ValsR.get (k := k) h.2.1 (by simpa using e)
    exact ⟨u, by simpa using h1, h2⟩
  | [], a :: as, k, b, h, _ => h.elim
  | v :: vs, [], k, b, h, _ => h.elim
theorem ValsR.len {K : PySem.W.Frag} {H0 : Hp} : ∀ {vs : List V} {as : List Val}, ValsR K σ δ H0 G H vs as → vs.length = as.length
  | [], [], _ => rfl
  | v :: vs, a' :: as, h => congrArg (· + 1) (ValsR.len h.2.1)
  | [], a :: as, h => h.elim
  | v :: vs, [], h => h.elim
theorem ja_cons {te : TE} {tr : TA} {fe : Env → IL.R Val} {fr : Env → IL.R (List Val)} (h : JE (relV C.K) C te fe) (hr : JE (relVs C.K) C tr fr) :
    JE (relVs C.K) C (tCons te tr) (fun δ => (fe δ).bind fun v δ1 => (fr δ1).bind fun vs δ2 => .ok (v :: vs) δ2) := fun δ σ G H S Q w =>
  h δ σ G H S _ (by
    have w' : Want (relVs C.K) C δ σ G H ((fe δ).bind fun v δ1 => (fr δ1).bind fun vs δ2 => .ok (v :: vs) δ2) Q := w
    cases e1 : fe δ with
    | no => rw [e1] at w'; exact w'.elim
    | ex c fs δ1 => rw [e1] at w'; exact w'.elim
    | ok a δ1 =>
      rw [e1] at w'
      simp only [IL.bind_ok] at w'
      intro v G1 H1 a1 r1
      refine hr δ1 σ G1 H1 a1.st _ ?_
      cases e2 : fr δ1 with
      | no => rw [e2] at w'; exact w'.elim
      | ex c fs δ2 => rw [e2] at w'; exact w'.elim
      | ok as δ2 =>
        rw [e2] at w'
        simp only [IL.bind_ok] at w'
        intro vs G2 H2 a2 r2
        refine w' (v :: vs) G2 H2 (a1.trans a2) ⟨ValR.later r1 a2, back_Vs _ _ _ _ _ _ _ _ (fun l z => a1.nx.noneOf z) r2, fun o e k o' e' hk => ?_⟩
        subst e
        obtain ⟨l, ho, z1, _, _, z2, _⟩ := r1
        obtain ⟨u, y1, l', ho', y2, y3, _⟩ := ValsR.get r2 e'
        rw [hk] at y1
        cases y1
        rw [z1] at y2
        cases y2
        rw [z2] at y3
        cases y3)
end
end J
end
section
set_option Elab.async false
set_option linter.all false
set_option maxRecDepth 100000
set_option maxHeartbeats 1000000
/-! J4: displays, subscripts, slices, methods, built-in functions. -/
namespace J
open PySem L2 PyProof.Rows
open IL (D Ow Slot Val CR RV Fl Bop Cop)
section
variable {C : Ctx} {δ δ' δ1 δ2 : Env} {σ σ' σ1 : St} {G H G' H' G1 H1 G2 H2 : Hp}
theorem je_tup {tr : TA} {fr : Env → IL.R (List D)} (h : JE (relDs C.K) C tr fr) : JE (relV C.K) C (tTup tr) (fun δ => (fr δ).bind fun ds δ1 => if ds.length ≤ sizeLine then .ok (.dat (.tuple ds)) δ1 else .no) := fun δ σ G H S Q w =>
  h δ σ G H S _ (want_bind back_V w fun ds δ1 vs G1 H1 a1 r1 w1 => by
    by_cases hz : ds.length ≤ sizeLine
    · rw [if_pos hz] at w1
      exact ⟨by rw [DpAll.length r1]; exact hz, fun p hp => w1.newTup a1.st hp r1⟩
    · rw [if_neg hz] at w1
      exact w1.elim)
theorem je_lst {tr : TA} {fr : Env → IL.R (List D)} (h : JE (relDs C.K) C tr fr) : JE (relV C.K) C (tLst tr) (fun δ => (fr δ).bind fun ds δ1 => if ds.length ≤ sizeLine then .ok (.new (.lst ds)) δ1 else .no) := fun δ σ G H S Q w =>
  h δ σ G H S _ (want_bind back_V w fun ds δ1 vs G1 H1 a1 r1 w1 => by
    by_cases hz : ds.length ≤ sizeLine
    · rw [if_pos hz] at w1
      exact ⟨by rw [DpAll.length r1]; exact hz, fun p hp => w1.newLst a1.st hp r1⟩
    · rw [if_neg hz] at w1
      exact w1.elim)
/-! ### subscripts -/
theorem atI_len {α β : Type} {xs : List α} {ys : List β} (h : xs.length = ys.length) {i : Int} {y : β} (e : atI ys i = some y) : ∃ j : Nat, ys[j]? = some y ∧ ∀ x, xs[j]? = some x → atI xs i = some x := by
  unfold atI at e ⊢
  rw [h]
  cases q : ixN ys.length i with
  | none => rw [q] at e; cases e
  | some j =>
    rw [q] at e
    exact ⟨j, e, fun x hx => hx⟩
theorem idx_does : Op2 C (rIx C.K) IL.idxV := fun δ σ G H u v d e x Q S hu hv h w => by
  unfold IL.idxV at h
  simp only [Option.map_eq_some_iff] at h
  obtain ⟨y, h, rfl⟩ := h
  cases e with
  | int i =>
    cases d with
    | list ds =>
      obtain ⟨p, vs, eu, hp, hx⟩ := hu.list_of S.gh
      have h' : atI ds i = some y := h
      obtain ⟨j, h1, h2⟩ := atI_len (DpAll.length hx) h'
      obtain ⟨z, q1, q2⟩ := DpAll.get hx h1
      exact .inl ⟨p, vs, i, z, eu, hv.int_of, hp, h2 z q1, w.now S q2⟩
    | tuple ds =>
      obtain ⟨p, vs, eu, hp, hx⟩ := hu.tuple_of S.gh
      have h' : atI ds i = some y := h
      obtain ⟨j, h1, h2⟩ := atI_len (DpAll.length hx) h'
      obtain ⟨z, q1, q2⟩ := DpAll.get hx h1
      exact .inr (.inl ⟨p, vs, i, z, eu, hv.int_of, hp, h2 z q1, w.now S q2⟩)
    | str s =>
      simp only [IL.idxop] at h
      split at h
      · rename_i hz
        simp only [Option.map_eq_some_iff] at h
        obtain ⟨c, hc, rfl⟩ := h
        exact .inr (.inr ⟨s, i, c, hu.str_of, hv.int_of, hz, hc, w.now S (.str _)⟩)
      · cases h
    | _ => cases h
  | _ => cases d <;> cases h
/-! ### slices -/
def rSli (K : PySem.W.Frag) : V → Option Int → Option Int → Hp → VK → Prop := fun x lo hi H Q => rSlL K x lo hi H Q ∨ (rSlA K x lo hi H Q ∨ rSlS x lo hi H Q)
theorem sli_ok {X : Cx} : SlR X (rSli X.K) := sl_list.or (sl_tupA.or sl_str)
theorem jo_no : JE (relE (Option Int)) C tNoPart (fun δ => .ok none δ) := fun δ σ G H S Q w => w.now S rfl
theorem jo_yes {te : TE} {fe : Env → IL.R Val} (h : JE (relV C.K) C te fe) : JE (relE (Option Int)) C (tPart te) (fun δ => (fe δ).bind fun v δ1 => IL.op1 (fun d => (IL.intD d).map some) v δ1) := fun δ σ G H S Q w =>
  h δ σ G H S _ (want_bind back_E w fun x δ1 u G1 H1 a1 r1 w1 => want_op1 w1 fun d a h1 h3 w3 => by
    cases d with
    | int i =>
      cases h3
      exact ⟨i, (cur_tp a1.st r1 h1).int_of, w3.now a1.st rfl⟩
    | _ => cases h3)
theorem DpAll.cut {K : PySem.W.Frag} {vs : List V} {ds : List D} (h : DpAll K G vs ds) (lo hi : Option Int) : DpAll K G (cutV vs lo hi) (IL.cutD ds lo hi) := by
  unfold cutV IL.cutD
  rw [← DpAll.length h]
  exact (h.drop _).take _
theorem je_sli {te : TE} {tl th : TO} {fe : Env → IL.R Val} {fl fh : Env → IL.R (Option Int)} (h : JE (relV C.K) C te fe) (hl : JE (relE (Option Int)) C tl fl) (hh : JE (relE (Option Int)) C th fh) :
    JE (relV C.K) C (tSl (rSli C.K) te tl th) (fun δ => (fe δ).bind fun x δ1 => (fl δ1).bind fun l δ2 => (fh δ2).bind fun h δ3 => IL.op1 (IL.sliop l h) x δ3) := fun δ σ G H S Q w =>
  h δ σ G H S _ (want_bind back_V w fun x δ1 u G1 H1 a1 r1 w1 => hl δ1 σ G1 H1 a1.st _ (want_bind (rel' := relE (Option Int)) back_V w1 fun l δ2 l' G2 H2 a2 e2 w2 => by
    have e2' : l' = l := e2
    subst e2'
    exact hh δ2 σ G2 H2 a2.st _ (want_bind (rel' := relE (Option Int)) back_V w2 fun m δ3 m' G3 H3 a3 e3 w3 => by
      have e3' : m' = m := e3
      subst e3'
      refine want_op1 w3 fun d a h1 h3 w4 => ?_
      have hu := cur_tp a3.st (r1.later (a2.trans a3)) h1
      have S3 := a3.st
      cases d with
      | list ds =>
        cases h3
        obtain ⟨p, vs, eu, hp, hx⟩ := hu.list_of S3.gh
        exact .inl ⟨p, vs, eu, hp, fun q hq => w4.newLst S3 hq (DpAll.cut hx _ _)⟩
      | tuple ds =>
        cases h3
        obtain ⟨p, vs, eu, hp, hx⟩ := hu.tuple_of S3.gh
        have du : Dp C.K G3 u (.tuple ds) := by
          cases hu with
          | im z => exact z
        refine .inr (.inl ⟨p, vs, eu, hp, fun hw => ?_, fun _ q hq => w4.newTup S3 hq (DpAll.cut hx _ _)⟩)
        subst eu
        refine w4.now S3 ?_
        have e : IL.cutD ds l' m' = ds := by
          unfold IL.cutD
          rw [← DpAll.length hx, hw.1, hw.2]
          simp [DpAll.length hx]
        rw [e]
        exact du
      | str s =>
        simp only [IL.sliop] at h3
        split at h3
        · rename_i hz
          cases h3
          exact .inr (.inr ⟨s, hu.str_of, hz, w4.now S3 (.str _)⟩)
        · cases h3
      | _ => cases h3)))
theorem je_rev {te : TE} {fe : Env → IL.R Val} (h : JE (relV C.K) C te fe) : JE (relV C.K) C (tRevL C.K te) (fun δ => (fe δ).bind fun x δ1 => IL.op1 IL.revop x δ1) := fun δ σ G H S Q w =>
  h δ σ G H S _ (want_bind back_V w fun x δ1 u G1 H1 a1 r1 w1 => want_op1 w1 fun d a h1 h3 w3 => by
    cases d with
    | list ds =>
      cases h3
      obtain ⟨p, vs, eu, hp, hx⟩ := (cur_tp a1.st r1 h1).list_of a1.st.gh
      exact ⟨p, vs, eu, hp, fun q hq => w3.newLst a1.st hq hx.reverse⟩
    | _ => cases h3)
/-! ### methods of a list that a slot owns -/
theorem aft_mut {i : Nat} {l : Addr} {o : Ow} {ho : HO} (S : Stt C.K δ σ G H) (ha : OwnAt δ σ i l) (r : OwR C.K G o ho) : Aft C δ σ G H (δ.set i (.ow o)) σ G (upd H l ho) := by
  obtain ⟨a, b, c⟩ := S.mut ha r
  refine ⟨a, b, fun x h => .inl (c x h), fun j x hj h => ?_, by rw [List.length_set]⟩
  obtain ⟨⟨o', e⟩, e2⟩ := h
  by_cases hij : i = j
  · subst hij
    exact ⟨⟨o, List.getElem?_set_self (List.getElem?_eq_some_iff.mp e).1⟩, e2⟩
  · exact ⟨⟨o', by rw [List.getElem?_set_ne hij]; exact e⟩, e2⟩
open IL (Mt)
def rMt : Mt → V → List V → Hp → VK → Prop
  | .append => rAppend
  | .pop => rPop
  | .insert => fun x vs H Q => ∃ (l : Addr) (xs : List V) (i : Int) (y : V), x = .ref l ∧ vs = [.int i, y] ∧ H l = some (.lst xs) ∧ xs.length < sizeLine ∧ 0 ≤ i ∧ i < 2 ^ 63 ∧ Q .non (upd H l (.lst (xs.take i.toNat ++ [y] ++ xs.drop i.toNat)))
theorem mt_does (m : Mt) (S : Stt C.K δ σ G H) {i : Nat} {l : Addr} {xs : List D} {ds : List D} {vs ws : List V} {d : D} {ys : List D} {Q : VK} (ho : OwnAt δ σ i l) (hl : H l = some (.lst vs)) (hx : DpAll C.K G vs xs) (hd : DpAll C.K G ws ds)
    (h : IL.mtop m xs ds = some (d, ys)) (w : Want (relV C.K) C δ σ G H (.ok (.dat d) (δ.set i (.ow (.lst ys)))) Q) : rMt m (.ref l) ws H Q := by
  have fin : ∀ (v : V) (us : List V), Dp C.K G v d → DpAll C.K G us ys → Q v (upd H l (.lst us)) := fun v us h1 h2 => w v G _ (aft_mut S ho ⟨us, rfl, h2⟩) h1
  cases m with
  | append =>
    cases hd with
    | nil => cases h
    | cons h1 h2 =>
      cases h2 with
      | cons _ _ => cases h
      | nil =>
        simp only [IL.mtop] at h
        split at h
        · rename_i hz
          cases h
          exact ⟨l, vs, _, rfl, rfl, hl, by rw [DpAll.length hx]; exact hz, fin _ _ .non (hx.append (.one h1))⟩
        · cases h
  | pop =>
    cases hd with
    | cons h1 h2 => cases h
    | nil =>
      simp only [IL.mtop, Option.map_eq_some_iff] at h
      obtain ⟨y, h1, h2⟩ := h
      cases h2
      obtain ⟨v, e, hv⟩ := DpAll.get hx h1
      refine ⟨l, vs, v, rfl, rfl, hl, by rw [DpAll.length hx]; exact e, fin _ _ hv ?_⟩
      have q := hx.take (vs.length - 1)
      rw [List.dropLast_eq_take, List.dropLast_eq_take, ← DpAll.length hx]
      exact q
  | insert =>
    cases hd with
    | nil => cases h
    | cons h1 h2 =>
      cases h2 with
      | nil =>
        simp only [IL.mtop] at h
        cases h1 <;> cases h
      | cons h2 h3 =>
        cases h3 with
        | cons _ _ =>
          simp only [IL.mtop] at h
          cases h1 <;> cases h
        | nil =>
          cases h1 with
          | int k =>
            simp only [IL.mtop] at h
            split at h
            · rename_i hz
              cases h
              exact ⟨l, vs, k, _, rfl, rfl, hl, by rw [DpAll.length hx]; exact hz.2.2, hz.1, hz.2.1, fin _ _ .non (((hx.take _).append (.one h2)).append (hx.drop _))⟩
            · cases h
          | _ => cases h
theorem je_mt (m : Mt) (i : Nat) {tr : TA} {fr : Env → IL.R (List D)} (hr : JE (relDs C.K) C tr fr) : JE (relV C.K) C (tBM C.K "list" (rMt m) (tVar i) tr) (fun δ => match δ[i]? with
    | some (.ow (.lst _)) => (fr δ).bind fun ds δ1 => IL.mtR m i ds δ1
    | _ => .no) := fun δ σ G H S Q w => by
  cases e : δ[i]? with
  | none => simp only [e] at w; exact w.elim
  | some s =>
    cases s with
    | un => simp only [e] at w; exact w.elim
    | im d => simp only [e] at w; exact w.elim
    | ow o =>
      cases o with
      | dct kvs => simp only [e] at w; exact w.elim
      | lst xs0 =>
        simp only [e] at w
        obtain ⟨l, ho, e1, e2, e3, vs0, rfl, e5⟩ := S.env i _ e
        refine ⟨.ref l, e1, .inl ⟨rfl, vs0, .inl (.inl e3)⟩, hr δ σ G H S _ (want_bind back_V w fun ds δ1 ws G1 H1 a1 r1 w1 => ?_)⟩
        unfold IL.mtR at w1
        cases e' : δ1[i]? with
        | none => simp only [e'] at w1; exact w1.elim
        | some s =>
          cases s with
          | un => simp only [e'] at w1; exact w1.elim
          | im d => simp only [e'] at w1; exact w1.elim
          | ow o =>
            cases o with
            | dct kvs => simp only [e'] at w1; exact w1.elim
            | lst xs =>
              simp only [e'] at w1
              obtain ⟨l', ho, q1, q2, q3, vs, rfl, q5⟩ := a1.st.env i _ e'
              rw [e1] at q1
              cases q1
              cases hm : IL.mtop m xs ds with
              | none => simp only [hm] at w1; exact w1.elim
              | some p =>
                simp only [hm] at w1
                exact mt_does m a1.st ⟨⟨_, e'⟩, e1⟩ q3 q5 r1 hm w1
theorem je_ext (i : Nat) {te : TE} {fe : Env → IL.R Val} (he : JE (relV C.K) C te fe) : JE (relV C.K) C (tBM C.K "list" rExtend (tVar i) (tCons te tNil)) (fun δ => match δ[i]? with
    | some (.ow (.lst _)) => (fe δ).bind fun v δ1 => IL.extR i v δ1
    | _ => .no) := fun δ σ G H S Q w => by
  cases e : δ[i]? with
  | none => simp only [e] at w; exact w.elim
  | some s =>
    cases s with
    | un => simp only [e] at w; exact w.elim
    | im d => simp only [e] at w; exact w.elim
    | ow o =>
      cases o with
      | dct kvs => simp only [e] at w; exact w.elim
      | lst xs0 =>
        simp only [e] at w
        obtain ⟨l, ho, e1, e2, e3, vs0, rfl, e5⟩ := S.env i _ e
        refine ⟨.ref l, e1, .inl ⟨rfl, vs0, .inl (.inl e3)⟩, he δ σ G H S _ (want_bind back_V w fun x δ1 u G1 H1 a1 r1 w1 => ?_)⟩
        unfold IL.extR at w1
        cases e' : δ1[i]? with
        | none => simp only [e'] at w1; exact w1.elim
        | some s =>
          cases s with
          | un => simp only [e'] at w1; exact w1.elim
          | im d => simp only [e'] at w1; exact w1.elim
          | ow o =>
            cases o with
            | dct kvs => simp only [e'] at w1; exact w1.elim
            | lst xs =>
              cases x with
              | dat d => simp only [e'] at w1; exact w1.elim
              | own j => simp only [e'] at w1; exact w1.elim
              | new o =>
                cases o with
                | dct kvs => simp only [e'] at w1; exact w1.elim
                | lst es =>
                  simp only [e'] at w1
                  by_cases hz : xs.length + es.length ≤ sizeLine
                  · rw [if_pos hz] at w1
                    obtain ⟨l', ho, q1, q2, q3, vs, rfl, q5⟩ := a1.st.env i _ e'
                    rw [e1] at q1
                    cases q1
                    obtain ⟨b, hb, rfl, _, _, b3, _, us, rfl, b5⟩ := r1
                    exact ⟨l, b, vs, us, rfl, rfl, q3, b3, by rw [DpAll.length q5, DpAll.length b5]; exact hz, w1 _ _ _ (aft_mut a1.st ⟨⟨_, e'⟩, e1⟩ ⟨vs ++ us, rfl, q5.append b5⟩) Dp.non⟩
                  · rw [if_neg hz] at w1
                    exact w1.elim
/-! ### built-in functions -/
open IL (Fn)
theorem asInts_of : ∀ {ds : List D} {ns : List Int}, IL.asInts ds = some ns → ds = ns.map PyData.int
  | [], ns, h => by cases h; rfl
  | .int i :: ds, ns, h => by
    simp only [IL.asInts, Option.map_eq_some_iff] at h
    obtain ⟨ms, h, rfl⟩ := h
    rw [asInts_of h]
    rfl
  | .none :: _, _, h => by cases h
  | .bool _ :: _, _, h => by cases h
  | .str _ :: _, _, h => by cases h
  | .list _ :: _, _, h => by cases h
  | .tuple _ :: _, _, h => by cases h
  | .dict _ :: _, _, h => by cases h
theorem asBools_of : ∀ {ds : List D} {ns : List Bool}, IL.asBools ds = some ns → ds = ns.map PyData.bool
  | [], ns, h => by cases h; rfl
  | .bool i :: ds, ns, h => by
    simp only [IL.asBools, Option.map_eq_some_iff] at h
    obtain ⟨ms, h, rfl⟩ := h
    rw [asBools_of h]
    rfl
  | .none :: _, _, h => by cases h
  | .int _ :: _, _, h => by cases h
  | .str _ :: _, _, h => by cases h
  | .list _ :: _, _, h => by cases h
  | .tuple _ :: _, _, h => by cases h
  | .dict _ :: _, _, h => by cases h
theorem sortI_perm (ns : List Int) : (IL.sortI ns).Perm ns := List.mergeSort_perm _ _
theorem sortI_pw (ns : List Int) : (IL.sortI ns).Pairwise (· ≤ ·) := by
  have h := List.pairwise_mergeSort (le := fun a b : Int => decide (a ≤ b)) (fun a b c h1 h2 => by simp at *; omega) (fun a b => by simp; omega) ns
  exact h.imp fun h => by simpa using h
theorem sort_one {xs ys : List Int} (hp : xs.Perm ys) (hx : xs.Pairwise (· ≤ ·)) (hy : ys.Pairwise (· ≤ ·)) : xs = ys := hp.eq_of_pairwise (fun a b _ _ h1 h2 => Int.le_antisymm h1 h2) hx hy
theorem sorted_is {ns ns' : List Int} (hp : ns'.Perm ns) (h : ns'.Pairwise (· ≤ ·)) : ns' = IL.sortI ns := sort_one (hp.trans (sortI_perm ns).symm) h (sortI_pw ns)
abbrev Tps (K : PySem.W.Frag) (G H : Hp) : List V → List D → Prop := Paired (Tp K G H)
def rFn (K : PySem.W.Frag) : Fn → List V → Hp → VK → Prop
  | .len => fun xs H Q => ∃ x n, xs = [x] ∧ LenV K x H n ∧ Q (.int n) H
  | .int => fun xs H Q => (∃ i, xs = [.int i] ∧ Q (.int i) H) ∨ ∃ k, xs = [.bl k] ∧ Q (.int (if k then 1 else 0)) H
  | .abs => fun xs H Q => ∃ i, xs = [.int i] ∧ Q (.int (if i < 0 then -i else i)) H
  | .sum => rSum K
  | .min2 => fun xs H Q => ∃ i j, xs = [.int i, .int j] ∧ Q (.int (if j < i then j else i)) H
  | .max2 => fun xs H Q => ∃ i j, xs = [.int i, .int j] ∧ Q (.int (if j > i then j else i)) H
  | .any => rAny K
  | .all => rAll K
  | .tuple => fun xs H Q => ∃ p ys, xs = [.ref p] ∧ ((SqL K H p ys ∧ ∀ l, H l = none → Q (.ref l) (upd H l (.tup ys))) ∨ (SqT K H p ys ∧ Q (.ref p) H))
  | .list => fun xs H Q => ∃ p ys, xs = [.ref p] ∧ (SqL K H p ys ∨ SqT K H p ys) ∧ ∀ l, H l = none → Q (.ref l) (upd H l (.lst ys))
  | .repr => DR.qRepr K
  | .sorted => JL.rSortedAny K
  | .sortedSet => fun _ _ _ => False
  | .minLen => DR.qMinLen K
theorem tps1 {vs : List V} {d : D} (h : Tps C.K G H vs [d]) : ∃ v, vs = [v] ∧ Tp C.K G H v d := by
  cases h with
  | cons a b => cases b; exact ⟨_, rfl, a⟩
theorem tps2 {vs : List V} {d e : D} (h : Tps C.K G H vs [d, e]) : ∃ v u, vs = [v, u] ∧ Tp C.K G H v d ∧ Tp C.K G H u e := by
  cases h with
  | cons a b =>
    obtain ⟨u, rfl, hu⟩ := tps1 b
    exact ⟨_, _, rfl, a, hu⟩
theorem rows_of : ∀ {ds : List D}, IL.rowsD ds = true → ∀ d ∈ ds, ∃ es, d = .list es ∨ d = .tuple es
  | [], _, d, h => by simp at h
  | .list es :: ds, hr, d, h => by
    rcases List.mem_cons.mp h with e | h
    · exact ⟨es, .inl e⟩
    · exact rows_of (by simpa [IL.rowsD] using hr) d h
  | .tuple es :: ds, hr, d, h => by
    rcases List.mem_cons.mp h with e | h
    · exact ⟨es, .inr e⟩
    · exact rows_of (by simpa [IL.rowsD] using hr) d h
  | .none :: _, hr, _, _ => by cases hr
  | .bool _ :: _, hr, _, _ => by cases hr
  | .int _ :: _, hr, _, _ => by cases hr
  | .str _ :: _, hr, _, _ => by cases hr
  | .dict _ :: _, hr, _, _ => by cases hr
theorem lenD_eq : DR.lenD = IL.lenD := by
  funext d
  cases d <;> rfl
theorem minLenAt_eq (ds : List D) : DR.minLenAt ds = IL.minLenAt ds := by
  unfold DR.minLenAt IL.minLenAt
  rw [lenD_eq]
theorem fn_do (f : Fn) (S : Stt C.K δ σ G H) {vs : List V} {ds : List D} {x : Val} {Q : VK} (hs : f ≠ .sortedSet) (hvs : Tps C.K G H vs ds) (h : IL.fn f ds = some x) (w : Want (relV C.K) C δ σ G H (.ok x δ) Q) : rFn C.K f vs H Q := by
  have hne : ds ≠ [] := by
    rintro rfl
    cases f <;> cases h
  obtain ⟨d, rest, rfl⟩ := List.exists_cons_of_ne_nil hne
  cases rest with
  | nil =>
    obtain ⟨v, rfl, hv⟩ := tps1 hvs
    cases f with
    | len =>
      cases d with
      | list es =>
        cases h
        obtain ⟨p, us, rfl, hp, hx⟩ := hv.list_of S.gh
        exact ⟨_, es.length, rfl, .inl ⟨us, hp, (DpAll.length hx).symm⟩, w.now S (.int _)⟩
      | tuple es =>
        cases h
        obtain ⟨p, us, rfl, hp, hx⟩ := hv.tuple_of S.gh
        exact ⟨_, es.length, rfl, .inr ⟨us, hp, (DpAll.length hx).symm⟩, w.now S (.int _)⟩
      | str s =>
        simp only [IL.fn] at h
        split at h
        · rename_i hz
          cases h
          exact ⟨_, s.length, rfl, by rw [hv.str_of]; exact ⟨hz, rfl⟩, w.now S (.int _)⟩
        · cases h
      | _ => cases h
    | int =>
      cases d with
      | int i =>
        cases h
        exact .inl ⟨i, by rw [hv.int_of], w.now S (.int _)⟩
      | bool b =>
        cases h
        exact .inr ⟨b, by rw [hv.bool_of], w.now S (.int _)⟩
      | _ => cases h
    | abs =>
      cases d with
      | int i =>
        cases h
        exact ⟨i, by rw [hv.int_of], w.now S (.int _)⟩
      | _ => cases h
    | sum =>
      cases d with
      | list es =>
        simp only [IL.fn, Option.map_eq_some_iff] at h
        obtain ⟨ns, h1, rfl⟩ := h
        obtain ⟨p, us, rfl, hp, hx⟩ := hv.list_of S.gh
        rw [asInts_of h1] at hx
        rw [DpAll.ints hx] at hp
        exact ⟨p, ns, rfl, hp, w.now S (.int _)⟩
      | _ => cases h
    | min2 => cases d <;> cases h
    | max2 => cases d <;> cases h
    | any =>
      cases d with
      | list es =>
        simp only [IL.fn, Option.map_eq_some_iff] at h
        obtain ⟨ns, h1, rfl⟩ := h
        obtain ⟨p, us, rfl, hp, hx⟩ := hv.list_of S.gh
        rw [asBools_of h1] at hx
        rw [DpAll.bools hx] at hp
        exact ⟨p, ns, rfl, hp, w.now S (.bl _)⟩
      | _ => cases h
    | all =>
      cases d with
      | list es =>
        simp only [IL.fn, Option.map_eq_some_iff] at h
        obtain ⟨ns, h1, rfl⟩ := h
        obtain ⟨p, us, rfl, hp, hx⟩ := hv.list_of S.gh
        rw [asBools_of h1] at hx
        rw [DpAll.bools hx] at hp
        exact ⟨p, ns, rfl, hp, w.now S (.bl _)⟩
      | _ => cases h
    | tuple =>
      cases d with
      | list es =>
        cases h
        obtain ⟨p, us, rfl, hp, hx⟩ := hv.list_of S.gh
        exact ⟨p, us, rfl, .inl ⟨hp, fun l hl => w.newTup S hl hx⟩⟩
      | tuple es =>
        cases h
        have du : Dp C.K G v (.tuple es) := by
          cases hv with
          | im z => exact z
        obtain ⟨p, us, rfl, hp, hx⟩ := hv.tuple_of S.gh
        exact ⟨p, us, rfl, .inr ⟨hp, w.now S du⟩⟩
      | _ => cases h
    | list =>
      cases d with
      | list es =>
        cases h
        obtain ⟨p, us, rfl, hp, hx⟩ := hv.list_of S.gh
        exact ⟨p, us, rfl, .inl hp, fun l hl => w.newLst S hl hx⟩
      | tuple es =>
        cases h
        obtain ⟨p, us, rfl, hp, hx⟩ := hv.tuple_of S.gh
        exact ⟨p, us, rfl, .inr hp, fun l hl => w.newLst S hl hx⟩
      | _ => cases h
    | repr =>
      have h' : (if d.showable = true ∧ d.depth ≤ 60 ∧ d.shown.length ≤ sizeLine then some (Val.dat (.str d.shown)) else none) = some x := by
        cases d <;> exact h
      split at h'
      · rename_i hz
        cases h'
        exact ⟨v, d, rfl, hv.dp S.gh, hz.1, hz.2.1, hz.2.2, w.now S (.str _)⟩
      · cases h'
    | sorted =>
      cases d with
      | list es =>
        simp only [IL.fn, Option.map_eq_some_iff] at h
        obtain ⟨ns, h1, rfl⟩ := h
        obtain ⟨p, us, rfl, hp, hx⟩ := hv.list_of S.gh
        rw [asInts_of h1] at hx
        rw [DpAll.ints hx] at hp
        refine ⟨p, ns, rfl, .inl hp, fun ns' q k1 k2 hq => ?_⟩
        rw [sorted_is k1 k2]
        exact w.newLst S hq (DpAll.of_ints _)
      | tuple es =>
        simp only [IL.fn, Option.map_eq_some_iff] at h
        obtain ⟨ns, h1, rfl⟩ := h
        obtain ⟨p, us, rfl, hp, hx⟩ := hv.tuple_of S.gh
        rw [asInts_of h1] at hx
        rw [DpAll.ints hx] at hp
        refine ⟨p, ns, rfl, .inr hp, fun ns' q k1 k2 hq => ?_⟩
        rw [sorted_is k1 k2]
        exact w.newLst S hq (DpAll.of_ints _)
      | _ => cases h
    | sortedSet => exact absurd rfl hs
    | minLen =>
      cases d with
      | list es =>
        simp only [IL.fn] at h
        split at h
        · rename_i hr
          obtain ⟨p, us, rfl, hp, hx⟩ := hv.list_of S.gh
          cases es with
          | nil =>
            cases h
            exact ⟨p, us, [], rfl, hp, DpAll.ex S.gh _ _ hx, rows_of hr, fun _ => w.now S .non, fun v' e' => by cases hx; simp at e'⟩
          | cons e es =>
            simp only [Option.map_eq_some_iff] at h
            obtain ⟨y, h1, rfl⟩ := h
            refine ⟨p, us, e :: es, rfl, hp, DpAll.ex S.gh _ _ hx, rows_of hr, fun z => (by cases z), fun v' e' => ?_⟩
            rw [minLenAt_eq] at e'
            obtain ⟨d', q1, q2⟩ := DpAll.getV hx e'
            rw [h1] at q1
            cases q1
            exact w.now S q2
        · cases h
      | _ => cases h
  | cons e rest =>
    cases rest with
    | cons _ _ => cases f <;> cases d <;> (try cases e) <;> cases h
    | nil =>
      obtain ⟨v, u, rfl, hv, hu⟩ := tps2 hvs
      cases f with
      | min2 =>
        cases d with
        | int i =>
          cases e with
          | int j =>
            cases h
            exact ⟨i, j, by rw [hv.int_of, hu.int_of], w.now S (.int _)⟩
          | _ => cases h
        | _ => cases e <;> cases h
      | max2 =>
        cases d with
        | int i =>
          cases e with
          | int j =>
            cases h
            exact ⟨i, j, by rw [hv.int_of, hu.int_of], w.now S (.int _)⟩
          | _ => cases h
        | _ => cases e <;> cases h
      | _ => cases d <;> cases e <;> cases h
end
end J
end
section
set_option Elab.async false
set_option linter.all false
set_option maxRecDepth 100000
set_option maxHeartbeats 1000000
/-! J5: statements, loops, comprehensions. -/
namespace J
open PySem L2 PyProof.Rows
open IL (D Ow Slot Val CR RV Fl Bop Cop Tg)
section
variable {C : Ctx} {δ δ' δ1 δ2 : Env} {σ σ' σ1 : St} {G H G' H' G1 H1 G2 H2 : Hp}
/-- the slot is none of the owned parameters -/
def Free (C : Ctx) (δ : Env) (i : Nat) : Prop := C.kp ≤ i ∨ ∀ o, δ[i]? ≠ some (.ow o)
theorem aft_set {i : Nat} {s : Slot} {v : Option V} {G' H' : Hp} (S : Stt C.K δ σ G H) (f : Free C δ i) (st : Stt C.K (δ.set i s) (σ.set i v) G' H') (nx : Nx (Own δ σ) G H G' H') (ow : ∀ l, Own (δ.set i s) (σ.set i v) l → Own δ σ l ∨ H l = none) : Aft C δ σ G H (δ.set i s) (σ.set i v) G' H' := by
  refine ⟨st, nx, ow, fun j l hj h => ?_, by rw [List.length_set]⟩
  have hij : i ≠ j := fun e => by
    subst e
    rcases f with f | f
    · omega
    · obtain ⟨⟨o, e⟩, _⟩ := h
      exact f o e
  obtain ⟨⟨o, e1⟩, e2⟩ := h
  exact ⟨⟨o, by rw [List.getElem?_set_ne hij]; exact e1⟩, by rw [List.getElem?_set_ne hij]; exact e2⟩
theorem aft_put {i : Nat} {v : V} {d : PyData} (S : Stt C.K δ σ G H) (f : Free C δ i) (hd : Dp C.K G v d) : Aft C δ σ G H (δ.set i (.im d)) (σ.set i (some v)) G H :=
  aft_set S f (S.put hd).1 Nx.refl fun l h => .inl ((S.put hd).2 l h)
theorem aft_unk {i : Nat} {v : Option V} (S : Stt C.K δ σ G H) (f : Free C δ i) : Aft C δ σ G H (δ.set i .un) (σ.set i v) G H :=
  aft_set S f S.unk.1 Nx.refl fun l h => .inl (S.unk.2 l h)
theorem kp_set {i j : Nat} {l : Addr} {s : Slot} {v : Option V} (f : Free C δ i) (hj : j < C.kp) (h : OwnAt δ σ j l) : OwnAt (δ.set i s) (σ.set i v) j l := by
  have hij : i ≠ j := fun e => by
    subst e
    rcases f with f | f
    · omega
    · obtain ⟨⟨o, e⟩, _⟩ := h
      exact f o e
  obtain ⟨⟨o, e1⟩, e2⟩ := h
  exact ⟨⟨o, by rw [List.getElem?_set_ne hij]; exact e1⟩, by rw [List.getElem?_set_ne hij]; exact e2⟩
/-- nothing that was changes -/
structure Pur (G H G' H' : Hp) : Prop where
  gg : Ex G G'
  gh : Ex G' H'
  hh : Ex H H'
  fr : ∀ a o, H a = some o → G' a = G a
theorem Pur.refl (e : Ex G H) : Pur G H G H := ⟨Evl.Ex.refl G, e, Evl.Ex.refl H, fun _ _ _ => rfl⟩
theorem Pur.aft (p : Pur G H G' H') (S : Stt C.K δ σ G H) : Aft C δ σ G H δ σ G' H' := by
  refine ⟨S.next p.gg p.gh fun l hl => ?_, ⟨p.gg, fun a o _ e => p.hh a o e, fun a o _ e => p.fr a o e, fun a o e => ⟨o, p.hh a o e⟩⟩, fun _ h => .inl h, fun _ _ _ h => h, rfl⟩
  obtain ⟨a, o, b⟩ := S.own hl
  exact ⟨(p.fr l o b).trans a, (p.hh l o b).trans b.symm⟩
/-- a thing that is walked gives the items ds -/
def Walks (K : PySem.W.Frag) (J : It) (G1 : Hp) (ds : List D) : Prop := ∀ i G' H', Ex G1 G' → Ex G' H' →
  (i < ds.length → J.go i H' ∧ ∀ x H2, J.yld i H' x H2 → ∃ G2 d, Pur G' H' G2 H2 ∧ ds[i]? = some d ∧ Dp K G2 x d) ∧ (i = ds.length → J.stop i H')
theorem rngD_len (lo : Int) (n : Nat) : (IL.rngD lo n).length = n := by simp [IL.rngD]
theorem rngD_get {lo : Int} {n i : Nat} (h : i < n) : (IL.rngD lo n)[i]? = some (.int (lo + (i : Int))) := by simp [IL.rngD, h]
theorem rngD_some {lo : Int} {n i : Nat} {d : PyData} (h : (IL.rngD lo n)[i]? = some d) : i < n ∧ d = .int (lo + (i : Int)) := by
  have hi : i < n := by
    have q := (List.getElem?_eq_some_iff.mp h).1
    rw [rngD_len] at q
    exact q
  rw [rngD_get hi] at h
  exact ⟨hi, (Option.some.inj h).symm⟩
theorem walks_rng (K : PySem.W.Frag) (lo : Int) (n : Nat) : Walks K (Itr lo n) G1 (IL.rngD lo n) := fun i G' H' e1 e2 => by
  rw [rngD_len]
  refine ⟨fun hi => ⟨hi, fun x H2 y => ?_⟩, fun h => Nat.le_of_eq h.symm⟩
  obtain ⟨e, y⟩ := y
  subst e
  subst y
  exact ⟨G', _, Pur.refl e2, rngD_get hi, .int _⟩
theorem free_of {kp : Nat} {i : Nat} (hk : kp = C.kp) (h : IL.freeB kp δ i = true) : Free C δ i := by
  subst hk
  simp only [IL.freeB, Bool.or_eq_true, decide_eq_true_eq] at h
  rcases h with h | h
  · exact .inl h
  · refine .inr fun o e => ?_
    rw [e] at h
    exact absurd h (by simp)
/-! ### what is walked -/
def relI (K : PySem.W.Frag) : Rel (List D) It := fun _ _ _ G _ J ds => Walks K J G ds
theorem back_I {K : PySem.W.Frag} : Back (relI K) := fun _ _ _ _ _ _ _ _ _ r => r
/-- a list or a tuple, the derivation being told for both -/
def iOr (w1 w2 : TI) : TI := fun σ H R => w1 σ H R ∨ w2 σ H R
theorem pi_or {X : Cx} {tg it : Expr} {w1 w2 : TI} (h1 : PI X tg it w1) (h2 : PI X tg it w2) : PI X tg it (iOr w1 w2) := ⟨fun pins s σ H R I h => h.elim (h1.run pins s σ H R I) (h2.run pins s σ H R I)⟩
theorem want_opt {α β : Type} {rel : Rel α β} {o : Option α} {Q : β → Hp → Prop} {P : Prop} (w : Want rel C δ σ G H (IL.optR δ o) Q) (h : ∀ a, o = some a → Want rel C δ σ G H (.ok a δ) Q → P) : P := by
  cases o with
  | none => exact w.elim
  | some a => exact h a rfl w
theorem ji_of {te : TE} {fe : Env → IL.R Val} (h : JE (relV C.K) C te fe) : JE (relI C.K) C (iOr (iList C.K te) (iTup C.K te)) (fun δ => (fe δ).bind fun v δ1 => (IL.dem C.kp v δ1).bind fun d δ2 => IL.optR δ2 (IL.itemsD d)) := fun δ σ G H S R w => by
  -- the value is one of both: which one is told by what f gives
  have main : ∀ (r : IL.R Val), r = fe δ → iOr (iList C.K te) (iTup C.K te) σ H R := fun r hr => by
    have w' : Want (relI C.K) C δ σ G H ((fe δ).bind fun v δ1 => (IL.dem C.kp v δ1).bind fun d δ2 => IL.optR δ2 (IL.itemsD d)) R := w
    cases e1 : fe δ with
    | no => rw [e1] at w'; exact w'.elim
    | ex c fs δ1 => rw [e1] at w'; exact w'.elim
    | ok a δ1 =>
      have w2 := w'
      rw [e1] at w2
      simp only [IL.bind_ok] at w2
      cases e2 : IL.dem C.kp a δ1 with
      | no => rw [e2] at w2; exact w2.elim
      | ex c fs δ2 => rw [e2] at w2; exact w2.elim
      | ok d δ2 =>
        rw [e2] at w2
        simp only [IL.bind_ok] at w2
        have dem : ∀ P : V → Hp → Prop, (∀ v G' H', Aft C δ σ G H δ2 σ G' H' → Dp C.K G' v d → P v H') → te σ H P := fun P hP => h δ σ G H S P (by
          rw [e1]
          refine want_dem ?_
          rw [e2]
          exact hP)
        cases d with
        | list ds =>
          refine .inl (dem _ fun v G1 H1 a k => ?_)
          obtain ⟨p, vs, rfl, hs, hv⟩ := Dp.list_of k
          refine ⟨p, rfl, ⟨vs, Evl.ex_l a.st.gh hs⟩, w2 _ G1 H1 a fun i G' H' e1 e2 => ?_⟩
          have hs' : SqL C.K H' p vs := Evl.ex_l (e1.trans e2) hs
          have hl := DpAll.length hv
          refine ⟨fun hlt => ⟨⟨vs, vs[i]'(by omega), hs', by simp [hl, hlt]⟩, fun x H2 y => ?_⟩, fun he => ⟨vs, hs', by omega⟩⟩
          obtain ⟨e, y⟩ := y
          obtain ⟨d, q1, q2⟩ := DpAll.getV hv (y vs hs')
          subst e
          exact ⟨G', d, Pur.refl e2, q1, Dp.ex e1 _ _ q2⟩
        | tuple ds =>
          refine .inr (dem _ fun v G1 H1 a k => ?_)
          obtain ⟨p, vs, rfl, hs, hv⟩ := Dp.tuple_of k
          refine ⟨p, rfl, ⟨vs, Evl.ex_t a.st.gh hs⟩, w2 _ G1 H1 a fun i G' H' e1 e2 => ?_⟩
          have hs' : SqT C.K H' p vs := Evl.ex_t (e1.trans e2) hs
          have hl := DpAll.length hv
          refine ⟨fun hlt => ⟨⟨vs, vs[i]'(by omega), hs', by simp [hl, hlt]⟩, fun x H2 y => ?_⟩, fun he => ⟨vs, hs', by omega⟩⟩
          obtain ⟨e, y⟩ := y
          obtain ⟨d, q1, q2⟩ := DpAll.getV hv (y vs hs')
          subst e
          exact ⟨G', d, Pur.refl e2, q1, Dp.ex e1 _ _ q2⟩
        | _ => exact w2.elim
  exact main _ rfl
theorem ji_rng1 {te : TE} {fe : Env → IL.R Val} (h : JE (relV C.K) C te fe) : JE (relI C.K) C (iRng1 (tCons te tNil)) (fun δ => (fe δ).bind fun v δ1 => IL.op1 IL.rng1D v δ1) := fun δ σ G H S R w =>
  h δ σ G H S _ (want_bind back_I w fun x δ1 u G1 H1 a1 r1 w1 => want_op1 w1 fun d ds h1 h3 w3 => by
    cases d with
    | int j =>
      simp only [IL.rng1D] at h3
      split at h3
      · rename_i hz
        cases h3
        have eu := (cur_tp a1.st r1 h1).int_of
        subst eu
        exact ⟨j, rfl, hz.1, hz.2, w3.now a1.st (walks_rng _ _ _)⟩
      · cases h3
    | _ => cases h3)
theorem ji_rng2 {ta tb : TE} {fa fb : Env → IL.R Val} (ha : JE (relV C.K) C ta fa) (hb : JE (relV C.K) C tb fb) : JE (relI C.K) C (iRng2 (tCons ta (tCons tb tNil))) (fun δ => (fa δ).bind fun v δ1 => (fb δ1).bind fun u δ2 => IL.op2 IL.rng2D v u δ2) := fun δ σ G H S R w =>
  ha δ σ G H S _ (want_bind back_I w fun x δ1 u G1 H1 a1 r1 w1 => hb δ1 σ G1 H1 a1.st _ (want_bind back_I w1 fun y δ2 v G2 H2 a2 r2 w2 => want_op2 w2 fun d e ds h1 h2 h3 w3 => by
    have t1 := cur_tp a2.st (r1.later a2) h1
    have t2 := cur_tp a2.st r2 h2
    cases d with
    | int i =>
      cases e with
      | int j =>
        simp only [IL.rng2D] at h3
        split at h3
        · rename_i hz
          cases h3
          have eu := t1.int_of
          have ev := t2.int_of
          subst eu ev
          exact ⟨i, j, rfl, hz, w3.now a2.st (walks_rng _ _ _)⟩
        · cases h3
      | _ => cases h3
    | _ => cases e <;> cases h3))
/-! ### targets -/
def JG (C : Ctx) (is : List Nat) (g : TG) (f : D → Env → Option Env) : Prop := ∀ d δ σ G H v δ', Stt C.K δ σ G H → Dp C.K G v d → f d δ = some δ' → ∀ Q : St → Hp → Prop,
  (∀ σ' G' H', Aft C δ σ G H δ' σ' G' H' → (∀ vs, (∀ i ∈ is, i ∈ vs) → wipe σ' vs = wipe σ vs) → Q σ' H') → g v σ H Q
/-! ### comprehensions -/
open IL (wipeE)
theorem wipeE_length (δ : Env) : ∀ vs : List Nat, (wipeE δ vs).length = δ.length
  | [] => rfl
  | v :: vs => by unfold IL.wipeE; rw [List.length_set, wipeE_length δ vs]
theorem wipeE_some {i : Nat} {s : Slot} (hs : s ≠ .un) : ∀ {vs : List Nat}, (wipeE δ vs)[i]? = some s → δ[i]? = some s ∧ i ∉ vs
  | [], h => ⟨h, by simp⟩
  | v :: vs, h => by
    unfold IL.wipeE at h
    rcases get_set h with ⟨_, z⟩ | ⟨z, q⟩
    · exact absurd z hs
    · obtain ⟨a, b⟩ := wipeE_some hs q
      exact ⟨a, by simp [b, Ne.symm z]⟩
theorem wipeE_get {i : Nat} : ∀ {vs : List Nat}, i ∉ vs → (wipeE δ vs)[i]? = δ[i]?
  | [], _ => rfl
  | v :: vs, h => by
    unfold IL.wipeE
    rw [List.getElem?_set_ne (fun e => h (by simp [e]))]
    exact wipeE_get (fun z => h (List.mem_cons_of_mem _ z))
theorem wipe_get {i : Nat} : ∀ {vs : List Nat}, i ∉ vs → (wipe σ vs)[i]? = σ[i]?
  | [], _ => rfl
  | v :: vs, h => by
    unfold wipe
    rw [List.getElem?_set_ne (fun e => h (by simp [e]))]
    exact wipe_get (fun z => h (List.mem_cons_of_mem _ z))
/-- the same with the slots vs forgotten, over any values of them -/
theorem Stt.wiped {K : PySem.W.Frag} {vs : List Nat} (S : Stt K δ σ G H) (hl : σ'.length = σ.length) (hv : ∀ i, i ∉ vs → σ'[i]? = σ[i]?) : Stt K (wipeE δ vs) σ' G H ∧ ∀ j l, OwnAt (wipeE δ vs) σ' j l → OwnAt δ σ j l := by
  have back : ∀ j l, OwnAt (wipeE δ vs) σ' j l → OwnAt δ σ j l := fun j l ⟨⟨o, e⟩, e2⟩ => by
    obtain ⟨a, b⟩ := wipeE_some (by intro z; cases z) e
    exact ⟨⟨o, a⟩, by rw [← hv j b]; exact e2⟩
  refine ⟨⟨S.gh, fun i s e => ?_, fun i j l h1 h2 => S.dis i j l (back _ _ h1) (back _ _ h2), by rw [wipeE_length, hl]; exact S.len⟩, back⟩
  cases s with
  | un => trivial
  | im d =>
    obtain ⟨a, b⟩ := wipeE_some (by intro z; cases z) e
    rw [hv i b]
    exact S.env i _ a
  | ow o =>
    obtain ⟨a, b⟩ := wipeE_some (by intro z; cases z) e
    rw [hv i b]
    exact S.env i _ a
theorem aft_wiped {vs : List Nat} (S : Stt C.K δ σ G H) (hl : σ'.length = σ.length) (hv : ∀ i, i ∉ vs → σ'[i]? = σ[i]?) (hf : ∀ i ∈ vs, C.kp ≤ i) : Aft C δ σ G H (wipeE δ vs) σ' G H := by
  have z := S.wiped hl hv
  refine ⟨z.1, Nx.refl, fun l ⟨j, h⟩ => .inl ⟨j, z.2 j l h⟩, fun j l hj ⟨⟨o, e⟩, e2⟩ => ?_, wipeE_length _ _⟩
  have hn : j ∉ vs := fun h => by have := hf j h; omega
  exact ⟨⟨o, by rw [wipeE_get hn]; exact e⟩, by rw [hv j hn]; exact e2⟩
theorem wipe_in {i : Nat} : ∀ {vs : List Nat}, i ∈ vs → i < σ.length → (wipe σ vs)[i]? = some none
  | v :: vs, h, hl => by
    unfold wipe
    by_cases e : v = i
    · subst e
      rw [List.getElem?_set_self (by rw [wipe_length]; exact hl)]
    · rw [List.getElem?_set_ne e]
      exact wipe_in ((List.mem_cons.mp h).resolve_left (fun z => e z.symm)) hl
theorem wipe_congr {vs : List Nat} (hl : σ'.length = σ.length) (hv : ∀ i, i ∉ vs → σ'[i]? = σ[i]?) : wipe σ' vs = wipe σ vs := by
  apply List.ext_getElem?
  intro i
  by_cases h : i ∈ vs
  · by_cases hi : i < σ.length
    · rw [wipe_in h hi, wipe_in h (by rw [hl]; exact hi)]
    · rw [List.getElem?_eq_none (by rw [wipe_length, hl]; omega), List.getElem?_eq_none (by rw [wipe_length]; omega)]
  · rw [wipe_get h, wipe_get h]
    exact hv i h
theorem wipe_set {vs : List Nat} {j : Nat} {x : Option V} (h : j ∈ vs) : wipe (σ.set j x) vs = wipe σ vs := wipe_congr (by rw [List.length_set]) fun i hi => by
  have ne : j ≠ i := fun e => hi (e ▸ h)
  exact List.getElem?_set_ne ne
theorem wipe_wipe {vs : List Nat} : wipe (wipe σ vs) vs = wipe σ vs := wipe_congr (wipe_length _ _) fun i hi => wipe_get hi
theorem wipeE_in {i : Nat} : ∀ {vs : List Nat}, i ∈ vs → i < δ.length → (wipeE δ vs)[i]? = some .un
  | v :: vs, h, hl => by
    unfold IL.wipeE
    by_cases e : v = i
    · subst e
      rw [List.getElem?_set_self (by rw [wipeE_length]; exact hl)]
    · rw [List.getElem?_set_ne e]
      exact wipeE_in ((List.mem_cons.mp h).resolve_left (fun z => e z.symm)) hl
theorem wipeE_wipeE {vs : List Nat} : wipeE (wipeE δ vs) vs = wipeE δ vs := by
  apply List.ext_getElem?
  intro i
  by_cases h : i ∈ vs
  · by_cases hi : i < δ.length
    · rw [wipeE_in h hi, wipeE_in h (by rw [wipeE_length]; exact hi)]
    · rw [List.getElem?_eq_none (by rw [wipeE_length, wipeE_length]; omega), List.getElem?_eq_none (by rw [wipeE_length]; omega)]
  · rw [wipeE_get h]
/-- a thing that H alone knows, new since H1, is changed -/
theorem Aft.under {D : Addr} {o : HO} (a : Aft C δ σ G H δ' σ' G' H') (hD : H D = none) (gD : G' D = none) (nD : ¬ Own δ' σ' D) : Aft C δ σ G H δ' σ' G' (upd H' D o) := by
  refine ⟨a.st.next (Evl.Ex.refl _) (fun b x e => ?_) (fun l hl => ⟨(a.st.own hl).1, ?_⟩), ⟨a.nx.gg, fun b x hm e => ?_, a.nx.fr, fun b x e => ?_⟩, a.ow, a.kp, a.ln⟩
  · rw [upd_ne (ne_of_none e gD)]
    exact a.st.gh b x e
  · have ne : l ≠ D := fun z => nD (z ▸ hl)
    rw [upd_ne ne]
  · rw [upd_ne (ne_of_none e hD)]
    exact a.nx.hh b x hm e
  · rw [upd_ne (ne_of_none e hD)]
    exact a.nx.dom b x e
end
end J
end
section
set_option Elab.async false
set_option linter.all false
set_option maxRecDepth 100000
set_option maxHeartbeats 1000000
/-! J6: targets, comprehensions, statements, loops. -/
namespace J
open PySem L2 PyProof.Rows
open IL (D Ow Slot Val CR RV Fl Bop Cop Tg wipeE)
section
variable {C : Ctx} {δ δ' δ1 δ2 : Env} {σ σ' σ1 : St} {G H G' H' G1 H1 G2 H2 : Hp}
theorem jg_name {i : Nat} : JG C [i] (gName i) (IL.bindT C.kp (.name i)) := fun d δ σ G H v δ' S hd h Q q => by
  simp only [IL.bindT] at h
  split at h
  · rename_i hf
    cases h
    exact q _ G H (aft_put S (free_of rfl hf) hd) fun vs hv => wipe_set (hv i (List.mem_singleton.mpr rfl))
  · cases h
def JGs (C : Ctx) (is : List Nat) (g : TGs) (f : List D → Env → Option Env) : Prop := ∀ ds δ σ G H us δ', Stt C.K δ σ G H → DpAll C.K G us ds → f ds δ = some δ' → ∀ Q : St → Hp → Prop,
  (∀ σ' G' H', Aft C δ σ G H δ' σ' G' H' → (∀ vs, (∀ i ∈ is, i ∈ vs) → wipe σ' vs = wipe σ vs) → Q σ' H') → g us σ H Q
theorem jgs_nil : JGs C [] gNil (IL.bindAll C.kp []) := fun ds δ σ G H us δ' S hd h Q q => by
  cases ds with
  | nil =>
    cases hd
    cases h
    exact ⟨rfl, q _ G H (Aft.refl S) fun _ _ => rfl⟩
  | cons d ds => cases h
theorem jgs_cons {i : Nat} {is : List Nat} {gs : TGs} (hs : JGs C is gs (IL.bindAll C.kp is)) : JGs C (i :: is) (gCons (gName i) gs) (IL.bindAll C.kp (i :: is)) := fun ds δ σ G H us δ' S hd h Q q => by
  cases ds with
  | nil => cases h
  | cons d ds =>
    cases hd with
    | cons h1 h2 =>
      simp only [IL.bindAll] at h
      split at h
      · rename_i hf
        have a := aft_put S (free_of rfl hf) h1
        exact ⟨_, _, rfl, hs ds _ _ G H _ δ' a.st h2 h Q fun σ' G' H' b hw => q σ' G' H' (a.trans b) fun vs hv => (hw vs fun j hj => hv j (List.mem_cons_of_mem _ hj)).trans (wipe_set (hv i List.mem_cons_self))⟩
      · cases h
theorem bindAll_len {kp : Nat} : ∀ {is : List Nat} {ds : List D} {δ δ' : Env}, IL.bindAll kp is ds δ = some δ' → ds.length = is.length
  | [], [], _, _, _ => rfl
  | [], _ :: _, _, _, h => by cases h
  | _ :: _, [], _, _, h => by cases h
  | i :: is, d :: ds, δ, δ', h => by
    simp only [IL.bindAll] at h
    split at h
    · exact congrArg (· + 1) (bindAll_len h)
    · cases h
theorem jg_tup {is : List Nat} {gs : TGs} (hs : JGs C is gs (IL.bindAll C.kp is)) : JG C is (gTup C.K is.length gs) (IL.bindT C.kp (.tup is)) := fun d δ σ G H v δ' S hd h Q q => by
  cases d with
  | tuple ds =>
    obtain ⟨a, us, rfl, ht, hv⟩ := Dp.tuple_of hd
    exact ⟨a, us, rfl, Evl.ex_t S.gh ht, by rw [DpAll.length hv]; exact bindAll_len h, hs ds δ σ G H us δ' S hv h Q q⟩
  | _ => cases h
/-! ### comprehensions -/
theorem je_lc {wi : TI} {g : TG} {tt : TT} {te : TE} {tg : Tg} {is vs : List Nat} {fi : Env → IL.R (List D)} {ft : Env → IL.R Bool} {fe : Env → IL.R Val} (hi : JE (relI C.K) C wi fi) (hg : JG C is g (IL.bindT C.kp tg)) (hin : ∀ i ∈ is, i ∈ vs) (ht : JE (relE Bool) C tt ft) (he : JE (relV C.K) C te fe) :
    JE (relV C.K) C (tLc wi g tt te vs) (fun δ => (fi δ).bind fun ds δ1 => if vs.all (fun v => decide (C.kp ≤ v)) = true then
      (IL.lcGo C.kp tg ft (fun δ => (fe δ).bind (IL.dem C.kp)) vs ds [] (wipeE δ1 vs)).bind fun ys δ2 => .ok (.new (.lst ys)) δ2 else .no) := fun δ σ G H S Q w =>
  hi δ σ G H S _ (want_bind back_V w fun ds δ1 J G1 H1 a hw w1 => by
    by_cases hk : vs.all (fun v => decide (C.kp ≤ v)) = true
    case neg =>
      rw [if_neg hk] at w1
      exact w1.elim
    rw [if_pos hk] at w1
    have hf : ∀ i ∈ vs, C.kp ≤ i := fun i h => of_decide_eq_true (List.all_eq_true.mp hk i h)
    intro L hD
    have a0 : Aft C δ1 σ G1 H1 (wipeE δ1 vs) σ G1 H1 := aft_wiped a.st rfl (fun _ _ => rfl) hf
    have a1 : Aft C (wipeE δ1 vs) σ G1 H1 (wipeE δ1 vs) σ G1 (upd H1 L (.lst [])) := Aft.fresh a0.st hD
    -- what is wanted from the i-th turn on
    let Wn : Nat → Env → List D → Hp → Hp → Prop := fun i δ' acc G' H' => Want (relV C.K) C δ1 σ G1 H1 ((IL.lcGo C.kp tg ft (fun δ => (fe δ).bind (IL.dem C.kp)) vs (ds.drop i) acc δ').bind fun ys δ2 => .ok (.new (.lst ys)) δ2) Q
    refine ⟨fun i m H' => m = ds.length - i ∧ i ≤ ds.length ∧ ∃ δ' G' us acc, Aft C δ1 σ G1 H1 δ' σ G' H' ∧ H' L = some (.lst us) ∧ G' L = none ∧ ¬ Own δ' σ L ∧ DpAll C.K G' us acc ∧ wipeE δ' vs = δ' ∧ Wn i δ' acc G' H',
      ⟨_, rfl, Nat.zero_le _, wipeE δ1 vs, G1, [], [], a0.trans a1, upd_same, a0.st.gnone hD, notOwn a0.st hD, .nil, wipeE_wipeE, w1⟩, ?_⟩
    rintro i m H' ⟨rfl, hi, δ', G', us, acc, b, hHD, hGD, hnD, hda, hwi, hI⟩
    have wk := hw i G' H' b.nx.gg b.st.gh
    have hI : Want (relV C.K) C δ1 σ G1 H1 ((IL.lcGo C.kp tg ft (fun δ => (fe δ).bind (IL.dem C.kp)) vs (ds.drop i) acc δ').bind fun ys δ2 => .ok (.new (.lst ys)) δ2) Q := hI
    rcases Nat.lt_or_ge i ds.length with hlt | hge
    · obtain ⟨w1, w2⟩ := wk.1 hlt
      refine .inr ⟨w1, fun H2 => ∃ δ' G' us acc, Aft C δ1 σ G1 H1 δ' σ G' H2 ∧ H2 L = some (.lst us) ∧ G' L = none ∧ ¬ Own δ' σ L ∧ DpAll C.K G' us acc ∧ wipeE δ' vs = δ' ∧ Wn (i + 1) δ' acc G' H2, fun H2 q2 => ⟨ds.length - (i + 1), by omega, rfl, hlt, q2⟩, fun x H2 y => ?_⟩
      obtain ⟨G2, d, pu, e, hx⟩ := w2 x H2 y
      have c1 := pu.aft b.st
      have c2 : Aft C δ' σ G2 H2 δ' (wipe σ vs) G2 H2 := by
        have z := aft_wiped (σ' := wipe σ vs) c1.st (wipe_length _ _) (fun i hi => wipe_get hi) hf
        rw [hwi] at z
        exact z
      have c := c1.trans c2
      -- what becomes of the list at L
      have fin : ∀ {δ5 : Env} {σ5 : St} {G5 H5 : Hp}, Aft C δ' σ G' H' δ5 σ5 G5 H5 → wipe σ5 vs = wipe σ vs → H5 L = some (.lst us) ∧ G5 L = none ∧ ¬ Own (wipeE δ5 vs) σ L ∧ DpAll C.K G5 us acc ∧ Aft C δ1 σ G1 H1 (wipeE δ5 vs) σ G5 H5 := fun {δ5 σ5 G5 H5} f hw5 => by
        have hl : σ.length = σ5.length := by rw [← wipe_length σ vs, ← hw5, wipe_length]
        have z := aft_wiped (σ' := σ) (vs := vs) f.st hl (fun i hi => by rw [← wipe_get (σ := σ) hi, ← wipe_get (σ := σ5) hi, hw5]) hf
        have f5 := f.trans z
        refine ⟨f.nx.hh L _ hnD hHD, (f.nx.fr L _ hnD hHD).trans hGD, fun ho => ?_, DpAll.ex f.nx.gg _ _ hda, b.trans f5⟩
        rcases f5.ow L ho with z | z
        · exact hnD z
        · rw [hHD] at z; cases z
      have hdr : ds.drop i = d :: ds.drop (i + 1) := by
        rw [List.drop_eq_getElem_cons hlt]
        congr 1
        rw [List.getElem?_eq_getElem hlt] at e
        exact Option.some.inj e
      rw [hdr] at hI
      simp only [IL.lcGo] at hI
      cases hb : IL.bindT C.kp tg d δ' with
      | none => rw [hb] at hI; exact hI.elim
      | some δ3 =>
        rw [hb] at hI
        simp only at hI
        refine hg d δ' (wipe σ vs) G2 H2 x δ3 c.st hx hb _ fun σ3 G3 H3 f hws => ?_
        have hw3 : wipe σ3 vs = wipe (wipe σ vs) vs := hws vs hin
        refine ⟨hw3.trans wipe_wipe, ht δ3 σ3 G3 H3 f.st _ ?_⟩
        cases et : ft δ3 with
        | no => rw [et] at hI; exact hI.elim
        | ex _ _ _ => rw [et] at hI; exact hI.elim
        | ok b4 δ4 =>
          rw [et] at hI
          simp only [IL.bind_ok] at hI
          intro b4' G4 H4 g4 eb
          have eb' : b4' = b4 := eb
          subst eb'
          cases b4' with
          | false =>
            simp only [Bool.false_eq_true, if_false] at hI ⊢
            obtain ⟨z1, z2, z3, z4, z5⟩ := fin ((c.trans f).trans g4) (hw3.trans wipe_wipe)
            exact ⟨_, G4, us, acc, z5, z1, z2, z3, z4, wipeE_wipeE, hI⟩
          | true =>
            simp only [if_true] at hI ⊢
            refine he δ4 σ3 G4 H4 g4.st _ (want_demR ?_)
            cases ev : (fe δ4).bind (IL.dem C.kp) with
            | no => rw [ev] at hI; exact hI.elim
            | ex _ _ _ => rw [ev] at hI; exact hI.elim
            | ok y δ5 =>
              rw [ev] at hI
              simp only [IL.bind_ok] at hI
              intro v G5 H5 g5 r5
              by_cases hlen : acc.length < sizeLine
              case neg =>
                rw [if_neg hlen] at hI
                exact hI.elim
              rw [if_pos hlen] at hI
              obtain ⟨z1, z2, z3, z4, z5⟩ := fin (((c.trans f).trans g4).trans g5) (hw3.trans wipe_wipe)
              exact ⟨us, z1, by rw [DpAll.length z4]; exact hlen, _, G5, us ++ [v], acc ++ [y], z5.under hD z2 z3, upd_same, z2, z3, DpAll.append z4 (.one r5), wipeE_wipeE, hI⟩
    · have e : i = ds.length := by omega
      subst e
      rw [List.drop_length] at hI
      refine .inl ⟨wk.2 rfl, hI (.ref L) G' H' b ⟨L, .lst us, rfl, hD, hGD, hHD, hnD, us, rfl, hda⟩⟩)
/-! ### statements -/
theorem js_next : JS C tNext (fun δ => .ok .nx δ) := fun δ σ G H S De p => p σ G H (Aft.refl S)
theorem js_break : JS C tBreak (fun δ => .ok .bk δ) := fun δ σ G H S De p => p σ G H (Aft.refl S)
theorem js_cont : JS C tCont (fun δ => .ok .ct δ) := fun δ σ G H S De p => p σ G H (Aft.refl S)
theorem js_seq {t u : TS} {f g : Env → IL.R Fl} (h1 : JS C t f) (h2 : JS C u g) : JS C (tSeq t u) (fun δ => (f δ).bind fun a δ1 => match a with
    | .nx => g δ1
    | a => .ok a δ1) := fun δ σ G H S De p => by
  refine h1 δ σ G H S _ ?_
  have p' : WantS C δ σ G H ((f δ).bind fun a δ1 => match a with
    | .nx => g δ1
    | a => .ok a δ1) De := p
  cases e : f δ with
  | no => rw [e] at p'; exact p'
  | ex _ _ _ => rw [e] at p'; exact p'
  | ok a δ1 =>
    rw [e] at p'
    cases a with
    | nx => exact fun σ' G' H' a => h2 δ1 σ' G' H' a.st De (WantS.step p' a)
    | bk => exact p'
    | ct => exact p'
    | rt v =>
      cases v with
      | dat d => exact p'
      | new o => exact p'
theorem js_exp {te : TE} {fe : Env → IL.R Val} (h : JE (relV C.K) C te fe) : JS C (tDrop te) (fun δ => (fe δ).bind fun _ δ1 => .ok .nx δ1) := fun δ σ G H S De p =>
  h δ σ G H S _ (wantS_bind p fun a δ1 v G1 H1 a1 r p1 => p1 σ G1 H1 (Aft.refl a1.st))
theorem js_if {tt : TT} {t u : TS} {ft : Env → IL.R Bool} {f g : Env → IL.R Fl} (hc : JE (relE Bool) C tt ft) (h1 : JS C t f) (h2 : JS C u g) : JS C (tIfS tt t u) (fun δ => (ft δ).bind fun k δ1 => if k = true then f δ1 else g δ1) := fun δ σ G H S De p =>
  hc δ σ G H S _ (wantS_bind (rel' := relE Bool) p fun k δ1 k' G1 H1 a e p1 => by
    have e' : k' = k := e
    subst e'
    cases k' with
    | true =>
      simp only [if_true] at p1 ⊢
      exact h1 δ1 σ G1 H1 a.st De p1
    | false =>
      simp only [Bool.false_eq_true, if_false] at p1 ⊢
      exact h2 δ1 σ G1 H1 a.st De p1)
theorem js_retN : JS C tRetN (fun δ => .ok (.rt (.dat .none)) δ) := fun δ σ G H S De p => p .non σ G H (Aft.refl S) .non
/-- what is returned -/
theorem js_ret {te : TE} {fe : Env → IL.R Val} (h : JE (relV C.K) C te fe) : JS C (tRet te) (fun δ => (fe δ).bind fun v δ1 => IL.retV C.kp v δ1) := fun δ σ G H S De p => by
  refine h δ σ G H S De.rt ?_
  have p' : WantS C δ σ G H ((fe δ).bind fun v δ1 => IL.retV C.kp v δ1) De := p
  cases e : fe δ with
  | no => rw [e] at p'; exact p'
  | ex _ _ _ => rw [e] at p'; exact p'
  | ok a δ1 =>
    rw [e] at p'
    simp only [IL.bind_ok] at p'
    intro v G1 H1 a1 r
    cases a with
    | dat d => exact p' v σ G1 H1 a1 r
    | new o =>
      obtain ⟨l, ho, rfl, h0, h1, h2, h3, h4⟩ := r
      exact p' l ho σ G1 H1 a1 (.inr h0) (fun i _ o => h3 ⟨i, o⟩) h1 h2 h4
    | own i =>
      have r' : σ[i]? = some (some v) := r
      simp only [IL.retV] at p'
      cases e' : δ1[i]? with
      | none => rw [e'] at p'; exact p'.elim
      | some s =>
        rw [e'] at p'
        cases s with
        | un => exact p'.elim
        | im d =>
          obtain ⟨u, q1, q2⟩ := a1.st.env i _ e'
          rw [r'] at q1
          cases q1
          exact p' v σ G1 H1 a1 q2
        | ow o =>
          obtain ⟨l, ho, q1, q2, q3, q4⟩ := a1.st.env i _ e'
          rw [r'] at q1
          cases q1
          by_cases hk : C.kp ≤ i
          · simp only [if_pos hk] at p'
            have oi : OwnAt δ1 σ i l := ⟨⟨_, e'⟩, r'⟩
            exact p' l ho σ G1 H1 a1 (Loc.back a1 (.inl ⟨i, hk, oi⟩)) (fun j hj oj => by have := a1.st.dis i j l oi oj; omega) q2 q3 q4
          · simp only [if_neg hk] at p'
            exact p'.elim
open IL (setV setIR)
theorem js_set {i : Nat} {te : TE} {fe : Env → IL.R Val} (h : JE (relV C.K) C te fe) : JS C (tAsg te (gName i)) (fun δ => (fe δ).bind fun v δ1 => setV C.kp i v δ1) := fun δ σ G H S De p => by
  refine h δ σ G H S _ ?_
  have p' : WantS C δ σ G H ((fe δ).bind fun v δ1 => setV C.kp i v δ1) De := p
  cases e : fe δ with
  | no => rw [e] at p'; exact p'
  | ex _ _ _ => rw [e] at p'; exact p'
  | ok a δ1 =>
    rw [e] at p'
    simp only [IL.bind_ok] at p'
    cases a with
    | dat d =>
      intro v G1 H1 a1 r
      simp only [IL.setV] at p'
      by_cases hf : IL.freeB C.kp δ1 i = true
      · rw [if_pos hf] at p'
        exact p' _ G1 H1 (a1.trans (aft_put a1.st (free_of rfl hf) r))
      · rw [if_neg hf] at p'
        exact p'.elim
    | new o =>
      intro v G1 H1 a1 r
      simp only [IL.setV] at p'
      by_cases hf : IL.freeB C.kp δ1 i = true
      · rw [if_pos hf] at p'
        obtain ⟨l, ho, rfl, h0, h1, h2, h3, h4⟩ := r
        have z := a1.st.putOwn (i := i) h1 h2 h4 h3
        refine p' _ G1 H1 ⟨z.1, a1.nx, fun x hx => ?_, fun j x hj ox => kp_set (free_of rfl hf) hj (a1.kp j x hj ox), by rw [List.length_set]; exact a1.ln⟩
        rcases z.2 x hx with y | y
        · exact a1.ow x y
        · exact .inr (y ▸ h0)
      · rw [if_neg hf] at p'
        exact p'.elim
    | own j =>
      simp only [IL.setV] at p'
      have key : Want (relD C.K) C δ σ G H (IL.dem C.kp (.own j) δ1) (fun v H1 => De.nx (σ.set i (some v)) H1) := by
        cases ed : IL.dem C.kp (.own j) δ1 with
        | no => rw [ed] at p'; exact p'
        | ex _ _ _ => rw [ed] at p'; exact p'
        | ok d δ2 =>
          rw [ed] at p'
          simp only [IL.bind_ok] at p'
          intro v G1 H1 a1 r
          by_cases hf : IL.freeB C.kp δ2 i = true
          · rw [if_pos hf] at p'
            exact p' _ G1 H1 (a1.trans (aft_put a1.st (free_of rfl hf) r))
          · rw [if_neg hf] at p'
            exact p'.elim
      exact want_dem key
theorem js_setT {is : List Nat} {g : TG} {te : TE} {fe : Env → IL.R Val} (hg : JG C is g (IL.bindT C.kp (.tup is))) (h : JE (relV C.K) C te fe) : JS C (tAsg te g) (fun δ => (fe δ).bind fun v δ1 => (IL.dem C.kp v δ1).bind fun d δ2 => (IL.optR δ2 (IL.bindT C.kp (.tup is) d δ2)).bind fun δ3 _ => .ok .nx δ3) := fun δ σ G H S De p =>
  h δ σ G H S _ (wantS_demR p fun d δ1 v G1 H1 a1 r p1 => by
    cases hb : IL.bindT C.kp (.tup is) d δ1 with
    | none => rw [hb] at p1; exact p1.elim
    | some δ3 =>
      rw [hb] at p1
      exact hg d δ1 σ G1 H1 v δ3 a1.st r hb _ fun σ' G' H' b _ => p1 σ' G' H' b)
theorem js_setI {i : Nat} {t1 t2 : TE} {f1 f2 : Env → IL.R Val} (h1 : JE (relV C.K) C t1 f1) (h2 : JE (relV C.K) C t2 f2) : JS C (tAsg t2 (gSub (tVar i) t1 rSetL)) (fun δ => (f2 δ).bind fun v δ1 => (IL.dem C.kp v δ1).bind fun d δ2 => match δ2[i]? with
    | some (.ow (.lst _)) => (f1 δ2).bind fun k δ3 => (IL.op1 IL.intD k δ3).bind fun n δ4 => setIR i d n δ4
    | _ => .no) := fun δ σ G H S De p =>
  h2 δ σ G H S _ (wantS_demR p fun d δ1 v G1 H1 a1 r p1 => by
    cases e : δ1[i]? with
    | none => simp only [e] at p1; exact p1.elim
    | some s =>
      cases s with
      | un => simp only [e] at p1; exact p1.elim
      | im d => simp only [e] at p1; exact p1.elim
      | ow o =>
        cases o with
        | dct kvs => simp only [e] at p1; exact p1.elim
        | lst xs0 =>
          simp only [e] at p1
          obtain ⟨l, ho, hu, _⟩ := a1.st.env i _ e
          refine ⟨.ref l, hu, h1 δ1 σ G1 H1 a1.st _ (wantS_bind p1 fun x δ2 w G2 H2 a2 r2 p2 => ?_)⟩
          cases hc : IL.cur δ2 x with
          | none =>
            simp only [IL.op1, hc, Option.bind_none, IL.optR] at p2
            exact p2.elim
          | some dx =>
            cases dx with
            | int n =>
              have p3 : WantS C δ2 σ G2 H2 (setIR i d n δ2) De := by
                simp only [IL.op1, hc, Option.bind_some, IL.intD, IL.optR, IL.bind_ok] at p2
                exact p2
              have ew := (cur_tp a2.st r2 hc).int_of
              subst ew
              unfold IL.setIR at p3
              cases e' : δ2[i]? with
              | none => simp only [e'] at p3; exact p3.elim
              | some s =>
                cases s with
                | un => simp only [e'] at p3; exact p3.elim
                | im d => simp only [e'] at p3; exact p3.elim
                | ow o =>
                  cases o with
                  | dct kvs => simp only [e'] at p3; exact p3.elim
                  | lst xs =>
                    simp only [e'] at p3
                    obtain ⟨l', ho, q1, q2, q3, vs, rfl, q5⟩ := a2.st.env i _ e'
                    rw [hu] at q1
                    cases q1
                    cases hj : ixN xs.length n with
                    | none => simp only [hj] at p3; exact p3.elim
                    | some j =>
                      simp only [hj] at p3
                      refine ⟨l, vs, n, j, rfl, rfl, q3, by rw [DpAll.length q5]; exact hj, ?_⟩
                      exact p3 σ G2 _ (aft_mut a2.st ⟨⟨_, e'⟩, hu⟩ ⟨_, rfl, DpAll.set j (Dp.ex a2.nx.gg _ _ r) q5⟩)
            | _ =>
              simp only [IL.op1, hc, Option.bind_some, IL.intD, IL.optR, IL.bind_no] at p2
              exact p2.elim)
end
end J
end
section
set_option Elab.async false
set_option linter.all false
set_option maxRecDepth 100000
set_option maxHeartbeats 1000000
/-! J7: loops; calls. -/
namespace J
open PySem L2 PyProof.Rows
open IL (D Ow Slot Val CR RV Fl Bop Cop Tg wipeE ownIx putBack argSlot)
section
variable {C : Ctx} {δ δ' δ1 δ2 : Env} {σ σ' σ1 : St} {G H G' H' G1 H1 G2 H2 : Hp}
theorem js_for {wi : TI} {g : TG} {tb : TS} {tg : Tg} {is : List Nat} {fi : Env → IL.R (List D)} {fb : Env → IL.R Fl} (hi : JE (relI C.K) C wi fi) (hg : JG C is g (IL.bindT C.kp tg)) (hb : JS C tb fb) :
    JS C (tFor wi g tb) (fun δ => (fi δ).bind fun ds δ1 => IL.forGo C.kp tg fb ds δ1) := fun δ σ G H S De p =>
  hi δ σ G H S _ (wantS_bind p fun ds δ1 J G1 H1 a hw p1 => by
    refine ⟨fun i m σ' H' => m = ds.length - i ∧ i ≤ ds.length ∧ ∃ δ' G', Aft C δ1 σ G1 H1 δ' σ' G' H' ∧ WantS C δ1 σ G1 H1 (IL.forGo C.kp tg fb (ds.drop i) δ') De, ⟨_, rfl, Nat.zero_le _, δ1, G1, Aft.refl a.st, p1⟩, ?_⟩
    rintro i m σ' H' ⟨rfl, hi, δ', G', b, hI⟩
    have wk := hw i G' H' b.nx.gg b.st.gh
    rcases Nat.lt_or_ge i ds.length with hlt | hge
    · obtain ⟨w1, w2⟩ := wk.1 hlt
      refine .inr ⟨w1, fun σ2 H2 => ∃ δ2 G2, Aft C δ1 σ G1 H1 δ2 σ2 G2 H2 ∧ WantS C δ1 σ G1 H1 (IL.forGo C.kp tg fb (ds.drop (i + 1)) δ2) De, fun σ2 H2 ⟨δ2, G2, c, q⟩ => ⟨ds.length - (i + 1), by omega, rfl, hlt, δ2, G2, c, q⟩, fun x H2 y => ?_⟩
      obtain ⟨G2, d, pu, e, hx⟩ := w2 x H2 y
      have c := b.trans (pu.aft b.st)
      have hdr : ds.drop i = d :: ds.drop (i + 1) := by
        rw [List.drop_eq_getElem_cons hlt]
        congr 1
        rw [List.getElem?_eq_getElem hlt] at e
        exact Option.some.inj e
      rw [hdr] at hI
      simp only [IL.forGo] at hI
      cases hbt : IL.bindT C.kp tg d δ' with
      | none => simp only [hbt] at hI; exact hI.elim
      | some δ3 =>
        simp only [hbt] at hI
        refine hg d δ' σ' G2 H2 x δ3 c.st hx hbt _ fun σ3 G3 H3 f _ => hb δ3 σ3 G3 H3 f.st _ ?_
        cases ef : fb δ3 with
        | no => rw [ef] at hI; exact hI.elim
        | ex _ _ _ => rw [ef] at hI; exact hI.elim
        | ok fl δ4 =>
          rw [ef] at hI
          simp only [IL.bind_ok] at hI
          cases fl with
          | nx => exact fun σ4 G4 H4 g4 => ⟨δ4, G4, (c.trans f).trans g4, hI⟩
          | ct => exact fun σ4 G4 H4 g4 => ⟨δ4, G4, (c.trans f).trans g4, hI⟩
          | bk => exact fun σ4 G4 H4 g4 => hI σ4 G4 H4 ((c.trans f).trans g4)
          | rt v =>
            cases v with
            | dat d => exact fun v σ4 G4 H4 g4 r => hI v σ4 G4 H4 ((c.trans f).trans g4) r
            | new o => exact fun l ho σ4 G4 H4 g4 lc => hI l ho σ4 G4 H4 ((c.trans f).trans g4) (Loc.back (c.trans f) lc)
    · have e : i = ds.length := by omega
      subst e
      rw [List.drop_length] at hI
      exact .inl ⟨wk.2 rfl, hI σ' G' H' b⟩)
theorem js_while {tt : TT} {tb : TS} {ft : Env → IL.R Bool} {fb : Env → IL.R Fl} (n : Nat) (ht : JE (relE Bool) C tt ft) (hb : JS C tb fb) : JS C (tWhile tt tb) (fun δ => IL.whGo ft fb n δ) := fun δ σ G H S De p => by
  refine ⟨fun m σ' H' => ∃ δ' G', Aft C δ σ G H δ' σ' G' H' ∧ WantS C δ σ G H (IL.whGo ft fb m δ') De, ⟨n, δ, G, Aft.refl S, p⟩, ?_⟩
  rintro m σ' H' ⟨δ', G', a, hI⟩
  cases m with
  | zero => exact hI.elim
  | succ m =>
    simp only [IL.whGo] at hI
    refine ht δ' σ' G' H' a.st _ ?_
    cases et : ft δ' with
    | no => rw [et] at hI; exact hI.elim
    | ex _ _ _ => rw [et] at hI; exact hI.elim
    | ok k δ3 =>
      rw [et] at hI
      simp only [IL.bind_ok] at hI
      intro k' G3 H3 c ek
      have ek' : k' = k := ek
      subst ek'
      cases k' with
      | false =>
        simp only [Bool.false_eq_true, if_false] at hI ⊢
        exact hI σ' G3 H3 (a.trans c)
      | true =>
        simp only [if_true] at hI ⊢
        refine ⟨fun σ4 H4 => ∃ m', m' < m + 1 ∧ ∃ δ4 G4, Aft C δ σ G H δ4 σ4 G4 H4 ∧ WantS C δ σ G H (IL.whGo ft fb m' δ4) De, fun σ4 H4 ⟨m', hm, q⟩ => ⟨m', hm, q⟩, ?_⟩
        refine hb δ3 σ' G3 H3 c.st _ ?_
        cases ef : fb δ3 with
        | no => rw [ef] at hI; exact hI.elim
        | ex _ _ _ => rw [ef] at hI; exact hI.elim
        | ok fl δ4 =>
          rw [ef] at hI
          simp only [IL.bind_ok] at hI
          cases fl with
          | nx => exact fun σ4 G4 H4 g4 => ⟨m, Nat.lt_succ_self m, δ4, G4, (a.trans c).trans g4, hI⟩
          | ct => exact fun σ4 G4 H4 g4 => ⟨m, Nat.lt_succ_self m, δ4, G4, (a.trans c).trans g4, hI⟩
          | bk => exact fun σ4 G4 H4 g4 => hI σ4 G4 H4 ((a.trans c).trans g4)
          | rt v =>
            cases v with
            | dat d => exact fun v σ4 G4 H4 g4 r => hI v σ4 G4 H4 ((a.trans c).trans g4) r
            | new o => exact fun l ho σ4 G4 H4 g4 lc => hI l ho σ4 G4 H4 ((a.trans c).trans g4) (Loc.back (a.trans c) lc)
/-! ### calls -/
abbrev AftF (K : PySem.W.Frag) (vs : List V) (δ : Env) (G H : Hp) (δ' : Env) (G' H' : Hp) : Prop := Aft ⟨K, vs.length⟩ δ (vs.map some) G H δ' (vs.map some) G' H'
/-- a def's promise: it does what F says -/
def spF (K : PySem.W.Frag) (n : Nat) (F : Env → CR) : Sp := fun vs H Q E => vs.length = n ∧ ∃ G δ, Stt K δ (vs.map some) G H ∧ match F δ with
  | .ret (.dat d) δ' => ∀ v G' H', AftF K vs δ G H δ' G' H' → Dp K G' v d → Q v H'
  | .ret (.new o) δ' => ∀ p ho G' H', AftF K vs δ G H δ' G' H' → H p = none → G' p = none → H' p = some ho → OwR K G' o ho → ¬ Own δ' (vs.map some) p → Q (.ref p) H'
  | .ex _ _ _ => False
  | .no => False
theorem pb_other {j : Nat} : ∀ {as : List Val} {ss : Env} {δ : Env}, j ∉ ownIx as → (putBack δ as ss)[j]? = δ[j]?
  | [], _, _, _ => by simp [IL.putBack]
  | .dat _ :: as, [], _, _ => by simp [IL.putBack]
  | .new _ :: as, [], _, _ => by simp [IL.putBack]
  | .own _ :: as, [], _, _ => by simp [IL.putBack]
  | .dat _ :: as, s :: ss, δ, h => by
    simp only [IL.putBack]
    exact pb_other (by simpa [IL.ownIx] using h)
  | .new _ :: as, s :: ss, δ, h => by
    simp only [IL.putBack]
    exact pb_other (by simpa [IL.ownIx] using h)
  | .own i :: as, s :: ss, δ, h => by
    have h' : j ≠ i ∧ j ∉ ownIx as := by simpa [IL.ownIx] using h
    simp only [IL.putBack]
    rw [pb_other h'.2]
    split
    · rw [List.getElem?_set_ne (Ne.symm h'.1)]
    · rfl
theorem pb_len : ∀ {as : List Val} {ss : Env} {δ : Env}, (putBack δ as ss).length = δ.length
  | [], _, _ => by simp [IL.putBack]
  | .dat _ :: as, [], _ => by simp [IL.putBack]
  | .new _ :: as, [], _ => by simp [IL.putBack]
  | .own _ :: as, [], _ => by simp [IL.putBack]
  | .dat _ :: as, s :: ss, δ => by
    simp only [IL.putBack]
    exact pb_len
  | .new _ :: as, s :: ss, δ => by
    simp only [IL.putBack]
    exact pb_len
  | .own i :: as, s :: ss, δ => by
    simp only [IL.putBack]
    rw [pb_len]
    split
    · rw [List.length_set]
    · rfl
theorem ownIx_mem {j : Nat} : ∀ {as : List Val}, j ∈ ownIx as → ∃ k : Nat, as[k]? = some (Val.own j)
  | .dat _ :: as, h => by
    obtain ⟨k, e⟩ := ownIx_mem (as := as) (by simpa [IL.ownIx] using h)
    exact ⟨k + 1, by simpa using e⟩
  | .new _ :: as, h => by
    obtain ⟨k, e⟩ := ownIx_mem (as := as) (by simpa [IL.ownIx] using h)
    exact ⟨k + 1, by simpa using e⟩
  | .own i :: as, h => by
    rcases List.mem_cons.mp (show j ∈ i :: ownIx as from h) with e | e
    · exact ⟨0, by simp [e]⟩
    · obtain ⟨k, e⟩ := ownIx_mem e
      exact ⟨k + 1, by simpa using e⟩
theorem mem_ownIx {j : Nat} : ∀ {as : List Val} {k : Nat}, as[k]? = some (.own j) → j ∈ ownIx as
  | [], _, h => by simp at h
  | .dat _ :: as, 0, h => by simp at h
  | .new _ :: as, 0, h => by simp at h
  | .own i :: as, 0, h => by
    simp at h
    simp [IL.ownIx, h]
  | .dat _ :: as, k + 1, h => by
    simp only [IL.ownIx]
    exact mem_ownIx (k := k) (by simpa using h)
  | .new _ :: as, k + 1, h => by
    simp only [IL.ownIx]
    exact mem_ownIx (k := k) (by simpa using h)
  | .own i :: as, k + 1, h => by
    simp only [IL.ownIx]
    exact List.mem_cons_of_mem _ (mem_ownIx (k := k) (by simpa using h))
/-- what an owned slot is behind -/
theorem pb_own {j : Nat} {s : Slot} {o : Ow} : ∀ {as : List Val} {ss : Env} {δ : Env} {k : Nat}, (ownIx as).Nodup → as[k]? = some (.own j) → ss[k]? = some s → δ[j]? = some (.ow o) → (putBack δ as ss)[j]? = some s
  | [], _, _, _, _, h, _, _ => by simp at h
  | .dat _ :: as, [], _, _, _, _, h, _ => by simp at h
  | .new _ :: as, [], _, _, _, _, h, _ => by simp at h
  | .own _ :: as, [], _, _, _, _, h, _ => by simp at h
  | .dat _ :: as, s' :: ss, δ, 0, _, h, _, _ => by simp at h
  | .new _ :: as, s' :: ss, δ, 0, _, h, _, _ => by simp at h
  | .dat _ :: as, s' :: ss, δ, k + 1, hn, h, h2, hj => by
    simp only [IL.putBack]
    exact pb_own (by simpa [IL.ownIx] using hn) (by simpa using h) (by simpa using h2) hj
  | .new _ :: as, s' :: ss, δ, k + 1, hn, h, h2, hj => by
    simp only [IL.putBack]
    exact pb_own (by simpa [IL.ownIx] using hn) (by simpa using h) (by simpa using h2) hj
  | .own i :: as, s' :: ss, δ, 0, hn, h, h2, hj => by
    simp at h h2
    subst h h2
    have hn' : i ∉ ownIx as := (List.nodup_cons.mp (show (i :: ownIx as).Nodup from hn)).1
    simp only [IL.putBack, hj]
    rw [pb_other hn', List.getElem?_set_self (List.getElem?_eq_some_iff.mp hj).1]
  | .own i :: as, s' :: ss, δ, k + 1, hn, h, h2, hj => by
    have hn' := List.nodup_cons.mp (show (i :: ownIx as).Nodup from hn)
    have hij : i ≠ j := fun e => hn'.1 (e ▸ mem_ownIx (k := k) (by simpa using h))
    simp only [IL.putBack]
    refine pb_own (o := o) (k := k) hn'.2 (by simpa using h) (by simpa using h2) ?_
    split
    · rw [List.getElem?_set_ne hij]
      exact hj
    · exact hj
/-- a slot that is not owned stays -/
theorem pb_keep {j : Nat} : ∀ {as : List Val} {ss : Env} {δ : Env}, (∀ o, δ[j]? ≠ some (.ow o)) → (putBack δ as ss)[j]? = δ[j]?
  | [], _, _, _ => by simp [IL.putBack]
  | .dat _ :: as, [], _, _ => by simp [IL.putBack]
  | .new _ :: as, [], _, _ => by simp [IL.putBack]
  | .own _ :: as, [], _, _ => by simp [IL.putBack]
  | .dat _ :: as, s :: ss, δ, h => by
    simp only [IL.putBack]
    exact pb_keep h
  | .new _ :: as, s :: ss, δ, h => by
    simp only [IL.putBack]
    exact pb_keep h
  | .own i :: as, s :: ss, δ, h => by
    simp only [IL.putBack]
    split
    · rename_i o e
      have hij : i ≠ j := fun z => h o (z ▸ e)
      rw [pb_keep (fun o' z => h o' (by rw [List.getElem?_set_ne hij] at z; exact z)), List.getElem?_set_ne hij]
    · exact pb_keep h
theorem own_uniq {i : Nat} : ∀ {as : List Val} {a b : Nat}, (ownIx as).Nodup → as[a]? = some (.own i) → as[b]? = some (.own i) → a = b
  | [], _, _, _, h, _ => by simp at h
  | x :: as, 0, 0, _, _, _ => rfl
  | x :: as, 0, b + 1, hn, h1, h2 => by
    exfalso
    simp at h1
    subst h1
    exact (List.nodup_cons.mp (show (i :: ownIx as).Nodup from hn)).1 (mem_ownIx (k := b) (by simpa using h2))
  | x :: as, a + 1, 0, hn, h1, h2 => by
    exfalso
    simp at h2
    subst h2
    exact (List.nodup_cons.mp (show (i :: ownIx as).Nodup from hn)).1 (mem_ownIx (k := a) (by simpa using h1))
  | x :: as, a + 1, b + 1, hn, h1, h2 => by
    have hn' : (ownIx as).Nodup := by
      cases x with
      | dat _ => exact hn
      | new _ => exact hn
      | own _ => exact (List.nodup_cons.mp hn).2
    exact congrArg (· + 1) (own_uniq hn' (by simpa using h1) (by simpa using h2))
theorem new_uniq {K : PySem.W.Frag} {H0 : Hp} {v : V} {o o' : Ow} : ∀ {vs : List V} {as : List Val} {a b : Nat}, ValsR K σ δ H0 G H vs as → as[a]? = some (.new o) → as[b]? = some (.new o') → vs[a]? = some v → vs[b]? = some v → a = b
  | [], [], _, _, _, h, _, _, _ => by simp at h
  | [], _ :: _, _, _, hv, _, _, _, _ => hv.elim
  | _ :: _, [], _, _, hv, _, _, _, _ => hv.elim
  | u :: vs, x :: as, 0, 0, _, _, _, _, _ => rfl
  | u :: vs, x :: as, 0, b + 1, hv, h1, h2, h3, h4 => by
    exfalso
    simp at h1 h3
    subst h1 h3
    exact hv.2.2 o rfl b o' (by simpa using h2) (by simpa using h4)
  | u :: vs, x :: as, a + 1, 0, hv, h1, h2, h3, h4 => by
    exfalso
    simp at h2 h4
    subst h2 h4
    exact hv.2.2 o' rfl a o (by simpa using h1) (by simpa using h3)
  | u :: vs, x :: as, a + 1, b + 1, hv, h1, h2, h3, h4 => congrArg (· + 1) (new_uniq hv.2.1 (by simpa using h1) (by simpa using h2) (by simpa using h3) (by simpa using h4))
/-- the callee's state -/
theorem stt_args {H0 : Hp} {as : List Val} {vs : List V} (S : Stt C.K δ σ G H) (hv : ValsR C.K σ δ H0 G H vs as) (hn : (ownIx as).Nodup) :
    Stt C.K (as.map (argSlot δ)) (vs.map some) G H ∧ ∀ k l, OwnAt (as.map (argSlot δ)) (vs.map some) k l → (∃ i, as[k]? = some (.own i) ∧ OwnAt δ σ i l) ∨ (∃ o, as[k]? = some (.new o) ∧ vs[k]? = some (.ref l) ∧ ¬ Own δ σ l ∧ H0 l = none) := by
  have hl : vs.length = as.length := ValsR.len hv
  have ow : ∀ k l, OwnAt (as.map (argSlot δ)) (vs.map some) k l → (∃ i, as[k]? = some (.own i) ∧ OwnAt δ σ i l) ∨ (∃ o, as[k]? = some (.new o) ∧ vs[k]? = some (.ref l) ∧ ¬ Own δ σ l ∧ H0 l = none) := fun k l ⟨⟨o, e⟩, e2⟩ => by
    rw [List.getElem?_map] at e e2
    cases ea : as[k]? with
    | none => rw [ea] at e; cases e
    | some a =>
      rw [ea] at e
      obtain ⟨v, q2, r⟩ := ValsR.get hv ea
      rw [q2] at e2
      have e3 : v = .ref l := by simpa using e2
      subst e3
      cases a with
      | dat d => cases e
      | own i =>
        have e4 : IL.get δ i = .ow o := Option.some.inj e
        have e5 : δ[i]? = some (.ow o) := by
          unfold IL.get at e4
          rw [List.getD_eq_getElem?_getD] at e4
          cases h : δ[i]? with
          | none => rw [h] at e4; cases e4
          | some s => rw [h] at e4; cases e4; rfl
        exact .inl ⟨i, rfl, ⟨o, e5⟩, r⟩
      | new o' =>
        obtain ⟨l', ho, z1, z2, z3, z4, z5, z6⟩ := r
        cases z1
        exact .inr ⟨o', rfl, q2, z5, z2⟩
  refine ⟨⟨S.gh, fun k s e => ?_, fun a b l h1 h2 => ?_, by rw [List.length_map, List.length_map, hl]⟩, ow⟩
  · rw [List.getElem?_map] at e ⊢
    cases ea : as[k]? with
    | none => rw [ea] at e; cases e
    | some a =>
      rw [ea] at e
      obtain ⟨v, q2, r⟩ := ValsR.get hv ea
      rw [q2]
      have es : argSlot δ a = s := Option.some.inj e
      subst es
      cases a with
      | dat d => exact ⟨v, rfl, r⟩
      | own i =>
        have r' : σ[i]? = some (some v) := r
        show SlotR C.K G H (IL.get δ i) (some (some v))
        unfold IL.get
        rw [List.getD_eq_getElem?_getD]
        cases h : δ[i]? with
        | none => trivial
        | some s =>
          have q := S.env i s h
          rw [r'] at q
          exact q
      | new o =>
        obtain ⟨l', ho, z1, z2, z3, z4, z5, z6⟩ := r
        exact ⟨l', ho, by rw [z1]; rfl, z3, z4, z6⟩
  · rcases ow a l h1 with ⟨i, q1, o1⟩ | ⟨o1, q1, v1, n1, z1⟩
    · rcases ow b l h2 with ⟨j, q2, o2⟩ | ⟨o2, q2, v2, n2, z2⟩
      · have e := S.dis i j l o1 o2
        subst e
        exact own_uniq hn q1 q2
      · exact absurd ⟨i, o1⟩ n2
    · rcases ow b l h2 with ⟨j, q2, o2⟩ | ⟨o2, q2, v2, n2, z2⟩
      · exact absurd ⟨j, o2⟩ n1
      · exact new_uniq hv q1 q2 v1 v2
/-- the caller's state behind the call -/
theorem aft_call {as : List Val} {vs : List V} {δa' : Env} (a0 : Aft C δ σ G H δ1 σ G1 H1) (hv : ValsR C.K σ δ1 H G1 H1 vs as) (hn : (ownIx as).Nodup) (a : AftF C.K vs (as.map (argSlot δ1)) G1 H1 δa' G' H') :
    Aft C δ σ G H (putBack δ1 as δa') σ G' H' ∧ ∀ l, Own (putBack δ1 as δa') σ l → Own δ1 σ l := by
  have S := a0.st
  obtain ⟨Sa, ow⟩ := stt_args S hv hn
  have hl : vs.length = as.length := ValsR.len hv
  have hlen : δa'.length = as.length := by rw [a.ln, List.length_map]
  -- an owned argument, behind
  have arg : ∀ k i o', as[k]? = some (.own i) → δ1[i]? = some (.ow o') → ∃ l o, OwnAt δ1 σ i l ∧ δa'[k]? = some (.ow o) ∧ (putBack δ1 as δa')[i]? = some (.ow o) ∧ OwnAt δa' (vs.map some) k l := fun k i o' q e' => by
    obtain ⟨v, q2, r⟩ := ValsR.get hv q
    obtain ⟨l, x, e1, e2, e3, e4⟩ := S.env i _ e'
    have r' : σ[i]? = some (some v) := r
    rw [e1] at r'
    have ev : v = .ref l := (Option.some.inj (Option.some.inj r')).symm
    subst ev
    have hk : k < as.length := (List.getElem?_eq_some_iff.mp q).1
    have oa : OwnAt (as.map (argSlot δ1)) (vs.map some) k l := by
      refine ⟨⟨o', ?_⟩, by rw [List.getElem?_map, q2]; rfl⟩
      rw [List.getElem?_map, q]
      show some (IL.get δ1 i) = _
      unfold IL.get
      rw [List.getD_eq_getElem?_getD, e']
      rfl
    have ka := a.kp k l (by show k < vs.length; omega) oa
    obtain ⟨⟨o, e5⟩, e6⟩ := id ka
    exact ⟨l, o, ⟨⟨o', e'⟩, e1⟩, e5, pb_own hn q e5 e', ka⟩
  -- what is owned behind was owned
  have own2 : ∀ j l, OwnAt (putBack δ1 as δa') σ j l → OwnAt δ1 σ j l := fun j l ⟨⟨o, e⟩, e2⟩ => by
    by_cases ho : ∃ o', δ1[j]? = some (.ow o')
    · exact ⟨ho, e2⟩
    · rw [pb_keep (fun o' z => ho ⟨o', z⟩)] at e
      exact absurd ⟨o, e⟩ ho
  have nown : ∀ j l, j ∉ ownIx as → OwnAt δ1 σ j l → ¬ Own (as.map (argSlot δ1)) (vs.map some) l := fun j l hj h ⟨k, h2⟩ => by
    rcases ow k l h2 with ⟨i, q, h3⟩ | ⟨o, _, _, n, _⟩
    · have e := S.dis j i l h h3
      subst e
      exact hj (mem_ownIx q)
    · exact n ⟨j, h⟩
  refine ⟨⟨⟨a.st.gh, fun i s e => ?_, fun i j l h1 h2 => S.dis i j l (own2 _ _ h1) (own2 _ _ h2), by rw [pb_len]; exact S.len⟩, a0.nx.trans a.nx fun l ⟨k, h⟩ => ?_, fun l ⟨j, h⟩ => a0.ow l ⟨j, own2 j l h⟩, fun i l hi h => ?_, pb_len.trans a0.ln⟩, fun l ⟨j, h⟩ => ⟨j, own2 j l h⟩⟩
  · by_cases ho : ∃ o', δ1[i]? = some (.ow o')
    · obtain ⟨o', e'⟩ := ho
      by_cases hj : i ∈ ownIx as
      · obtain ⟨k, q⟩ := ownIx_mem hj
        obtain ⟨l, o, o1, o3, o4, o5⟩ := arg k i o' q e'
        rw [o4] at e
        cases e
        obtain ⟨l', x, z1, z2, z3, z4⟩ := a.st.env k _ o3
        have e6 := o5.2
        rw [e6] at z1
        cases z1
        exact ⟨l, x, o1.2, z2, z3, z4⟩
      · rw [pb_other hj, e'] at e
        cases e
        obtain ⟨l, x, z1, z2, z3, z4⟩ := S.env i _ e'
        have n := nown i l hj ⟨⟨o', e'⟩, z1⟩
        exact ⟨l, x, z1, (a.nx.fr l x n z3).trans z2, a.nx.hh l x n z3, z4.ex a.nx.gg⟩
    · rw [pb_keep (fun o' z => ho ⟨o', z⟩)] at e
      have z := S.env i s e
      cases s with
      | un => trivial
      | im d =>
        obtain ⟨u, z1, z2⟩ := z
        exact ⟨u, z1, Dp.ex a.nx.gg _ _ z2⟩
      | ow o => exact absurd ⟨o, e⟩ ho
  · rcases ow k l h with ⟨i, _, h2⟩ | ⟨o, _, _, _, z⟩
    · exact a0.ow l ⟨i, h2⟩
    · exact .inr z
  · have h1 := a0.kp i l hi h
    obtain ⟨⟨o', e'⟩, e2⟩ := h1
    by_cases hj : i ∈ ownIx as
    · obtain ⟨k, q⟩ := ownIx_mem hj
      obtain ⟨l', o, o1, o3, o4, o5⟩ := arg k i o' q e'
      exact ⟨⟨o, o4⟩, e2⟩
    · exact ⟨⟨o', by rw [pb_other hj]; exact e'⟩, e2⟩
theorem je_call {n : Nat} {F : Env → CR} {ES : St → XK} {ta : TA} {fa : Env → IL.R (List Val)} (hF : ∀ δ, F δ ≠ .no → δ.length = n) (ha : JE (relVs C.K) C ta fa) :
    JE (relV C.K) C (tCallS (spF C.K n F) ES ta) (fun δ => (fa δ).bind fun as δ1 => if (ownIx as).Nodup then IL.callR (F (as.map (argSlot δ1))) as δ1 else .no) := fun δ σ G H S Q w => by
  have w' : Want (relV C.K) C δ σ G H ((fa δ).bind fun as δ1 => if (ownIx as).Nodup then IL.callR (F (as.map (argSlot δ1))) as δ1 else .no) Q := w
  refine ha δ σ G H S _ ?_
  cases e : fa δ with
  | no => rw [e] at w'; exact w'
  | ex _ _ _ => rw [e] at w'; exact w'
  | ok as δ1 =>
    rw [e] at w'
    simp only [IL.bind_ok] at w'
    by_cases hn : (ownIx as).Nodup
    case neg =>
      rw [if_neg hn] at w'
      exact w'.elim
    rw [if_pos hn] at w'
    intro vs G1 H1 a1 r1
    have Sa := stt_args a1.st r1 hn
    have hl : vs.length = as.length := ValsR.len r1
    show spF C.K n F vs H1 Q (ES σ)
    cases ef : F (as.map (argSlot δ1)) with
    | no => rw [ef] at w'; exact w'.elim
    | ex _ _ _ => rw [ef] at w'; exact w'.elim
    | ret v ss =>
      rw [ef] at w'
      have hlen := hF (as.map (argSlot δ1)) (by rw [ef]; intro z; cases z)
      rw [List.length_map] at hlen
      cases v with
      | dat d =>
        refine ⟨by omega, G1, _, Sa.1, ?_⟩
        rw [ef]
        exact fun v G' H' b r => w' v G' H' (aft_call a1 r1 hn b).1 r
      | new o =>
        refine ⟨by omega, G1, _, Sa.1, ?_⟩
        rw [ef]
        intro p ho G' H' b h0 g0 h1 r nw
        have z := aft_call a1 r1 hn b
        refine w' (.ref p) G' H' z.1 ⟨p, ho, rfl, a1.nx.noneOf h0, g0, h1, fun hp => ?_, r⟩
        obtain ⟨_, x, e'⟩ := a1.st.own (z.2 p hp)
        rw [h0] at e'; cases e'
end
end J
end
section
set_option Elab.async false
set_option linter.all false
set_option maxRecDepth 100000
set_option maxHeartbeats 2000000
/-! J8: a text of the small language stands for a text of Python: the check, and what it is worth. -/
namespace J
open PySem L2 PyProof.Rows
open IL (D Ow Slot Val CR RV Fl Bop Cop Tg wipeE ownIx putBack argSlot CE CEs CT CO CI CS CB Fn Mt)
/-- where one stands: the names by slot, the scope, the defs with their numbers of parameters, whether this is a def's own body -/
structure Sc where
  N : List Str
  scope : Scope
  fs : List (Str × Nat)
  top : Bool
def okN (x : Str) : Bool := !(x == ("__debug__" : Str)) && !(x == ("__classdict__" : Str))
def visB (sc : Sc) (x : Str) : Bool := match sc.scope.names.lookup x with
  | some .local => true
  | some .cell => true
  | some .free => true
  | _ => false
def glB (sc : Sc) (x : Str) : Bool := match sc.scope.names.lookup x with
  | some .globalImplicit => true
  | _ => false
def putB (sc : Sc) (x : Str) : Bool := match sc.scope.names.lookup x with
  | some .local => true
  | some .cell => sc.top
  | _ => false
/-- an expression that is walked and stored as it stands -/
def plainE : Expr → Bool
  | .Starred .. => false
  | .Set .. => false
  | .Slice .. => false
  | .SetComp .. => false
  | .DictComp .. => false
  | _ => true
def notComp : Expr → Bool
  | .ListComp .. => false
  | e => plainE e
/-- an expression whose test is its value's truth -/
def plainT : Expr → Bool
  | .UnaryOp .. => false
  | .BoolOp .. => false
  | .IfExp .. => false
  | .Compare .. => false
  | e => plainE e
def notTup : Expr → Bool
  | .Tuple .. => false
  | e => notComp e
def notSuper : Expr → Bool
  | .Call .. => false
  | _ => true
def blts : List Str := ["len", "int", "abs", "sum", "min", "max", "any", "all", "tuple", "list", "repr", "sorted", "set", "range"]
def fnName : Fn → Str
  | .len => "len"
  | .int => "int"
  | .abs => "abs"
  | .sum => "sum"
  | .min2 => "min"
  | .max2 => "max"
  | .any => "any"
  | .all => "all"
  | .tuple => "tuple"
  | .list => "list"
  | .repr => "repr"
  | .sorted => "sorted"
  | .sortedSet => "sorted"
  | .minLen => "min"
def mtName : Mt → Str
  | .append => "append"
  | .pop => "pop"
  | .insert => "insert"
/-- the scope of a comprehension's block -/
def Sc.blk (sc : Sc) (s : Scope) : Sc := { sc with scope := relS s sc.scope, top := false }
def ownOf (sc : Sc) (vs : List Nat) : List (Str × Nat) := vs.map fun v => (sc.N.getD v (Str.ofString ""), v)
def isFun : ScopeKind → Bool
  | .function => true
  | _ => false
def chkName (sc : Sc) (i : Nat) : Expr → Bool
  | .Name x _ => decide (sc.N[i]? = some x) && (visB sc x && okN x)
  | _ => false
def chkTgt (sc : Sc) (i : Nat) : Expr → Bool
  | .Name x _ => decide (sc.N[i]? = some x) && putB sc x
  | _ => false
def chkTgts (sc : Sc) : List Nat → List Expr → Bool
  | [], [] => true
  | i :: is, e :: es => chkTgt sc i e && (plainE e && chkTgts sc is es)
  | _, _ => false
def chkG (sc : Sc) : Tg → Expr → Bool
  | .name i, e => chkTgt sc i e
  | .tup is, .Tuple es _ _ => chkTgts sc is es
  | _, _ => false
def tgIx : Tg → List Nat
  | .name i => [i]
  | .tup is => is
/-! ### the text, taken apart -/
def asConst : Expr → Option Const
  | .Constant c _ _ => some c
  | _ => none
def asBin : Expr → Option (Expr × Operator × Expr)
  | .BinOp x op y _ => some (x, op, y)
  | _ => none
def asUn : Expr → Option (UnaryOp × Expr)
  | .UnaryOp op x _ => some (op, x)
  | _ => none
def asCmp : Expr → Option (Expr × CmpOp × Expr)
  | .Compare x [op] [y] _ => some (x, op, y)
  | _ => none
def asBool : Expr → Option (BoolOp × Expr × Expr)
  | .BoolOp op [x, y] _ => some (op, x, y)
  | .BoolOp op (x :: y :: z :: r) p => some (op, x, .BoolOp op (y :: z :: r) p)
  | _ => none
def asIf : Expr → Option (Expr × Expr × Expr)
  | .IfExp t x y _ => some (t, x, y)
  | _ => none
def asTup : Expr → Option (List Expr)
  | .Tuple xs _ _ => some xs
  | _ => none
def asLst : Expr → Option (List Expr)
  | .List xs _ => some xs
  | _ => none
def asSub : Expr → Option (Expr × Expr)
  | .Subscript x y _ => some (x, y)
  | _ => none
def asSli : Expr → Option (Option Expr × Option Expr)
  | .Slice l h none _ => some (l, h)
  | _ => none
def isRev : Expr → Bool
  | .Slice none none (some (.UnaryOp .USub (.Constant (.int 1) _ _) _)) _ => true
  | _ => false
def asName : Expr → Option Str
  | .Name n _ => some n
  | _ => none
def asCall : Expr → Option (Str × List Expr)
  | .Call (.Name n _) xs [] _ => some (n, xs)
  | _ => none
def isMinKw : List Keyword → Bool
  | [⟨some k1, .Name l _, _⟩, ⟨some k2, .Constant .none _ _, _⟩] => decide (k1 = ("key" : Str)) && (decide (l = ("len" : Str)) && decide (k2 = ("default" : Str)))
  | _ => false
def asMin : Expr → Option Expr
  | .Call (.Name n _) [x] kws _ => if (decide (n = ("min" : Str)) && isMinKw kws) = true then some x else none
  | _ => none
def asMeth : Expr → Option (Expr × Str × List Expr)
  | .Call (.Attribute o a ap) xs [] cp => if (ap.endLine == cp.line) = true then some (o, a, xs) else none
  | _ => none
def asLc : Expr → Option (Expr × Expr × Expr × List Expr × Scope)
  | .ListComp elt [⟨tg, iter, ifs, k⟩] s _ => if k = 0 then some (elt, tg, iter, ifs, s) else none
  | _ => none
/-- what is asked of a comprehension but for its parts -/
def lcB (sc : Sc) (vs : List Nat) (g : Tg) (tg iter : Expr) (s : Scope) : Bool := plainE iter && (blkC sc.N sc.scope s (ownOf sc vs) && (isFun sc.scope.kind && (isFun s.kind && (decide (∀ i ∈ tgIx g, i ∈ vs) && chkG (sc.blk s) g tg))))
def fnB (sc : Sc) (f : Fn) (k : List Expr → Bool) (x : Expr) : Bool := match asCall x with
  | some (n, xs) => decide (n = fnName f) && (!xs.isEmpty && (glB sc n && k xs))
  | none => false
mutual
def chkE : CE → Sc → Expr → Bool
  | .var i => fun sc x => chkName sc i x
  | .int i => fun sc x => decide (asConst x = some (.int i))
  | .str s => fun sc x => decide (asConst x = some (.str s))
  | .bool b => fun sc x => decide (asConst x = some (.bool b))
  | .none => fun sc x => decide (asConst x = some .none)
  | .fz e => fun sc x => chkE e sc x
  | .bin o a b => fun sc x => match asBin x with
    | some (l, op, r) => decide (opA o = op) && (chkE a sc l && chkE b sc r)
    | none => false
  | .neg a => fun sc x => match asUn x with
    | some (op, l) => decide (op = .USub) && chkE a sc l
    | none => false
  | .cmp o a b => fun sc x => match asCmp x with
    | some (l, op, r) => decide (copA o = op) && (chkE a sc l && (chkE b sc r && plainE r))
    | none => false
  | .isN a => fun sc x => match asCmp x with
    | some (l, op, r) => decide (op = .Is) && (decide (asConst r = some .none) && chkE a sc l)
    | none => false
  | .notN a => fun sc x => match asCmp x with
    | some (l, op, r) => decide (op = .IsNot) && (decide (asConst r = some .none) && chkE a sc l)
    | none => false
  | .not a => fun sc x => match asUn x with
    | some (op, l) => decide (op = .Not) && chkE a sc l
    | none => false
  | .and a b => fun sc x => match asBool x with
    | some (op, l, r) => decide (op = .And) && (chkE a sc l && chkE b sc r)
    | none => false
  | .or a b => fun sc x => match asBool x with
    | some (op, l, r) => decide (op = .Or) && (chkE a sc l && chkE b sc r)
    | none => false
  | .ite c a b => fun sc x => match asIf x with
    | some (t, l, r) => chkT c sc t && (chkE a sc l && chkE b sc r)
    | none => false
  | .tup es => fun sc x => match asTup x with
    | some xs => chkEs es sc xs
    | none => false
  | .lst es => fun sc x => match asLst x with
    | some xs => chkEs es sc xs
    | none => false
  | .idx a b => fun sc x => match asSub x with
    | some (l, r) => chkE a sc l && (chkE b sc r && plainE r)
    | none => false
  | .sli a lo hi => fun sc x => match asSub x with
    | some (l, r) => (match asSli r with
      | some (u, v) => chkE a sc l && (chkO lo sc u && chkO hi sc v)
      | none => false)
    | none => false
  | .rev a => fun sc x => match asSub x with
    | some (l, r) => isRev r && chkE a sc l
    | none => false
  | .call f es => fun sc x => match asCall x with
    | some (n, xs) => decide (sc.fs[f]? = some (n, xs.length)) && (glB sc n && (okN n && chkEs es sc xs))
    | none => false
  | .bi f es => fun sc x => match f with
    | .sortedSet => (match asCall x with
      | some (n, [y]) => (match asCall y with
        | some (m, [z]) => decide (n = ("sorted" : Str)) && (decide (m = ("set" : Str)) && (glB sc n && (glB sc m && chkEs es sc [z])))
        | _ => false)
      | _ => false)
    | .minLen => (match asMin x with
      | some y => glB sc ("min" : Str) && (glB sc ("len" : Str) && chkEs es sc [y])
      | none => false)
    | f => fnB sc f (chkEs es sc) x
  | .mt m i es => fun sc x => match asMeth x with
    | some (o, a, xs) => chkName sc i o && (decide (a = mtName m) && (decide (xs.length < 20) && (decide (xs = [] ↔ m = .pop) && chkEs es sc xs)))
    | none => false
  | .ext i e => fun sc x => match asMeth x with
    | some (o, a, [y]) => chkName sc i o && (decide (a = ("extend" : Str)) && (chkE e sc y && plainE y))
    | _ => false
  | .lc e g it vs => fun sc x => match asLc x with
    | some (elt, tg, iter, [], s) => lcB sc vs g tg iter s && (chkI it sc iter && chkE e (sc.blk s) elt)
    | _ => false
  | .lcIf e g it c vs => fun sc x => match asLc x with
    | some (elt, tg, iter, [t], s) => lcB sc vs g tg iter s && (chkI it sc iter && (chkT c (sc.blk s) t && chkE e (sc.blk s) elt))
    | _ => false
def chkT : CT → Sc → Expr → Bool
  | .cmp o a b => fun sc x => match asCmp x with
    | some (l, op, r) => decide (copA o = op) && (chkE a sc l && (chkE b sc r && plainE r))
    | none => false
  | .isN a => fun sc x => match asCmp x with
    | some (l, op, r) => decide (op = .Is) && (decide (asConst r = some .none) && chkE a sc l)
    | none => false
  | .notN a => fun sc x => match asCmp x with
    | some (l, op, r) => decide (op = .IsNot) && (decide (asConst r = some .none) && chkE a sc l)
    | none => false
  | .not a => fun sc x => match asUn x with
    | some (op, l) => decide (op = .Not) && chkT a sc l
    | none => false
  | .and a b => fun sc x => match asBool x with
    | some (op, l, r) => decide (op = .And) && (chkT a sc l && chkT b sc r)
    | none => false
  | .or a b => fun sc x => match asBool x with
    | some (op, l, r) => decide (op = .Or) && (chkT a sc l && chkT b sc r)
    | none => false
  | .tr e => fun sc x => chkE e sc x && plainT x
def chkEs : CEs → Sc → List Expr → Bool
  | .nil => fun sc xs => xs.isEmpty
  | .cons e es => fun sc xs => match xs with
    | x :: xs => chkE e sc x && (plainE x && chkEs es sc xs)
    | [] => false
def chkO : CO → Sc → Option Expr → Bool
  | .no => fun sc x => x.isNone
  | .yes e => fun sc x => match x with
    | some y => chkE e sc y
    | none => false
def chkI : CI → Sc → Expr → Bool
  | .rng1 e => fun sc x => match asCall x with
    | some (n, [y]) => decide (n = ("range" : Str)) && (glB sc n && (chkE e sc y && plainE y))
    | _ => false
  | .rng2 e f => fun sc x => match asCall x with
    | some (n, [y, z]) => decide (n = ("range" : Str)) && (glB sc n && (chkE e sc y && (plainE y && (chkE f sc z && plainE z))))
    | _ => false
  | .of e => fun sc x => chkE e sc x
end
/-! ### what the parts tell -/
theorem asConst_of {x : Expr} {c : Const} (h : asConst x = some c) : ∃ k p, x = .Constant c k p := by
  cases x <;> first | (cases h; exact ⟨_, _, rfl⟩) | cases h
theorem asBin_of {x l r : Expr} {op : Operator} (h : asBin x = some (l, op, r)) : ∃ p, x = .BinOp l op r p := by
  cases x <;> first | (cases h; exact ⟨_, rfl⟩) | cases h
theorem asUn_of {x l : Expr} {op : UnaryOp} (h : asUn x = some (op, l)) : ∃ p, x = .UnaryOp op l p := by
  cases x <;> first | (cases h; exact ⟨_, rfl⟩) | cases h
theorem asCmp_of {x l r : Expr} {op : CmpOp} (h : asCmp x = some (l, op, r)) : ∃ p, x = .Compare l [op] [r] p := by
  unfold asCmp at h
  split at h
  · cases h; exact ⟨_, rfl⟩
  · cases h
theorem asBool_of {x l r : Expr} {op : BoolOp} (h : asBool x = some (op, l, r)) : ∃ p, x = .BoolOp op [l, r] p ∨ ∃ y z s, r = .BoolOp op (y :: z :: s) p ∧ x = .BoolOp op (l :: y :: z :: s) p := by
  unfold asBool at h
  split at h
  · cases h; exact ⟨_, .inl rfl⟩
  · cases h; exact ⟨_, .inr ⟨_, _, _, rfl, rfl⟩⟩
  · cases h
theorem asIf_of {x t l r : Expr} (h : asIf x = some (t, l, r)) : ∃ p, x = .IfExp t l r p := by
  cases x <;> first | (cases h; exact ⟨_, rfl⟩) | cases h
theorem asTup_of {x : Expr} {xs : List Expr} (h : asTup x = some xs) : ∃ k p, x = .Tuple xs k p := by
  cases x <;> first | (cases h; exact ⟨_, _, rfl⟩) | cases h
theorem asLst_of {x : Expr} {xs : List Expr} (h : asLst x = some xs) : ∃ p, x = .List xs p := by
  cases x <;> first | (cases h; exact ⟨_, rfl⟩) | cases h
theorem asSub_of {x l r : Expr} (h : asSub x = some (l, r)) : ∃ p, x = .Subscript l r p := by
  cases x <;> first | (cases h; exact ⟨_, rfl⟩) | cases h
theorem asSli_of {x : Expr} {l r : Option Expr} (h : asSli x = some (l, r)) : ∃ p, x = .Slice l r none p := by
  unfold asSli at h
  split at h
  · cases h; exact ⟨_, rfl⟩
  · cases h
theorem isRev_of {x : Expr} (h : isRev x = true) : ∃ k p1 p2 p3, x = .Slice none none (some (.UnaryOp .USub (.Constant (.int 1) k p1) p2)) p3 := by
  unfold isRev at h
  split at h
  · exact ⟨_, _, _, _, rfl⟩
  · cases h
theorem asCall_of {x : Expr} {n : Str} {xs : List Expr} (h : asCall x = some (n, xs)) : ∃ q p, x = .Call (.Name n q) xs [] p := by
  unfold asCall at h
  split at h
  · cases h; exact ⟨_, _, rfl⟩
  · cases h
theorem isMinKw_of {k : List Keyword} (h : isMinKw k = true) : ∃ q j c k1 k2, k = [⟨some ("key" : Str), .Name ("len" : Str) q, k1⟩, ⟨some ("default" : Str), .Constant .none j c, k2⟩] := by
  unfold isMinKw at h
  split at h
  · simp only [Bool.and_eq_true, decide_eq_true_eq] at h
    obtain ⟨rfl, rfl, rfl⟩ := h
    exact ⟨_, _, _, _, _, rfl⟩
  · cases h
theorem asMin_of {x y : Expr} (h : asMin x = some y) : ∃ p pos q j c k1 k2, x = .Call (.Name ("min" : Str) p) [y] [⟨some ("key" : Str), .Name ("len" : Str) q, k1⟩, ⟨some ("default" : Str), .Constant .none j c, k2⟩] pos := by
  unfold asMin at h
  split at h
  · split at h
    · rename_i h2
      simp only [Bool.and_eq_true, decide_eq_true_eq] at h2
      obtain ⟨rfl, h3⟩ := h2
      obtain ⟨q, j, c, k1, k2, rfl⟩ := isMinKw_of h3
      cases h
      exact ⟨_, _, _, _, _, _, _, rfl⟩
    · cases h
  · cases h
theorem asMeth_of {x o : Expr} {a : Str} {xs : List Expr} (h : asMeth x = some (o, a, xs)) : ∃ ap cp, (ap.endLine == cp.line) = true ∧ x = .Call (.Attribute o a ap) xs [] cp := by
  unfold asMeth at h
  split at h
  · split at h
    · rename_i h2
      cases h
      exact ⟨_, _, h2, rfl⟩
    · cases h
  · cases h
theorem asLc_of {x elt tg iter : Expr} {ifs : List Expr} {s : Scope} (h : asLc x = some (elt, tg, iter, ifs, s)) : ∃ p, x = .ListComp elt [⟨tg, iter, ifs, 0⟩] s p := by
  unfold asLc at h
  split at h
  · split at h
    · rename_i h2
      cases h
      subst h2
      exact ⟨_, rfl⟩
    · cases h
  · cases h
end J
end
section
set_option Elab.async false
set_option linter.all false
set_option autoImplicit false
set_option maxRecDepth 100000
set_option maxHeartbeats 4000000
/-! J9: the check is sound: expressions. -/
namespace J
open PySem L2 PyProof.Rows
open IL (D Ow Slot Val CR RV Fl Bop Cop Tg wipeE ownIx putBack argSlot CE CEs CT CO CI CS CB Fn Mt)
open DG (Clr FnG)
/-- what holds of the context in which a checked text runs -/
structure Good (K : PySem.W.Frag) (w : World) (call : Nat → Env → CR) (sc : Sc) (X : Cx) : Prop where
  k : X.K = K
  w : X.w = w
  N : X.N = sc.N
  nd : X.N.Nodup
  scope : X.env.scope = sc.scope
  calm : X.calm = true
  clr : Clr X.A
  hu : X.A.units + 64 < cLine
  po : PassesOwn (model X.prog X.w) X.A X.env X.xe
  mg : ∀ b ∈ blts, X.mg b = none
  fn : sc.top = true → ∀ x, X.fn x = true
  calls : ∀ f x n, sc.fs[f]? = some (x, n) → ∃ fa fd ps k, X.mg x = some (.ref fa) ∧ ps.length = n ∧ FnG X.prog X.w X.K X.mg X.base CX0 k fa fd ps (spF X.K n (call f)) ∧ Room k X.A ∧ PySem.W.keepIn X.K (.ref fa) = true ∧ Binds X.K fd ps []
section
variable {K : PySem.W.Frag} {w : World} {call : Nat → Env → CR} {sc : Sc} {X : Cx}
theorem Good.vis (g : Good K w call sc X) {x : Str} (h : visB sc x = true) : Vis X.env.scope x := by
  rw [g.scope]
  unfold visB at h
  unfold Vis
  split at h
  · rename_i e; exact .inl e
  · rename_i e; exact .inr (.inl e)
  · rename_i e; exact .inr (.inr e)
  · cases h
theorem Good.gl (g : Good K w call sc X) {x : Str} (h : glB sc x = true) : Gl X x := by
  unfold glB at h
  unfold Gl Env.kindOf
  rw [g.scope]
  split at h
  · rename_i e; exact e
  · cases h
theorem okN_1 {x : Str} (h : okN x = true) : (x == ("__debug__" : Str)) = false ∧ (x == ("__classdict__" : Str)) = false := by
  simp only [okN, Bool.and_eq_true, Bool.not_eq_true'] at h
  exact h
theorem star_of {e : Expr} {es : List Expr} {env : PySem.Env} (h : plainE e = true) : starEach (e :: es) env = (false, eval e env) :: starEach es env := by
  cases e <;> first | rfl | cases h
theorem asgn_of {e : Expr} {es : List Expr} {env : PySem.Env} (h : plainE e = true) : assignEach (e :: es) env = (false, assign e env) :: assignEach es env := by
  cases e <;> first | rfl | cases h
theorem fold_of {e : Expr} {env : PySem.Env} (h : plainE e = true) : ∀ x, foldedSetIterable e env x = pure x := by
  intro x
  cases e <;> first | rfl | cases h
theorem ix_of {e : Expr} (h : plainE e = true) : PlainIx e := by
  intro o i
  cases e <;> first | rfl | cases h
theorem mark_of {e : Expr} {op : CmpOp} (h : plainE e = true) : behindInMarks op e = false := by
  cases e <;> first | rfl | cases h
theorem sole_of {tg e : Expr} {l : Nat} {env : PySem.Env} (h : notComp e = true) : swapsWithSole [tg] e l env = pure false := by
  cases e <;> first | rfl | cases h
theorem expr_of {e : Expr} {l : Nat} {env : PySem.Env} (h : notComp e = true) : swapsWith e none l env = pure false := by
  cases e <;> first | rfl | cases h
theorem truth_of {e : Expr} {env : PySem.Env} (h : plainT e = true) : ∀ whole, isTrue e env whole = (do let v ← whole; standAt e.pos; holding [v] (truthy v)) := by
  intro whole
  cases e <;> first | rfl | cases h
theorem pw_of_bool {op : BoolOp} {vs : List Expr} {pos : Pos} {t : TT} (h : PT X (.BoolOp op vs pos) t) : PW X (.BoolOp op vs pos) t := ⟨fun whole pins s σ H Q I q => h.run pins s σ H Q I q⟩
theorem any_of : ∀ {es : List Expr} {env : PySem.Env} {pos : Pos}, (∀ e ∈ es, plainE e = true) → (backTo pos (starEach es env)).any (·.1) = false
  | [], env, pos, _ => rfl
  | e :: es, env, pos, h => by
    rw [star_of (h e List.mem_cons_self)]
    show (false || (backTo pos (starEach es env)).any (·.1)) = false
    rw [any_of fun e he => h e (List.mem_cons_of_mem _ he)]
    rfl
theorem chkEs_plain : ∀ {cs : CEs} {es : List Expr}, chkEs cs sc es = true → ∀ e ∈ es, plainE e = true
  | .nil, [], _, e, he => by cases he
  | .nil, _ :: _, h, e, he => by cases h
  | .cons c cs, [], h, e, he => by cases he
  | .cons c cs, x :: xs, h, e, he => by
    simp only [chkEs, Bool.and_eq_true] at h
    rcases List.mem_cons.mp he with z | z
    · rw [z]; exact h.2.1
    · exact chkEs_plain h.2.2 e z
/-- in a comprehension's block -/
theorem Good.blk (g : Good K w call sc X) {s : Scope} (hk : isFun sc.scope.kind = true) (hs : isFun s.kind = true) (s0 : Shared) (H : Hp) (Ca : Addr) (cl : List (Str × Addr)) (fp : List Addr) : Good K w call (sc.blk s) (X.blk s0 H s (compEnvC s cl Ca X.env) fp) where
  k := g.k
  w := g.w
  N := g.N
  nd := g.nd
  scope := by
    show (compEnvC s cl Ca X.env).scope = relS s sc.scope
    rw [← g.scope]
    rfl
  calm := g.calm
  clr := g.clr
  hu := g.hu
  po := PassesOwn.never
  mg := g.mg
  fn := fun h => by cases h
  calls := g.calls
theorem chkName_ok {i : Nat} {e : Expr} (h : chkName sc i e = true) : ∀ X, Good K w call sc X → PE X e (tVar i) := fun X g => by
  cases e with
  | Name x p =>
    simp only [chkName, Bool.and_eq_true, decide_eq_true_eq] at h
    obtain ⟨h1, h2, h3⟩ := h
    exact pe_var (by rw [g.N]; exact h1) (g.vis h2) (okN_1 h3).1 (okN_1 h3).2
  | _ => cases h
theorem chkTgt_ok {i : Nat} {e : Expr} (h : chkTgt sc i e = true) : ∀ X, Good K w call sc X → PG X e (gName i) := fun X g => by
  cases e with
  | Name x p =>
    simp only [chkTgt, Bool.and_eq_true, decide_eq_true_eq] at h
    obtain ⟨h1, h2⟩ := h
    unfold putB at h2
    split at h2
    · rename_i e
      refine pg_name g.nd (by rw [g.N]; exact h1) (.inl ?_) (.inr ?_) <;> (rw [g.scope]; exact e)
    · rename_i e
      exact pg_name g.nd (by rw [g.N]; exact h1) (.inr (by rw [g.scope]; exact e)) (.inl (g.fn h2 x))
    · cases h2
  | _ => cases h
theorem chkTgts_ok : ∀ {is : List Nat} {es : List Expr}, chkTgts sc is es = true → ∃ gs, (∀ X, Good K w call sc X → PGs X es gs) ∧ (∀ (kp : Nat), JGs ⟨K, kp⟩ is gs (IL.bindAll kp is)) ∧ ∀ env, (assignEach es env).length = is.length ∧ (assignEach es env).findIdx? (·.1) = none
  | [], [], _ => ⟨gNil, fun X _ => pgs_nil, fun kp => jgs_nil (C := ⟨K, kp⟩), fun env => ⟨rfl, rfl⟩⟩
  | i :: is, e :: es, h => by
    simp only [chkTgts, Bool.and_eq_true] at h
    obtain ⟨h1, h2, h3⟩ := h
    obtain ⟨gs, q1, q2, q3⟩ := chkTgts_ok (is := is) (es := es) h3
    refine ⟨gCons (gName i) gs, fun X g => pgs_cons (chkTgt_ok h1 X g) (q1 X g) (by rw [asgn_of h2]; rfl), fun kp => jgs_cons (C := ⟨K, kp⟩) (q2 kp), fun env => ?_⟩
    rw [asgn_of h2]
    refine ⟨by rw [List.length_cons, (q3 env).1, List.length_cons], ?_⟩
    rw [List.findIdx?_cons, (q3 env).2]
    rfl
  | [], _ :: _, h => by cases h
  | _ :: _, [], h => by cases h
theorem chkG_ok {t : Tg} {e : Expr} (h : chkG sc t e = true) : ∃ gt, (∀ X, Good K w call sc X → PG X e gt) ∧ ∀ kp : Nat, JG ⟨K, kp⟩ (tgIx t) gt (IL.bindT kp t) := by
  cases t with
  | name i => exact ⟨gName i, chkTgt_ok h, fun kp => jg_name (C := ⟨K, kp⟩)⟩
  | tup is =>
    cases e with
    | Tuple es k p =>
      obtain ⟨gs, q1, q2, q3⟩ := chkTgts_ok (K := K) (w := w) (call := call) (show chkTgts sc is es = true from h)
      exact ⟨gTup K is.length gs, fun X g => by
        have z := pg_tup g.calm (q1 X g) (q3 X.env).1 (q3 X.env).2 (k := k) (pos := p)
        rw [g.k] at z
        exact z, fun kp => jg_tup (C := ⟨K, kp⟩) (q2 kp)⟩
    | _ => cases h
/-- a comprehension: its parts -/
theorem lc_ok {kp : Nat} {g : Tg} {vs : List Nat} {tg iter elt : Expr} {ifs : List Expr} {s : Scope} {wi : TI} {gt : TG} {tt : TT} {te : TE}
    (hp : plainE iter = true) (hb : blkC sc.N sc.scope s (ownOf sc vs) = true) (hk : isFun sc.scope.kind = true) (hs : isFun s.kind = true)
    (hi : ∀ X, Good K w call sc X → PI X tg iter wi) (hg : ∀ X, Good K w call (sc.blk s) X → PG X tg gt) (ht : ∀ X, Good K w call (sc.blk s) X → PTs X ifs tt) (he : ∀ X, Good K w call (sc.blk s) X → PE X elt te) (pos : Pos) :
    ∀ X, Good K w call sc X → PE X (.ListComp elt [⟨tg, iter, ifs, 0⟩] s pos) (tLc wi gt tt te vs) := fun X G => by
  have e : (ownOf sc vs).map (·.2) = vs := by
    unfold ownOf
    rw [List.map_map]
    exact List.map_id _
  have z := pe_lc (X := X) (pos := pos) G.calm G.nd (hi X G) (own := ownOf sc vs) (blkOk_by (by rw [G.N, G.scope]; exact hb)) (fun s0 H Ca cl fp => hg _ (G.blk hk hs s0 H Ca cl fp)) (fun s0 H Ca cl fp => ht _ (G.blk hk hs s0 H Ca cl fp)) (fun s0 H Ca cl fp => he _ (G.blk hk hs s0 H Ca cl fp)) (fold_of hp)
  rw [e] at z
  exact z
theorem setLc_ok {kp i : Nat} {g : Tg} {vs : List Nat} {tg iter elt : Expr} {ifs : List Expr} {s : Scope} {wi : TI} {gt : TG} {tt : TT} {te : TE} {y : Str} {py : Pos} {pos spos : Pos}
    (hp : plainE iter = true) (hb : blkC sc.N sc.scope s (ownOf sc vs) = true) (hk : isFun sc.scope.kind = true) (hs : isFun s.kind = true)
    (hi : ∀ X, Good K w call sc X → PI X tg iter wi) (hg : ∀ X, Good K w call (sc.blk s) X → PG X tg gt) (ht : ∀ X, Good K w call (sc.blk s) X → PTs X ifs tt) (he : ∀ X, Good K w call (sc.blk s) X → PE X elt te)
    (hy : sc.N[i]? = some y) (hl : sc.scope.names.lookup y = some .local) (hsw : ∀ X : Cx, X.env.scope = sc.scope → swapsWith (.ListComp elt [⟨tg, iter, ifs, 0⟩] s pos) (some (.Name y py)) spos.line X.env = pure true) :
    ∀ X, Good K w call sc X → PS X (.Assign [.Name y py] (.ListComp elt [⟨tg, iter, ifs, 0⟩] s pos) spos) (tAsg (tLc wi gt tt te vs) (gName i)) := fun X G => by
  have e : (ownOf sc vs).map (·.2) = vs := by
    unfold ownOf
    rw [List.map_map]
    exact List.map_id _
  have z := ps_setLc (X := X) (i := i) G.calm G.nd (by rw [G.N]; exact hy) (by rw [G.scope]; exact hl) (hsw X G.scope) (hi X G) (own := ownOf sc vs) (blkOk_by (by rw [G.N, G.scope]; exact hb)) (fun s0 H Ca cl fp => hg _ (G.blk hk hs s0 H Ca cl fp)) (fun s0 H Ca cl fp => ht _ (G.blk hk hs s0 H Ca cl fp)) (fun s0 H Ca cl fp => he _ (G.blk hk hs s0 H Ca cl fp)) (fold_of hp)
  rw [e] at z
  exact z
end
end J
end
section
set_option Elab.async false
set_option linter.all false
set_option autoImplicit false
set_option maxRecDepth 100000
set_option maxHeartbeats 4000000
/-! J10: the check is sound: expressions, by the small language's text. -/
namespace J
open PySem L2 PyProof.Rows
open IL (D Ow Slot Val CR RV Fl Bop Cop Tg wipeE ownIx putBack argSlot CE CEs CT CO CI CS CB Fn Mt)
open DG (Clr FnG)
/-- the reading of arguments: values, data -/
def SndE (K : PySem.W.Frag) (w : World) (kp : Nat) (call : Nat → Env → CR) (c : CE) (sc : Sc) (x : Expr) : Prop := ∃ te, (∀ X, Good K w call sc X → PE X x te) ∧ JE (relV K) ⟨K, kp⟩ te (IL.ev ⟨kp, call⟩ c)
def SndT (K : PySem.W.Frag) (w : World) (kp : Nat) (call : Nat → Env → CR) (c : CT) (sc : Sc) (x : Expr) : Prop := ∃ te, (∀ X, Good K w call sc X → PT X x te) ∧ JE (relE Bool) ⟨K, kp⟩ te (IL.evT ⟨kp, call⟩ c)
def SndD (K : PySem.W.Frag) (w : World) (kp : Nat) (call : Nat → Env → CR) (c : CEs) (sc : Sc) (xs : List Expr) : Prop := ∃ ta, (∀ X, Good K w call sc X → PA X xs ta) ∧ JE (relDs K) ⟨K, kp⟩ ta (IL.evD ⟨kp, call⟩ c) ∧ JE (relVs K) ⟨K, kp⟩ ta (IL.evA ⟨kp, call⟩ c)
def SndO (K : PySem.W.Frag) (w : World) (kp : Nat) (call : Nat → Env → CR) (c : CO) (sc : Sc) (x : Option Expr) : Prop := ∃ to, (∀ X, Good K w call sc X → PO X x to) ∧ JE (relE (Option Int)) ⟨K, kp⟩ to (IL.evO ⟨kp, call⟩ c)
def SndI (K : PySem.W.Frag) (w : World) (kp : Nat) (call : Nat → Env → CR) (c : CI) (sc : Sc) (x : Expr) : Prop := ∃ wi, (∀ X tg, Good K w call sc X → PI X tg x wi) ∧ JE (relI K) ⟨K, kp⟩ wi (IL.evI ⟨kp, call⟩ c)
section
variable {K : PySem.W.Frag} {w : World} {kp : Nat} {call : Nat → Env → CR} {sc : Sc}
/-! ### built-in functions -/
def isTy : Fn → Bool
  | .int => true
  | .tuple => true
  | .list => true
  | _ => false
theorem mem_blts {f : Fn} : fnName f ∈ blts := by
  cases f <;> decide +kernel
theorem fn_ok {X : Cx} (g : Good K w call sc X) {f : Fn} (h1 : f ≠ .sortedSet) (h2 : f ≠ .minLen) {x : Expr} {xs : List Expr} {p pos : Pos} {t : TA} (hg : glB sc (fnName f) = true) (hp : ∀ e ∈ x :: xs, plainE e = true) (ha : PA X (x :: xs) t) :
    PE X (.Call (.Name (fnName f) p) (x :: xs) [] pos) (tCB (rFn K f) t) := by
  have gl := g.gl hg
  have mg := g.mg _ (mem_blts (f := f))
  have he := star_of (es := xs) (env := X.env) (hp x List.mem_cons_self)
  have hl := any_of (env := X.env) (pos := pos) fun e h => hp e (List.mem_cons_of_mem _ h)
  have k := g.k
  subst k
  cases f with
  | len => exact pe_callB call_len gl mg (by decide +kernel) ha (by decide) (by decide) he hl
  | int => exact pe_callTy call_int1 gl mg (by decide +kernel) ha (by decide) (by decide) he hl
  | abs => exact pe_callB call_abs gl mg (by decide +kernel) ha (by decide) (by decide) he hl
  | sum => exact pe_callB (cr_sum g.calm) gl mg (by decide +kernel) ha (by decide) (by decide) he hl
  | min2 => exact pe_callB (call_min2 g.calm) gl mg (by decide +kernel) ha (by decide) (by decide) he hl
  | max2 => exact pe_callB (call_max2 g.calm) gl mg (by decide +kernel) ha (by decide) (by decide) he hl
  | any => exact pe_callB (cr_any g.calm) gl mg (by decide +kernel) ha (by decide) (by decide) he hl
  | all => exact pe_callB (cr_all g.calm) gl mg (by decide +kernel) ha (by decide) (by decide) he hl
  | tuple => exact pe_callTy call_tuple_of gl mg (by decide +kernel) ha (by decide) (by decide) he hl
  | list => exact pe_callTy call_list_of gl mg (by decide +kernel) ha (by decide) (by decide) he hl
  | repr => exact pe_callB (DR.call_qRepr g.clr g.hu) gl mg (by decide +kernel) ha (by decide) (by decide) he hl
  | sorted => exact pe_callB JL.cr_sortedAny gl mg (by decide +kernel) ha (by decide) (by decide) he hl
  | sortedSet => exact absurd rfl h1
  | minLen => exact absurd rfl h2
theorem mapM_tps {C : Ctx} {δ : Env} {σ : St} {G H H0 : Hp} (S : Stt C.K δ σ G H) : ∀ {vs : List V} {as : List Val} {ds : List D}, ValsR C.K σ δ H0 G H vs as → as.mapM (IL.cur δ) = some ds → Tps C.K G H vs ds
  | [], [], ds, _, h => by
    cases h
    exact .nil
  | v :: vs, a :: as, ds, r, h => by
    rw [List.mapM_cons] at h
    cases e1 : IL.cur δ a with
    | none => rw [e1] at h; cases h
    | some d =>
      rw [e1] at h
      cases e2 : as.mapM (IL.cur δ) with
      | none => rw [e2] at h; cases h
      | some es =>
        rw [e2] at h
        cases h
        exact .cons (cur_tp S r.1 e1) (mapM_tps S r.2.1 e2)
  | [], _ :: _, _, r, _ => r.elim
  | _ :: _, [], _, r, _ => r.elim
theorem je_bi {C : Ctx} {f : Fn} {ta : TA} {fa : Env → IL.R (List Val)} (h1 : f ≠ .sortedSet) (ha : JE (relVs C.K) C ta fa) : JE (relV C.K) C (tCB (rFn C.K f) ta) (fun δ => (fa δ).bind fun as δ1 => IL.optR δ1 ((as.mapM (IL.cur δ1)).bind (IL.fn f))) := fun δ σ G H S Q q =>
  ha δ σ G H S _ (want_bind back_V q fun as δ1 vs G1 H1 a r q1 => want_opt q1 fun x hx q2 => by
    cases e : as.mapM (IL.cur δ1) with
    | none => rw [e] at hx; cases hx
    | some ds =>
      rw [e] at hx
      exact fn_do f a.st h1 (mapM_tps a.st r e) hx q2)
/-! ### sorted(set(x)) -/
theorem mem_uniqI {z : Int} : ∀ {ns : List Int}, z ∈ IL.uniqI ns ↔ z ∈ ns
  | [] => Iff.rfl
  | n :: ns => by
    unfold IL.uniqI
    split
    · rename_i h
      rw [mem_uniqI, List.mem_cons]
      exact ⟨.inr, fun q => q.elim (fun e => e ▸ h) id⟩
    · rw [List.mem_cons, List.mem_cons, mem_uniqI]
theorem nodup_uniqI : ∀ ns : List Int, (IL.uniqI ns).Nodup
  | [] => List.nodup_nil
  | n :: ns => by
    unfold IL.uniqI
    split
    · exact nodup_uniqI ns
    · rename_i h
      exact List.nodup_cons.mpr ⟨fun q => h (mem_uniqI.mp q), nodup_uniqI ns⟩
theorem sset_of {ds : List D} {x : Val} (h : IL.fn .sortedSet ds = some x) : ∃ es ns, (ds = [.list es] ∨ ds = [.tuple es]) ∧ IL.asInts es = some ns ∧ ns.length < 60 ∧ x = .new (.lst (IL.intsD (IL.sortI (IL.uniqI ns)))) := by
  have fin : ∀ es, (IL.asInts es).bind (fun ns => if ns.length < 60 then some (Val.new (.lst (IL.intsD (IL.sortI (IL.uniqI ns))))) else none) = some x → ∃ ns, IL.asInts es = some ns ∧ ns.length < 60 ∧ x = .new (.lst (IL.intsD (IL.sortI (IL.uniqI ns)))) := fun es q => by
    cases e : IL.asInts es with
    | none => rw [e] at q; cases q
    | some ns =>
      rw [e] at q
      simp only [Option.bind_some] at q
      split at q
      · rename_i hz
        cases q
        exact ⟨ns, rfl, hz, rfl⟩
      · cases q
  match ds, h with
  | [], h => cases h
  | [.list es], h =>
    obtain ⟨ns, a, b, c⟩ := fin es h
    exact ⟨es, ns, .inl rfl, a, b, c⟩
  | [.tuple es], h =>
    obtain ⟨ns, a, b, c⟩ := fin es h
    exact ⟨es, ns, .inr rfl, a, b, c⟩
  | [.none], h => cases h
  | [.bool _], h => cases h
  | [.int _], h => cases h
  | [.str _], h => cases h
  | [.dict _], h => cases h
  | d :: e :: r, h => exact absurd h (by simp [IL.fn])
theorem je_sortedSet {C : Ctx} {ta : TA} {fa : Env → IL.R (List Val)} (ha : JE (relVs C.K) C ta fa) : JE (relV C.K) C (tCB (rSortedSet w) (tCons (tCB (DS.qSetI C.K w) ta) tNil)) (fun δ => (fa δ).bind fun as δ1 => IL.optR δ1 ((as.mapM (IL.cur δ1)).bind (IL.fn .sortedSet))) := fun δ σ G H S Q q => by
  show ta σ H fun us H1 => DS.qSetI C.K w us H1 fun y H2 => tNil σ H2 fun ys H3 => rSortedSet w (y :: ys) H3 Q
  refine ha δ σ G H S _ (want_bind back_V q fun as δ1 vs G1 H1 a r q1 => want_opt q1 fun x hx q2 => ?_)
  cases e : as.mapM (IL.cur δ1) with
  | none => rw [e] at hx; cases hx
  | some ds =>
    rw [e] at hx
    have tp := mapM_tps a.st r e
    obtain ⟨es, ns, hd, ei, hz, ex⟩ := sset_of hx
    subst ex
    have hs : ∃ p, vs = [.ref p] ∧ (SqL C.K H1 p (ns.map V.int) ∨ SqT C.K H1 p (ns.map V.int)) := by
      rcases hd with hd | hd
      · subst hd
        obtain ⟨v, rfl, t1⟩ := tps1 tp
        obtain ⟨p, us, rfl, hp, hu⟩ := t1.list_of a.st.gh
        rw [asInts_of ei] at hu
        rw [DpAll.ints hu] at hp
        exact ⟨p, rfl, .inl hp⟩
      · subst hd
        obtain ⟨v, rfl, t1⟩ := tps1 tp
        obtain ⟨p, us, rfl, hp, hu⟩ := t1.tuple_of a.st.gh
        rw [asInts_of ei] at hu
        rw [DpAll.ints hu] at hp
        exact ⟨p, rfl, .inr hp⟩
    obtain ⟨p, ev, hs⟩ := hs
    refine ⟨p, ns, ev, hs, hz, fun b c hb hc => ?_⟩
    refine ⟨b, _, c, rfl, upd_same, by omega, fun ms p2 k1 k2 k3 hp => ?_⟩
    have hms : ms = IL.sortI (IL.uniqI ns) := by
      refine sort_one ?_ (k1.imp fun h => Int.le_of_lt h) (sortI_pw _)
      refine List.Perm.trans ?_ (sortI_perm _).symm
      refine (List.perm_ext_iff_of_nodup (k1.imp fun h => Int.ne_of_lt h) (nodup_uniqI ns)).mpr fun z => ?_
      rw [k2 z, mem_uniqI]
      simp
    rw [hms]
    have a1 := Aft.fresh (C := C) (o := SetO w b (fun j => decide (j ∈ ns)) c) a.st hb
    exact (Want.step back_V q2 a1).newLst a1.st hp (DpAll.of_ints _)
end
end J
end
section
set_option Elab.async false
set_option linter.all false
set_option autoImplicit false
set_option maxRecDepth 100000
set_option maxHeartbeats 8000000
/-! J11: the check is sound: all expressions at once. -/
namespace J
open PySem L2 PyProof.Rows
open IL (D Ow Slot Val CR RV Fl Bop Cop Tg wipeE ownIx putBack argSlot CE CEs CT CO CI CS CB Fn Mt)
open DG (Clr FnG)
section
variable {K : PySem.W.Frag} {w : World} {kp : Nat} {call : Nat → Env → CR}
theorem boolop_one {X : Cx} {op : BoolOp} {a : Expr} {pos : Pos} {t : TE} (h : PE X a t) : PE X (.BoolOp op [a] pos) t := pe_one h
/-- the defs are called with as many arguments as they have parameters -/
def Ar (call : Nat → Env → CR) (sc : Sc) : Prop := ∀ f x n, sc.fs[f]? = some (x, n) → ∀ δ, call f δ ≠ .no → δ.length = n
theorem lcB_of {sc : Sc} {vs : List Nat} {g : Tg} {tg iter : Expr} {s : Scope} (h : lcB sc vs g tg iter s = true) : plainE iter = true ∧ blkC sc.N sc.scope s (ownOf sc vs) = true ∧ isFun sc.scope.kind = true ∧ isFun s.kind = true ∧ (∀ i ∈ tgIx g, i ∈ vs) ∧ chkG (sc.blk s) g tg = true := by
  simpa only [lcB, Bool.and_eq_true, decide_eq_true_eq] using h
/-- a rule of a built-in's method on a list -/
theorem mt_ok {X : Cx} (m : Mt) : MtR X (match m with | .append => "list.append" | .pop => "list.pop" | .insert => "list.insert") (rMt m) := by
  cases m with
  | append => exact mt_append
  | pop => exact mt_pop
  | insert => exact mt_insert
theorem few_of {es : List Expr} {env : PySem.Env} {pos : Pos} (hp : ∀ e ∈ es, plainE e = true) (hl : es.length < 20) :
    ((backTo pos (starEach es env)).all (fun x => !x.1) && (backToKw pos (keywordEach [] env)).all (fun x => x.1.isSome) && decide (es.length + ([] : List Keyword).length + (if ([] : List Keyword).isEmpty then 0 else 1) < 30)) = true := by
  have h1 : ∀ es : List Expr, (∀ e ∈ es, plainE e = true) → (backTo pos (starEach es env)).all (fun x => !x.1) = true := fun es => by
    induction es with
    | nil => intro _; rfl
    | cons e es ih =>
      intro h
      rw [star_of (h e List.mem_cons_self)]
      show (!false && (backTo pos (starEach es env)).all (fun x => !x.1)) = true
      rw [ih fun e he => h e (List.mem_cons_of_mem _ he)]
      rfl
  rw [h1 es hp]
  simp [backToKw, keywordEach]
  omega
theorem base_of {sc : Sc} {i : Nat} {o : Expr} {a : Str} {env : PySem.Env} {wh : Sem Value} (h : chkName sc i o = true) : attributeBase o a env wh = wh := by
  cases o <;> first | rfl | cases h
theorem ce_ind {m1 : CE → Prop} {m2 : CT → Prop} {m3 : CEs → Prop} {m4 : CO → Prop} {m5 : CI → Prop}
(h_var : ∀ i, m1 (.var i)) (h_int : ∀ i, m1 (.int i)) (h_str : ∀ i, m1 (.str i)) (h_bool : ∀ i, m1 (.bool i)) (h_none : m1 .none) (h_fz : ∀ e, m1 e → m1 (.fz e)) (h_bin : ∀ o a b, m1 a → m1 b → m1 (.bin o a b)) (h_neg : ∀ a, m1 a → m1 (.neg a)) (h_cmp : ∀ o a b, m1 a → m1 b → m1 (.cmp o a b)) (h_isN : ∀ a, m1 a → m1 (.isN a)) (h_notN : ∀ a, m1 a → m1 (.notN a)) (h_not : ∀ a, m1 a → m1 (.not a)) (h_and : ∀ a b, m1 a → m1 b → m1 (.and a b)) (h_or : ∀ a b, m1 a → m1 b → m1 (.or a b)) (h_ite : ∀ c a b, m2 c → m1 a → m1 b → m1 (.ite c a b)) (h_tup : ∀ es, m3 es → m1 (.tup es)) (h_lst : ∀ es, m3 es → m1 (.lst es)) (h_idx : ∀ a b, m1 a → m1 b → m1 (.idx a b)) (h_sli : ∀ a lo hi, m1 a → m4 lo → m4 hi → m1 (.sli a lo hi)) (h_rev : ∀ a, m1 a → m1 (.rev a)) (h_call : ∀ f es, m3 es → m1 (.call f es)) (h_bi : ∀ f es, m3 es → m1 (.bi f es)) (h_mt : ∀ m i es, m3 es → m1 (.mt m i es)) (h_ext : ∀ i e, m1 e → m1 (.ext i e)) (h_lc : ∀ e g it vs, m1 e → m5 it → m1 (.lc e g it vs)) (h_lcIf : ∀ e g it c vs, m1 e → m5 it → m2 c → m1 (.lcIf e g it c vs)) (h_tr : ∀ e, m1 e → m2 (.tr e)) (h_tcmp : ∀ o a b, m1 a → m1 b → m2 (.cmp o a b)) (h_tisN : ∀ a, m1 a → m2 (.isN a)) (h_tnotN : ∀ a, m1 a → m2 (.notN a)) (h_tnot : ∀ a, m2 a → m2 (.not a)) (h_tand : ∀ a b, m2 a → m2 b → m2 (.and a b)) (h_tor : ∀ a b, m2 a → m2 b → m2 (.or a b)) (h_nil : m3 .nil) (h_cons : ∀ e es, m1 e → m3 es → m3 (.cons e es)) (h_no : m4 .no) (h_yes : ∀ e, m1 e → m4 (.yes e)) (h_of : ∀ e, m1 e → m5 (.of e)) (h_rng1 : ∀ e, m1 e → m5 (.rng1 e)) (h_rng2 : ∀ e f, m1 e → m1 f → m5 (.rng2 e f)) :
    (∀ c, m1 c) ∧ (∀ c, m2 c) ∧ (∀ c, m3 c) ∧ (∀ c, m4 c) ∧ (∀ c, m5 c) :=
  ⟨fun c => CE.rec (motive_1 := m1) (motive_2 := m2) (motive_3 := m3) (motive_4 := m4) (motive_5 := m5) h_var h_int h_str h_bool h_none h_fz h_bin h_neg h_cmp h_isN h_notN h_not h_and h_or h_ite h_tup h_lst h_idx h_sli h_rev h_call h_bi h_mt h_ext h_lc h_lcIf h_tr h_tcmp h_tisN h_tnotN h_tnot h_tand h_tor h_nil h_cons h_no h_yes h_of h_rng1 h_rng2 c,
    fun c => CT.rec (motive_1 := m1) (motive_2 := m2) (motive_3 := m3) (motive_4 := m4) (motive_5 := m5) h_var h_int h_str h_bool h_none h_fz h_bin h_neg h_cmp h_isN h_notN h_not h_and h_or h_ite h_tup h_lst h_idx h_sli h_rev h_call h_bi h_mt h_ext h_lc h_lcIf h_tr h_tcmp h_tisN h_tnotN h_tnot h_tand h_tor h_nil h_cons h_no h_yes h_of h_rng1 h_rng2 c,
    fun c => CEs.rec (motive_1 := m1) (motive_2 := m2) (motive_3 := m3) (motive_4 := m4) (motive_5 := m5) h_var h_int h_str h_bool h_none h_fz h_bin h_neg h_cmp h_isN h_notN h_not h_and h_or h_ite h_tup h_lst h_idx h_sli h_rev h_call h_bi h_mt h_ext h_lc h_lcIf h_tr h_tcmp h_tisN h_tnotN h_tnot h_tand h_tor h_nil h_cons h_no h_yes h_of h_rng1 h_rng2 c,
    fun c => CO.rec (motive_1 := m1) (motive_2 := m2) (motive_3 := m3) (motive_4 := m4) (motive_5 := m5) h_var h_int h_str h_bool h_none h_fz h_bin h_neg h_cmp h_isN h_notN h_not h_and h_or h_ite h_tup h_lst h_idx h_sli h_rev h_call h_bi h_mt h_ext h_lc h_lcIf h_tr h_tcmp h_tisN h_tnotN h_tnot h_tand h_tor h_nil h_cons h_no h_yes h_of h_rng1 h_rng2 c,
    fun c => CI.rec (motive_1 := m1) (motive_2 := m2) (motive_3 := m3) (motive_4 := m4) (motive_5 := m5) h_var h_int h_str h_bool h_none h_fz h_bin h_neg h_cmp h_isN h_notN h_not h_and h_or h_ite h_tup h_lst h_idx h_sli h_rev h_call h_bi h_mt h_ext h_lc h_lcIf h_tr h_tcmp h_tisN h_tnotN h_tnot h_tand h_tor h_nil h_cons h_no h_yes h_of h_rng1 h_rng2 c⟩
theorem snd_all : (∀ c sc x, Ar call sc → chkE c sc x = true → SndE K w kp call c sc x) ∧ (∀ c sc x, Ar call sc → chkT c sc x = true → SndT K w kp call c sc x) ∧ (∀ c sc x, Ar call sc → chkEs c sc x = true → SndD K w kp call c sc x) ∧
    (∀ c sc x, Ar call sc → chkO c sc x = true → SndO K w kp call c sc x) ∧ (∀ c sc x, Ar call sc → chkI c sc x = true → SndI K w kp call c sc x) := by
  refine ce_ind ?var ?int ?str ?bool ?none ?fz ?bin ?neg ?cmp ?isN ?notN ?not ?and ?or ?ite ?tup ?lst ?idx ?sli ?rev ?call ?bi ?mt ?ext ?lc ?lcIf ?tr ?tcmp ?tisN ?tnotN ?tnot ?tand ?tor ?nil ?cons ?no ?yes ?of ?rng1 ?rng2
  case var => exact fun i sc x hc h => ⟨tVar i, chkName_ok h, je_var (C := ⟨K, kp⟩) i⟩
  case int =>
    intro i sc x hc h
    simp only [chkE, decide_eq_true_eq] at h
    obtain ⟨k, p, rfl⟩ := asConst_of h
    exact ⟨_, fun X g => pe_int, je_const (C := ⟨K, kp⟩) fun _ _ => .int _⟩
  case str =>
    intro i sc x hc h
    simp only [chkE, decide_eq_true_eq] at h
    obtain ⟨k, p, rfl⟩ := asConst_of h
    exact ⟨_, fun X g => pe_str, je_const (C := ⟨K, kp⟩) fun _ _ => .str _⟩
  case bool =>
    intro i sc x hc h
    simp only [chkE, decide_eq_true_eq] at h
    obtain ⟨k, p, rfl⟩ := asConst_of h
    exact ⟨_, fun X g => pe_bl, je_const (C := ⟨K, kp⟩) fun _ _ => .bl _⟩
  case none =>
    intro sc x hc h
    simp only [chkE, decide_eq_true_eq] at h
    obtain ⟨k, p, rfl⟩ := asConst_of h
    exact ⟨_, fun X g => pe_non, je_const (C := ⟨K, kp⟩) fun _ _ => .non⟩
  case fz =>
    intro e ih sc x hc h
    obtain ⟨te, p1, j1⟩ := ih sc x hc (by simpa only [chkE] using h)
    exact ⟨te, p1, je_fz (C := ⟨K, kp⟩) j1⟩
  case bin =>
    intro o a b iha ihb sc x hc h
    simp only [chkE] at h
    split at h
    · rename_i l op r e
      simp only [Bool.and_eq_true, decide_eq_true_eq] at h
      obtain ⟨h1, h2, h3⟩ := h
      obtain ⟨p, rfl⟩ := asBin_of e
      subst h1
      obtain ⟨ta, pa, ja⟩ := iha sc l hc h2
      obtain ⟨tb, pb, jb⟩ := ihb sc r hc h3
      refine ⟨tOp (rBop K o) ta tb, fun X g => ?_, je_op2 (C := ⟨K, kp⟩) (bop_does o) ja jb⟩
      have z := pe_op (pos := p) (bop_ok (X := X) o) (pa X g) (pb X g)
      rw [g.k] at z
      exact z
    · cases h
  case neg =>
    intro a iha sc x hc h
    simp only [chkE] at h
    split at h
    · rename_i op l e
      simp only [Bool.and_eq_true, decide_eq_true_eq] at h
      obtain ⟨rfl, h2⟩ := h
      obtain ⟨p, rfl⟩ := asUn_of e
      obtain ⟨ta, pa, ja⟩ := iha sc l hc h2
      exact ⟨tUn rNeg ta, fun X g => pe_un un_neg (pa X g), je_op1 (C := ⟨K, kp⟩) neg_does ja⟩
    · cases h
  case cmp =>
    intro o a b iha ihb sc x hc h
    simp only [chkE] at h
    split at h
    · rename_i l op r e
      simp only [Bool.and_eq_true, decide_eq_true_eq] at h
      obtain ⟨h1, h2, h3, h4⟩ := h
      obtain ⟨p, rfl⟩ := asCmp_of e
      subst h1
      obtain ⟨ta, pa, ja⟩ := iha sc l hc h2
      obtain ⟨tb, pb, jb⟩ := ihb sc r hc h3
      refine ⟨tOp (rCop K o) ta tb, fun X g => ?_, je_op2 (C := ⟨K, kp⟩) (cop_does o) ja jb⟩
      have z := pe_cmpR (pos := p) (cop_ok (X := X) g.hu o) (pa X g) (pb X g) (mark_of h4)
      rw [g.k] at z
      exact z
    · cases h
  case isN =>
    intro a iha sc x hc h
    simp only [chkE] at h
    split at h
    · rename_i l op r e
      simp only [Bool.and_eq_true, decide_eq_true_eq] at h
      obtain ⟨rfl, h3, h2⟩ := h
      obtain ⟨p, rfl⟩ := asCmp_of e
      obtain ⟨k, q, rfl⟩ := asConst_of h3
      obtain ⟨ta, pa, ja⟩ := iha sc l hc h2
      exact ⟨tIsN ta, fun X g => pe_cmp (pc_isN (pa X g)), je_isN (C := ⟨K, kp⟩) ja⟩
    · cases h
  case notN =>
    intro a iha sc x hc h
    simp only [chkE] at h
    split at h
    · rename_i l op r e
      simp only [Bool.and_eq_true, decide_eq_true_eq] at h
      obtain ⟨rfl, h3, h2⟩ := h
      obtain ⟨p, rfl⟩ := asCmp_of e
      obtain ⟨k, q, rfl⟩ := asConst_of h3
      obtain ⟨ta, pa, ja⟩ := iha sc l hc h2
      exact ⟨tNotN ta, fun X g => pe_cmp (pc_notN (pa X g)), je_notN (C := ⟨K, kp⟩) ja⟩
    · cases h
  case not =>
    intro a iha sc x hc h
    simp only [chkE] at h
    split at h
    · rename_i op l e
      simp only [Bool.and_eq_true, decide_eq_true_eq] at h
      obtain ⟨rfl, h2⟩ := h
      obtain ⟨p, rfl⟩ := asUn_of e
      obtain ⟨ta, pa, ja⟩ := iha sc l hc h2
      exact ⟨tNotV ta, fun X g => pe_not (pa X g), je_not (C := ⟨K, kp⟩) ja⟩
    · cases h
  case and =>
    intro a b iha ihb sc x hc h
    simp only [chkE] at h
    split at h
    · rename_i op l r e
      simp only [Bool.and_eq_true, decide_eq_true_eq] at h
      obtain ⟨rfl, h2, h3⟩ := h
      obtain ⟨ta, pa, ja⟩ := iha sc l hc h2
      obtain ⟨tb, pb, jb⟩ := ihb sc r hc h3
      obtain ⟨p, rfl | ⟨y, z, s, rfl, rfl⟩⟩ := asBool_of e
      · exact ⟨tAndV ta tb, fun X g => pe_and (pa X g) (pe_one (pb X g)), je_and (C := ⟨K, kp⟩) ja jb⟩
      · exact ⟨tAndV ta tb, fun X g => pe_and (pa X g) (pb X g), je_and (C := ⟨K, kp⟩) ja jb⟩
    · cases h
  case or =>
    intro a b iha ihb sc x hc h
    simp only [chkE] at h
    split at h
    · rename_i op l r e
      simp only [Bool.and_eq_true, decide_eq_true_eq] at h
      obtain ⟨rfl, h2, h3⟩ := h
      obtain ⟨ta, pa, ja⟩ := iha sc l hc h2
      obtain ⟨tb, pb, jb⟩ := ihb sc r hc h3
      obtain ⟨p, rfl | ⟨y, z, s, rfl, rfl⟩⟩ := asBool_of e
      · exact ⟨tOrV ta tb, fun X g => pe_or (pa X g) (pe_one (pb X g)), je_or (C := ⟨K, kp⟩) ja jb⟩
      · exact ⟨tOrV ta tb, fun X g => pe_or (pa X g) (pb X g), je_or (C := ⟨K, kp⟩) ja jb⟩
    · cases h
  case ite =>
    intro c a b ihc iha ihb sc x hc h
    simp only [chkE] at h
    split at h
    · rename_i t l r e
      simp only [Bool.and_eq_true] at h
      obtain ⟨h1, h2, h3⟩ := h
      obtain ⟨p, rfl⟩ := asIf_of e
      obtain ⟨tc, pc, jc⟩ := ihc sc t hc h1
      obtain ⟨ta, pa, ja⟩ := iha sc l hc h2
      obtain ⟨tb, pb, jb⟩ := ihb sc r hc h3
      exact ⟨tIf tc ta tb, fun X g => pe_ifExp (pc X g) (pa X g) (pb X g), je_ite (C := ⟨K, kp⟩) jc ja jb⟩
    · cases h
  case tup =>
    intro es ih sc x hc h
    simp only [chkE] at h
    split at h
    · rename_i xs e
      obtain ⟨k, p, rfl⟩ := asTup_of e
      obtain ⟨ta, pa, ja, _⟩ := ih sc xs hc h
      exact ⟨tTup ta, fun X g => pe_tup (pa X g), je_tup (C := ⟨K, kp⟩) ja⟩
    · cases h
  case lst =>
    intro es ih sc x hc h
    simp only [chkE] at h
    split at h
    · rename_i xs e
      obtain ⟨p, rfl⟩ := asLst_of e
      obtain ⟨ta, pa, ja, _⟩ := ih sc xs hc h
      exact ⟨tLst ta, fun X g => pe_lst (pa X g), je_lst (C := ⟨K, kp⟩) ja⟩
    · cases h
  case idx =>
    intro a b iha ihb sc x hc h
    simp only [chkE] at h
    split at h
    · rename_i l r e
      simp only [Bool.and_eq_true] at h
      obtain ⟨h1, h2, h3⟩ := h
      obtain ⟨p, rfl⟩ := asSub_of e
      obtain ⟨ta, pa, ja⟩ := iha sc l hc h1
      obtain ⟨tb, pb, jb⟩ := ihb sc r hc h2
      refine ⟨tOp (rIx K) ta tb, fun X g => ?_, je_op2 (C := ⟨K, kp⟩) idx_does ja jb⟩
      have z := pe_ix (pos := p) (ix_seq (X := X)) (pa X g) (pb X g) (ix_of h3)
      rw [g.k] at z
      exact z
    · cases h
  case sli =>
    intro a lo hi iha ihl ihh sc x hc h
    simp only [chkE] at h
    split at h
    · rename_i l r e
      split at h
      · rename_i u v e2
        simp only [Bool.and_eq_true] at h
        obtain ⟨h1, h2, h3⟩ := h
        obtain ⟨p, rfl⟩ := asSub_of e
        obtain ⟨q, rfl⟩ := asSli_of e2
        obtain ⟨ta, pa, ja⟩ := iha sc l hc h1
        obtain ⟨tl, pl, jl⟩ := ihl sc u hc h2
        obtain ⟨tu, pu, ju⟩ := ihh sc v hc h3
        refine ⟨tSl (rSli K) ta tl tu, fun X g => ?_, je_sli (C := ⟨K, kp⟩) ja jl ju⟩
        have z := pe_slice (pos := p) (p2 := q) (sli_ok (X := X)) (pa X g) (pl X g) (pu X g)
        rw [g.k] at z
        exact z
      · cases h
    · cases h
  case rev =>
    intro a iha sc x hc h
    simp only [chkE] at h
    split at h
    · rename_i l r e
      simp only [Bool.and_eq_true] at h
      obtain ⟨h1, h2⟩ := h
      obtain ⟨p, rfl⟩ := asSub_of e
      obtain ⟨k, p1, p2, p3, rfl⟩ := isRev_of h1
      obtain ⟨ta, pa, ja⟩ := iha sc l hc h2
      refine ⟨tRevL K ta, fun X g => ?_, je_rev (C := ⟨K, kp⟩) ja⟩
      have z := pe_revL (k := k) (p1 := p1) (p2 := p2) (p3 := p3) (pos := p) (pa X g)
      rw [g.k] at z
      exact z
    · cases h
  case call =>
    intro f es ih sc x hc h
    simp only [chkE] at h
    split at h
    · rename_i n xs e
      simp only [Bool.and_eq_true, decide_eq_true_eq] at h
      obtain ⟨h1, h2, h3, h4⟩ := h
      obtain ⟨q, p, rfl⟩ := asCall_of e
      obtain ⟨ta, pa, _, ja⟩ := ih sc xs hc h4
      have hp := chkEs_plain h4
      cases xs with
      | nil =>
        cases es with
        | nil =>
          refine ⟨tCallS (spF K 0 (call f)) (fun _ => E0) tNil, fun X g => ?_, je_call (C := ⟨K, kp⟩) (hc f n 0 h1) ja_nil⟩
          obtain ⟨fa, fd, ps, k, q1, q2, q3, q4, q5, q6⟩ := g.calls f n 0 h1
          have kk := g.k
          subst kk
          exact DG.pe_callG0 q3 g.clr q4 (g.gl h2) q1 q5 q6 (fun σ => DG.passN σ) (okN_1 h3).1
        | cons _ _ => cases h4
      | cons x xs =>
        refine ⟨tCallS (spF K (x :: xs).length (call f)) (fun _ => E0) ta, fun X g => ?_, je_call (C := ⟨K, kp⟩) (hc f n _ h1) ja⟩
        obtain ⟨fa, fd, ps, k, q1, q2, q3, q4, q5, q6⟩ := g.calls f n _ h1
        have kk := g.k
        subst kk
        exact DG.pe_callG q3 g.clr q4 (g.gl h2) q1 q5 q6 (fun σ => DG.passN σ) (pa X g) (okN_1 h3).1 (star_of (hp x List.mem_cons_self)) (any_of fun e he => hp e (List.mem_cons_of_mem _ he))
    · cases h
  case bi =>
    intro f es ih sc x hc h
    have plain : f ≠ .sortedSet → f ≠ .minLen → fnB sc f (chkEs es sc) x = true → SndE K w kp call (.bi f es) sc x := fun n1 n2 h => by
      unfold fnB at h
      split at h
      · rename_i n xs e
        simp only [Bool.and_eq_true, decide_eq_true_eq] at h
        obtain ⟨h1, h2, h3, h4⟩ := h
        subst h1
        obtain ⟨q, p, rfl⟩ := asCall_of e
        obtain ⟨ta, pa, _, ja⟩ := ih sc xs hc h4
        have hp := chkEs_plain h4
        cases xs with
        | nil => cases h2
        | cons x xs => exact ⟨tCB (rFn K f) ta, fun X g => fn_ok g n1 n2 h3 hp (pa X g), je_bi (C := ⟨K, kp⟩) n1 ja⟩
      · cases h
    cases f with
    | sortedSet =>
      simp only [chkE] at h
      split at h
      · rename_i n y e1
        split at h
        · rename_i m z e2
          simp only [Bool.and_eq_true, decide_eq_true_eq] at h
          obtain ⟨rfl, rfl, h3, h4, h5⟩ := h
          obtain ⟨q1, p1, rfl⟩ := asCall_of e1
          obtain ⟨q2, p2, rfl⟩ := asCall_of e2
          obtain ⟨ta, pa, _, ja⟩ := ih sc [z] hc h5
          have hp := chkEs_plain h5
          refine ⟨_, fun X g => ?_, je_sortedSet (w := w) (C := ⟨K, kp⟩) ja⟩
          have kk := g.k
          have ww := g.w
          subst kk ww
          refine pe_callB (cr_sortedSet g.calm) (g.gl h3) (g.mg _ (by decide +kernel)) (by decide +kernel) (pa_cons ?_ pa_nil)
          exact pe_callTy (DS.call_qSetI g.calm) (g.gl h4) (g.mg _ (by decide +kernel)) (by decide +kernel) (pa X g) (by decide) (by decide) (star_of (hp z List.mem_cons_self)) rfl
        · cases h
      · cases h
    | minLen =>
      simp only [chkE] at h
      split at h
      · rename_i y e1
        simp only [Bool.and_eq_true] at h
        obtain ⟨h1, h2, h3⟩ := h
        obtain ⟨p, pos, q, j, c, k1, k2, rfl⟩ := asMin_of e1
        obtain ⟨ta, pa, _, ja⟩ := ih sc [y] hc h3
        have hp := chkEs_plain h3
        refine ⟨tCB (rFn K .minLen) ta, fun X g => ?_, je_bi (C := ⟨K, kp⟩) (by decide) ja⟩
        have kk := g.k
        subst kk
        have hs := star_of (es := []) (env := X.env) (hp y List.mem_cons_self)
        exact DR.pe_minLen g.calm (g.gl h1) (g.mg _ (by decide +kernel)) (g.gl h2) (g.mg _ (by decide +kernel)) (pa X g) (by rw [hs]; rfl) (by rw [hs]; rfl)
      · cases h
    | len => exact plain (by decide) (by decide) (by simpa only [chkE] using h)
    | int => exact plain (by decide) (by decide) (by simpa only [chkE] using h)
    | abs => exact plain (by decide) (by decide) (by simpa only [chkE] using h)
    | sum => exact plain (by decide) (by decide) (by simpa only [chkE] using h)
    | min2 => exact plain (by decide) (by decide) (by simpa only [chkE] using h)
    | max2 => exact plain (by decide) (by decide) (by simpa only [chkE] using h)
    | any => exact plain (by decide) (by decide) (by simpa only [chkE] using h)
    | all => exact plain (by decide) (by decide) (by simpa only [chkE] using h)
    | tuple => exact plain (by decide) (by decide) (by simpa only [chkE] using h)
    | list => exact plain (by decide) (by decide) (by simpa only [chkE] using h)
    | repr => exact plain (by decide) (by decide) (by simpa only [chkE] using h)
    | sorted => exact plain (by decide) (by decide) (by simpa only [chkE] using h)
  case mt =>
    intro m i es ih sc x hc h
    simp only [chkE] at h
    split at h
    · rename_i o a xs e
      simp only [Bool.and_eq_true, decide_eq_true_eq] at h
      obtain ⟨h1, h2, h3, h4, h5⟩ := h
      subst h2
      obtain ⟨ap, cp, hl, rfl⟩ := asMeth_of e
      obtain ⟨ta, pa, ja, _⟩ := ih sc xs hc h5
      have hp := chkEs_plain h5
      cases xs with
      | nil =>
        have hm := h4.mp rfl
        subst hm
        cases es with
        | cons _ _ => cases h5
        | nil =>
          refine ⟨tBM K "list" (rMt .pop) (tVar i) tNil, fun X g => ?_, je_mt (C := ⟨K, kp⟩) .pop i jd_nil⟩
          have z := pe_bm0 (apos := ap) (cpos := cp) PySem.F.plainAttrs_list PySem.F.slot_list_pop PySem.F.type_list_pop (mt_ok (X := X) .pop) (chkName_ok h1 X g) (base_of h1) hl
          rw [g.k] at z
          exact z
      | cons x xs =>
        have hm : m ≠ .pop := fun q => by cases h4.mpr q
        refine ⟨tBM K "list" (rMt m) (tVar i) ta, fun X g => ?_, je_mt (C := ⟨K, kp⟩) m i ja⟩
        have kk := g.k
        subst kk
        have hs := star_of (es := xs) (env := X.env) (hp x List.mem_cons_self)
        have hl2 := any_of (env := X.env) (pos := cp) fun e h => hp e (List.mem_cons_of_mem _ h)
        cases m with
        | pop => exact absurd rfl hm
        | append => exact pe_bm PySem.F.plainAttrs_list PySem.F.slot_list_append PySem.F.type_list_append (mt_ok (X := X) .append) (chkName_ok h1 X g) (pa X g) (base_of h1) (few_of hp h3) hl hs hl2
        | insert => exact pe_bm PySem.F.plainAttrs_list PySem.F.slot_list_insert PySem.F.type_list_insert (mt_ok (X := X) .insert) (chkName_ok h1 X g) (pa X g) (base_of h1) (few_of hp h3) hl hs hl2
    · cases h
  case ext =>
    intro i e ih sc x hc h
    simp only [chkE] at h
    split at h
    · rename_i o a y e1
      simp only [Bool.and_eq_true, decide_eq_true_eq] at h
      obtain ⟨h1, h2, h3, h4⟩ := h
      subst h2
      obtain ⟨ap, cp, hl, rfl⟩ := asMeth_of e1
      obtain ⟨te, pe, je⟩ := ih sc y hc h3
      refine ⟨tBM K "list" rExtend (tVar i) (tCons te tNil), fun X g => ?_, je_ext (C := ⟨K, kp⟩) i je⟩
      have kk := g.k
      subst kk
      have hp : ∀ e ∈ [y], plainE e = true := fun e he => by
        rw [List.mem_singleton.mp he]
        exact h4
      have hs := star_of (es := []) (env := X.env) h4
      exact pe_bm PySem.F.plainAttrs_list PySem.F.slot_list_extend PySem.F.type_list_extend mt_extend (chkName_ok h1 X g) (pa_cons (pe X g) pa_nil hs) (base_of h1) (few_of hp (show 1 < 20 by decide)) hl hs rfl
    · cases h
  case lc =>
    intro e g it vs ihe ihi sc x hc h
    simp only [chkE] at h
    split at h
    · rename_i elt tg iter s e1
      simp only [Bool.and_eq_true] at h
      obtain ⟨h1, h2, h3⟩ := h
      obtain ⟨p, rfl⟩ := asLc_of e1
      obtain ⟨b1, b2, b3, b4, b5, b6⟩ := lcB_of h1
      obtain ⟨wi, pi, ji⟩ := ihi sc iter hc h2
      obtain ⟨te, pe, je⟩ := ihe (sc.blk s) elt hc h3
      obtain ⟨gt, pg, jg⟩ := chkG_ok (K := K) (w := w) (call := call) b6
      exact ⟨tLc wi gt tYes te vs, lc_ok (kp := kp) (g := g) b1 b2 b3 b4 (fun X G => pi X tg G) pg (fun X G => pts_nil) pe p, je_lc (C := ⟨K, kp⟩) ji (jg kp) b5 (fun δ σ G H S Q q => q.now S rfl) je⟩
    · cases h
  case lcIf =>
    intro e g it c vs ihe ihi ihc sc x hc h
    simp only [chkE] at h
    split at h
    · rename_i elt tg iter t s e1
      simp only [Bool.and_eq_true] at h
      obtain ⟨h1, h2, h3, h4⟩ := h
      obtain ⟨p, rfl⟩ := asLc_of e1
      obtain ⟨b1, b2, b3, b4, b5, b6⟩ := lcB_of h1
      obtain ⟨wi, pi, ji⟩ := ihi sc iter hc h2
      obtain ⟨tt, pt, jt⟩ := ihc (sc.blk s) t hc h3
      obtain ⟨te, pe, je⟩ := ihe (sc.blk s) elt hc h4
      obtain ⟨gt, pg, jg⟩ := chkG_ok (K := K) (w := w) (call := call) b6
      exact ⟨tLc wi gt tt te vs, lc_ok (kp := kp) (g := g) b1 b2 b3 b4 (fun X G => pi X tg G) pg (fun X G => pts_one (pt X G)) pe p, je_lc (C := ⟨K, kp⟩) ji (jg kp) b5 jt je⟩
    · cases h
  case tr =>
    intro e ih sc x hc h
    simp only [chkT, Bool.and_eq_true] at h
    obtain ⟨te, pe, je⟩ := ih sc x hc h.1
    refine ⟨tTr K te, fun X g => ?_, je_truth (C := ⟨K, kp⟩) je⟩
    have z := pt_truth (pe X g) (truth_of h.2)
    rw [g.k] at z
    exact z
  case tcmp =>
    intro o a b iha ihb sc x hc h
    simp only [chkT] at h
    split at h
    · rename_i l op r e
      simp only [Bool.and_eq_true, decide_eq_true_eq] at h
      obtain ⟨h1, h2, h3, h4⟩ := h
      obtain ⟨p, rfl⟩ := asCmp_of e
      subst h1
      obtain ⟨ta, pa, ja⟩ := iha sc l hc h2
      obtain ⟨tb, pb, jb⟩ := ihb sc r hc h3
      refine ⟨tTest (tOp (rCop K o) ta tb), fun X g => ?_, je_cmpT (C := ⟨K, kp⟩) o ja jb⟩
      have z := pt_cmpR (pos := p) (cop_ok (X := X) g.hu o) (pa X g) (pb X g) (mark_of h4)
      rw [g.k] at z
      exact z
    · cases h
  case tisN =>
    intro a iha sc x hc h
    simp only [chkT] at h
    split at h
    · rename_i l op r e
      simp only [Bool.and_eq_true, decide_eq_true_eq] at h
      obtain ⟨rfl, h3, h2⟩ := h
      obtain ⟨p, rfl⟩ := asCmp_of e
      obtain ⟨k, q, rfl⟩ := asConst_of h3
      obtain ⟨ta, pa, ja⟩ := iha sc l hc h2
      exact ⟨tB (tIsN ta), fun X g => pt_cmp (pc_isN (pa X g)), je_isNT (C := ⟨K, kp⟩) ja⟩
    · cases h
  case tnotN =>
    intro a iha sc x hc h
    simp only [chkT] at h
    split at h
    · rename_i l op r e
      simp only [Bool.and_eq_true, decide_eq_true_eq] at h
      obtain ⟨rfl, h3, h2⟩ := h
      obtain ⟨p, rfl⟩ := asCmp_of e
      obtain ⟨k, q, rfl⟩ := asConst_of h3
      obtain ⟨ta, pa, ja⟩ := iha sc l hc h2
      exact ⟨tB (tNotN ta), fun X g => pt_cmp (pc_notN (pa X g)), je_notNT (C := ⟨K, kp⟩) ja⟩
    · cases h
  case tnot =>
    intro a iha sc x hc h
    simp only [chkT] at h
    split at h
    · rename_i op l e
      simp only [Bool.and_eq_true, decide_eq_true_eq] at h
      obtain ⟨rfl, h2⟩ := h
      obtain ⟨p, rfl⟩ := asUn_of e
      obtain ⟨ta, pa, ja⟩ := iha sc l hc h2
      exact ⟨tNot ta, fun X g => pt_not (pa X g), jt_not (C := ⟨K, kp⟩) ja⟩
    · cases h
  case tand =>
    intro a b iha ihb sc x hc h
    simp only [chkT] at h
    split at h
    · rename_i op l r e
      simp only [Bool.and_eq_true, decide_eq_true_eq] at h
      obtain ⟨rfl, h2, h3⟩ := h
      obtain ⟨ta, pa, ja⟩ := iha sc l hc h2
      obtain ⟨tb, pb, jb⟩ := ihb sc r hc h3
      obtain ⟨p, rfl | ⟨y, z, s, rfl, rfl⟩⟩ := asBool_of e
      · exact ⟨tAnd ta tb, fun X g => (pw_and (pa X g) (pw_and1 (pb X g))).pt, jt_and (C := ⟨K, kp⟩) ja jb⟩
      · exact ⟨tAnd ta tb, fun X g => (pw_and (pa X g) (pw_of_bool (pb X g))).pt, jt_and (C := ⟨K, kp⟩) ja jb⟩
    · cases h
  case tor =>
    intro a b iha ihb sc x hc h
    simp only [chkT] at h
    split at h
    · rename_i op l r e
      simp only [Bool.and_eq_true, decide_eq_true_eq] at h
      obtain ⟨rfl, h2, h3⟩ := h
      obtain ⟨ta, pa, ja⟩ := iha sc l hc h2
      obtain ⟨tb, pb, jb⟩ := ihb sc r hc h3
      obtain ⟨p, rfl | ⟨y, z, s, rfl, rfl⟩⟩ := asBool_of e
      · exact ⟨tOr ta tb, fun X g => (pw_or (pa X g) (pw_or1 (pb X g))).pt, jt_or (C := ⟨K, kp⟩) ja jb⟩
      · exact ⟨tOr ta tb, fun X g => (pw_or (pa X g) (pw_of_bool (pb X g))).pt, jt_or (C := ⟨K, kp⟩) ja jb⟩
    · cases h
  case nil =>
    intro sc x hc h
    simp only [chkEs, List.isEmpty_iff] at h
    subst h
    exact ⟨tNil, fun X g => pa_nil, jd_nil, ja_nil⟩
  case cons =>
    intro e es ihe ihs sc x hc h
    simp only [chkEs] at h
    split at h
    · rename_i y ys
      simp only [Bool.and_eq_true] at h
      obtain ⟨h1, h2, h3⟩ := h
      obtain ⟨te, pe, je⟩ := ihe sc y hc h1
      obtain ⟨ta, pa, jd, ja⟩ := ihs sc ys hc h3
      exact ⟨tCons te ta, fun X g => pa_cons (pe X g) (pa X g) (star_of h2), jd_cons (C := ⟨K, kp⟩) je jd, ja_cons (C := ⟨K, kp⟩) je ja⟩
    · cases h
  case no =>
    intro sc x hc h
    simp only [chkO, Option.isNone_iff_eq_none] at h
    subst h
    exact ⟨tNoPart, fun X g => po_none, jo_no⟩
  case yes =>
    intro e ih sc x hc h
    simp only [chkO] at h
    split at h
    · rename_i y
      obtain ⟨te, pe, je⟩ := ih sc y hc h
      exact ⟨tPart te, fun X g => po_some (pe X g), jo_yes (C := ⟨K, kp⟩) je⟩
    · cases h
  case of =>
    intro e ih sc x hc h
    obtain ⟨te, pe, je⟩ := ih sc x hc (by simpa only [chkI] using h)
    refine ⟨iOr (iList K te) (iTup K te), fun X tg g => ?_, ji_of (C := ⟨K, kp⟩) je⟩
    have z := pi_or (pi_list (tg := tg) (pe X g)) (pi_tup (pe X g))
    rw [g.k] at z
    exact z
  case rng1 =>
    intro e ih sc x hc h
    simp only [chkI] at h
    split at h
    · rename_i n y e1
      simp only [Bool.and_eq_true, decide_eq_true_eq] at h
      obtain ⟨rfl, h2, h3, h4⟩ := h
      obtain ⟨q, p, rfl⟩ := asCall_of e1
      obtain ⟨te, pe, je⟩ := ih sc y hc h3
      exact ⟨iRng1 (tCons te tNil), fun X tg g => pi_range1 (g.gl h2) (g.mg _ (by decide +kernel)) (pa_cons (pe X g) pa_nil (star_of h4)) (star_of h4), ji_rng1 (C := ⟨K, kp⟩) je⟩
    · cases h
  case rng2 =>
    intro e f ihe ihf sc x hc h
    simp only [chkI] at h
    split at h
    · rename_i n y z e1
      simp only [Bool.and_eq_true, decide_eq_true_eq] at h
      obtain ⟨rfl, h2, h3, h4, h5, h6⟩ := h
      obtain ⟨q, p, rfl⟩ := asCall_of e1
      obtain ⟨te, pe, je⟩ := ihe sc y hc h3
      obtain ⟨tf, pf, jf⟩ := ihf sc z hc h5
      exact ⟨iRng2 (tCons te (tCons tf tNil)), fun X tg g => pi_range2 (g.gl h2) (g.mg _ (by decide +kernel)) (pa_cons (pe X g) (pa_cons (pf X g) pa_nil (star_of h6)) (star_of h4)) (by rw [star_of h4, star_of h6]; rfl) (star_of h6), ji_rng2 (C := ⟨K, kp⟩) je jf⟩
    · cases h
theorem snd_e (c : CE) (sc : Sc) (x : Expr) (hc : Ar call sc) (h : chkE c sc x = true) : SndE K w kp call c sc x := snd_all.1 c sc x hc h
theorem snd_t (c : CT) (sc : Sc) (x : Expr) (hc : Ar call sc) (h : chkT c sc x = true) : SndT K w kp call c sc x := snd_all.2.1 c sc x hc h
theorem snd_i (c : CI) (sc : Sc) (x : Expr) (hc : Ar call sc) (h : chkI c sc x = true) : SndI K w kp call c sc x := snd_all.2.2.2.2 c sc x hc h
end
end J
end
section
set_option Elab.async false
set_option linter.all false
set_option autoImplicit false
set_option maxRecDepth 100000
set_option maxHeartbeats 4000000
/-! J12: statements: the check and what it is worth. -/
namespace J
open PySem L2 PyProof.Rows
open IL (D Ow Slot Val CR RV Fl Bop Cop Tg wipeE ownIx putBack argSlot CE CEs CT CO CI CS CB Fn Mt)
open DG (Clr FnG)
def isLc : CE → Bool
  | .lc .. => true
  | .lcIf .. => true
  | _ => false
def swB (sc : Sc) : Expr → Expr → Bool
  | .Name y py, .ListComp _ _ s p => decide (sc.scope.names.lookup y = some .local) && ((py.line == p.line) && !(s.names.any fun (n, k) => n == y && (k == .local || k == .cell)))
  | _, _ => false
def cellB (sc : Sc) : Expr → Bool
  | .Name y _ => decide (sc.scope.names.lookup y = some .cell)
  | _ => false
def setB (sc : Sc) (i : Nat) (e : CE) (t v : Expr) : Bool := chkTgt sc i t && (chkE e sc v && (notComp v || ((isLc e && swB sc t v) || (cellB sc t && plainE v))))
def asPass : Stmt → Bool
  | .Pass _ => true
  | .Expr (.Constant (.str _) _ _) _ => true
  | _ => false
def asAsg : Stmt → Option (Expr × Expr)
  | .Assign [t] v _ => some (t, v)
  | _ => none
def asExp : Stmt → Option Expr
  | .Expr v _ => some v
  | _ => none
def asRet : Stmt → Option (Option Expr)
  | .Return v _ => some v
  | _ => none
def asIfS : Stmt → Option (Expr × List Stmt × List Stmt)
  | .If t a b _ => some (t, a, b)
  | _ => none
def asWhS : Stmt → Option (Expr × List Stmt)
  | .While t a [] _ => some (t, a)
  | _ => none
def asForS : Stmt → Option (Expr × Expr × List Stmt)
  | .For t i a [] _ => some (t, i, a)
  | _ => none
def asBrk : Stmt → Bool
  | .Break _ => true
  | _ => false
def asCnt : Stmt → Bool
  | .Continue _ => true
  | _ => false
mutual
def chkS : CS → Sc → Stmt → Bool
  | .pass => fun sc s => asPass s
  | .set (.name i) e => fun sc s => match asAsg s with
    | some (t, v) => setB sc i e t v
    | none => false
  | .set (.tup is) e => fun sc s => match asAsg s with
    | some (t, v) => chkG sc (.tup is) t && (chkE e sc v && notTup v)
    | none => false
  | .setI i e1 e2 => fun sc s => match asAsg s with
    | some (t, v) => (match asSub t with
      | some (o, k) => chkName sc i o && (chkE e1 sc k && (plainE k && (chkE e2 sc v && notComp v)))
      | none => false)
    | none => false
  | .exp e => fun sc s => match asExp s with
    | some v => chkE e sc v && notComp v
    | none => false
  | .ret e => fun sc s => match asRet s with
    | some (some v) => chkE e sc v
    | _ => false
  | .retN => fun sc s => match asRet s with
    | some none => true
    | _ => false
  | .cond c a b => fun sc s => match asIfS s with
    | some (t, x, y) => chkT c sc t && (chkB a sc x && chkB b sc y)
    | none => false
  | .wh c a => fun sc s => match asWhS s with
    | some (t, x) => chkT c sc t && chkB a sc x
    | none => false
  | .loop g it a => fun sc s => match asForS s with
    | some (t, i, x) => chkG sc g t && (chkI it sc i && (plainE i && chkB a sc x))
    | none => false
  | .brk => fun sc s => asBrk s
  | .cont => fun sc s => asCnt s
def chkB : CB → Sc → List Stmt → Bool
  | .nil => fun sc ss => ss.isEmpty
  | .cons s b => fun sc ss => match ss with
    | x :: xs => chkS s sc x && chkB b sc xs
    | [] => false
end
theorem asAsg_of {s : Stmt} {t v : Expr} (h : asAsg s = some (t, v)) : ∃ p, s = .Assign [t] v p := by
  unfold asAsg at h
  split at h
  · cases h; exact ⟨_, rfl⟩
  · cases h
theorem asExp_of {s : Stmt} {v : Expr} (h : asExp s = some v) : ∃ p, s = .Expr v p := by
  unfold asExp at h
  split at h
  · cases h; exact ⟨_, rfl⟩
  · cases h
theorem asRet_of {s : Stmt} {v : Option Expr} (h : asRet s = some v) : ∃ p, s = .Return v p := by
  unfold asRet at h
  split at h
  · cases h; exact ⟨_, rfl⟩
  · cases h
theorem asIfS_of {s : Stmt} {t : Expr} {a b : List Stmt} (h : asIfS s = some (t, a, b)) : ∃ p, s = .If t a b p := by
  unfold asIfS at h
  split at h
  · cases h; exact ⟨_, rfl⟩
  · cases h
theorem asWhS_of {s : Stmt} {t : Expr} {a : List Stmt} (h : asWhS s = some (t, a)) : ∃ p, s = .While t a [] p := by
  unfold asWhS at h
  split at h
  · cases h; exact ⟨_, rfl⟩
  · cases h
theorem asForS_of {s : Stmt} {t i : Expr} {a : List Stmt} (h : asForS s = some (t, i, a)) : ∃ p, s = .For t i a [] p := by
  unfold asForS at h
  split at h
  · cases h; exact ⟨_, rfl⟩
  · cases h
theorem asBrk_of {s : Stmt} (h : asBrk s = true) : ∃ p, s = .Break p := by
  unfold asBrk at h
  split at h
  · exact ⟨_, rfl⟩
  · cases h
theorem asCnt_of {s : Stmt} (h : asCnt s = true) : ∃ p, s = .Continue p := by
  unfold asCnt at h
  split at h
  · exact ⟨_, rfl⟩
  · cases h
def SndS (K : PySem.W.Frag) (w : World) (kp : Nat) (call : Nat → Env → CR) (c : CS) (sc : Sc) (s : Stmt) : Prop := ∃ ts, (∀ X, Good K w call sc X → PS X s ts) ∧ JS ⟨K, kp⟩ ts (IL.ex ⟨kp, call⟩ c)
def SndB (K : PySem.W.Frag) (w : World) (kp : Nat) (call : Nat → Env → CR) (c : CB) (sc : Sc) (ss : List Stmt) : Prop := ∃ ts, (∀ X, Good K w call sc X → PSs X ss ts) ∧ JS ⟨K, kp⟩ ts (IL.exs ⟨kp, call⟩ c)
section
variable {K : PySem.W.Frag} {w : World} {kp : Nat} {call : Nat → Env → CR}
theorem sole_cell {sc : Sc} {t v : Expr} {l : Nat} {X : Cx} (hX : X.env.scope = sc.scope) (h : cellB sc t = true) (hp : plainE v = true) : swapsWithSole [t] v l X.env = pure false := by
  by_cases hn : notComp v = true
  · exact sole_of hn
  · cases v <;> first | (cases hp; done) | (exact absurd rfl hn) | skip
    rename_i elt gs s p
    cases t <;> first | (cases h; done) | skip
    rename_i y py
    simp only [cellB, decide_eq_true_eq] at h
    have ky : X.env.kindOf y = some .cell := by unfold Env.kindOf; rw [hX]; exact h
    unfold swapsWithSole swapsWith
    have kc : (some NameKind.cell == some NameKind.local) = false := by decide
    simp only [ky, kc, Bool.and_false, Bool.false_and]
theorem store_of {i : Nat} {sc : Sc} {t v : Expr} {env : PySem.Env} (h : chkTgt sc i t = true) : swappedStores [t] v env = pure none ∧ (assignEach [t] env).map (·.2) = [assign t env] := by
  cases t <;> first | exact ⟨rfl, rfl⟩ | cases h
theorem storeT_of {t v : Expr} {env : PySem.Env} (hv : notTup v = true) (ht : ∃ is sc, chkG sc (.tup is) t = true) : swappedStores [t] v env = pure none ∧ (assignEach [t] env).map (·.2) = [assign t env] := by
  obtain ⟨is, sc, h⟩ := ht
  cases t <;> first | (cases h; done) | skip
  cases v <;> first | exact ⟨rfl, rfl⟩ | cases hv
theorem notTup_comp {v : Expr} (h : notTup v = true) : notComp v = true := by
  cases v <;> first | rfl | exact h | cases h
theorem snd_set {i : Nat} {e : CE} {sc : Sc} {t v : Expr} {p : Pos} (hc : Ar call sc) (h : setB sc i e t v = true) : SndS K w kp call (.set (.name i) e) sc (.Assign [t] v p) := by
  simp only [setB, Bool.and_eq_true, Bool.or_eq_true] at h
  obtain ⟨h1, h2, h3⟩ := h
  have plain : (∀ X, Good K w call sc X → swapsWithSole [t] v p.line X.env = pure false) → SndS K w kp call (.set (.name i) e) sc (.Assign [t] v p) := fun hs => by
    obtain ⟨te, pe, je⟩ := snd_e (K := K) (w := w) (kp := kp) e sc v hc h2
    exact ⟨tAsg te (gName i), fun X g => ps_asg (pe X g) (chkTgt_ok h1 X g) (hs X g) (store_of (v := v) h1).1 (store_of (v := v) h1).2, js_set (C := ⟨K, kp⟩) je⟩
  rcases h3 with h3 | ⟨h3, h4⟩ | ⟨h3, h4⟩
  · exact plain fun X g => sole_of h3
  · cases t <;> first | (cases h1; done) | skip
    rename_i y py
    have hN : sc.N[i]? = some y := by
      simp only [chkTgt, Bool.and_eq_true, decide_eq_true_eq] at h1
      exact h1.1
    cases e <;> first | (cases h3; done) | skip
    · rename_i e g it vs
      simp only [chkE] at h2
      split at h2
      · rename_i elt tg iter s e1
        simp only [Bool.and_eq_true] at h2
        obtain ⟨q1, q2, q3⟩ := h2
        obtain ⟨p1, rfl⟩ := asLc_of e1
        simp only [swB, Bool.and_eq_true, decide_eq_true_eq, Bool.not_eq_true'] at h4
        obtain ⟨k1, k2, k3⟩ := h4
        obtain ⟨b1, b2, b3, b4, b5, b6⟩ := lcB_of q1
        obtain ⟨wi, pi, ji⟩ := snd_i (K := K) (w := w) (kp := kp) it sc iter hc q2
        obtain ⟨te, pe, je⟩ := snd_e (K := K) (w := w) (kp := kp) e (sc.blk s) elt hc q3
        obtain ⟨gt, pg, jg⟩ := chkG_ok (K := K) (w := w) (call := call) b6
        have hk : sc.scope.kind = .function := by
          unfold isFun at b3
          split at b3
          · assumption
          · cases b3
        exact ⟨tAsg (tLc wi gt tYes te vs) (gName i), setLc_ok (kp := kp) (g := g) b1 b2 b3 b4 (fun X G => pi X tg G) pg (fun X G => pts_nil) pe hN k1 (fun X hX => sw_true (by rw [hX]; exact hk) (by rw [hX]; exact k1) k2 k3),
          js_set (C := ⟨K, kp⟩) (je_lc (C := ⟨K, kp⟩) ji (jg kp) b5 (fun δ σ G H S Q q => q.now S rfl) je)⟩
      · cases h2
    · rename_i e g it c vs
      simp only [chkE] at h2
      split at h2
      · rename_i elt tg iter t s e1
        simp only [Bool.and_eq_true] at h2
        obtain ⟨q1, q2, q3, q4⟩ := h2
        obtain ⟨p1, rfl⟩ := asLc_of e1
        simp only [swB, Bool.and_eq_true, decide_eq_true_eq, Bool.not_eq_true'] at h4
        obtain ⟨k1, k2, k3⟩ := h4
        obtain ⟨b1, b2, b3, b4, b5, b6⟩ := lcB_of q1
        obtain ⟨wi, pi, ji⟩ := snd_i (K := K) (w := w) (kp := kp) it sc iter hc q2
        obtain ⟨tt, pt, jt⟩ := snd_t (K := K) (w := w) (kp := kp) c (sc.blk s) t hc q3
        obtain ⟨te, pe, je⟩ := snd_e (K := K) (w := w) (kp := kp) e (sc.blk s) elt hc q4
        obtain ⟨gt, pg, jg⟩ := chkG_ok (K := K) (w := w) (call := call) b6
        have hk : sc.scope.kind = .function := by
          unfold isFun at b3
          split at b3
          · assumption
          · cases b3
        exact ⟨tAsg (tLc wi gt tt te vs) (gName i), setLc_ok (kp := kp) (g := g) b1 b2 b3 b4 (fun X G => pi X tg G) pg (fun X G => pts_one (pt X G)) pe hN k1 (fun X hX => sw_true (by rw [hX]; exact hk) (by rw [hX]; exact k1) k2 k3),
          js_set (C := ⟨K, kp⟩) (je_lc (C := ⟨K, kp⟩) ji (jg kp) b5 jt je)⟩
      · cases h2
  · exact plain fun X g => sole_cell g.scope h3 h4
theorem cs_ind {m1 : CS → Prop} {m2 : CB → Prop} (h_pass : m1 .pass) (h_set : ∀ g e, m1 (.set g e)) (h_setI : ∀ i a b, m1 (.setI i a b)) (h_exp : ∀ e, m1 (.exp e)) (h_ret : ∀ e, m1 (.ret e)) (h_retN : m1 .retN) (h_cond : ∀ c a b, m2 a → m2 b → m1 (.cond c a b)) (h_wh : ∀ c a, m2 a → m1 (.wh c a)) (h_loop : ∀ g it a, m2 a → m1 (.loop g it a)) (h_brk : m1 .brk) (h_cont : m1 .cont)
    (h_nil : m2 .nil) (h_cons : ∀ s b, m1 s → m2 b → m2 (.cons s b)) : (∀ c, m1 c) ∧ (∀ c, m2 c) :=
  ⟨fun c => CS.rec (motive_1 := m1) (motive_2 := m2) h_pass h_set h_setI h_exp h_ret h_retN h_cond h_wh h_loop h_brk h_cont h_nil h_cons c, fun c => CB.rec (motive_1 := m1) (motive_2 := m2) h_pass h_set h_setI h_exp h_ret h_retN h_cond h_wh h_loop h_brk h_cont h_nil h_cons c⟩
theorem snd_stmts : (∀ c sc x, Ar call sc → chkS c sc x = true → SndS K w kp call c sc x) ∧ (∀ c sc x, Ar call sc → chkB c sc x = true → SndB K w kp call c sc x) := by
  refine cs_ind ?pass ?set ?setI ?exp ?ret ?retN ?cond ?wh ?loop ?brk ?cont ?nil ?cons
  case pass =>
    intro sc s hc h
    simp only [chkS] at h
    unfold asPass at h
    split at h
    · exact ⟨tNext, fun X g => ps_pass, js_next⟩
    · exact ⟨tNext, fun X g => ps_doc, js_next⟩
    · cases h
  case set =>
    intro g e sc s hc h
    cases g with
    | name i =>
      simp only [chkS] at h
      split at h
      · rename_i t v e1
        obtain ⟨p, rfl⟩ := asAsg_of e1
        exact snd_set hc h
      · cases h
    | tup is =>
      simp only [chkS] at h
      split at h
      · rename_i t v e1
        simp only [Bool.and_eq_true] at h
        obtain ⟨h1, h2, h3⟩ := h
        obtain ⟨p, rfl⟩ := asAsg_of e1
        obtain ⟨te, pe, je⟩ := snd_e (K := K) (w := w) (kp := kp) e sc v hc h2
        obtain ⟨gt, pg, jg⟩ := chkG_ok (K := K) (w := w) (call := call) h1
        have hs := fun env => storeT_of (env := env) h3 ⟨is, sc, h1⟩
        exact ⟨tAsg te gt, fun X g => ps_asg (pe X g) (pg X g) (sole_of (notTup_comp h3)) (hs _).1 (hs _).2, js_setT (C := ⟨K, kp⟩) (jg kp) je⟩
      · cases h
  case setI =>
    intro i e1 e2 sc s hc h
    simp only [chkS] at h
    split at h
    · rename_i t v q1
      split at h
      · rename_i o k q2
        simp only [Bool.and_eq_true] at h
        obtain ⟨h1, h2, h3, h4, h5⟩ := h
        obtain ⟨p, rfl⟩ := asAsg_of q1
        obtain ⟨p2, rfl⟩ := asSub_of q2
        obtain ⟨t1, p1, j1⟩ := snd_e (K := K) (w := w) (kp := kp) e1 sc k hc h2
        obtain ⟨t2, pe2, j2⟩ := snd_e (K := K) (w := w) (kp := kp) e2 sc v hc h4
        refine ⟨tAsg t2 (gSub (tVar i) t1 rSetL), fun X g => ps_asg (pe2 X g) (pg_sub (chkName_ok h1 X g) (p1 X g) set_list (fun v => ?_)) (sole_of h5) rfl rfl, js_setI (C := ⟨K, kp⟩) j1 j2⟩
        cases k <;> first | rfl | cases h3
      · cases h
    · cases h
  case exp =>
    intro e sc s hc h
    simp only [chkS] at h
    split at h
    · rename_i v q1
      simp only [Bool.and_eq_true] at h
      obtain ⟨p, rfl⟩ := asExp_of q1
      obtain ⟨te, pe, je⟩ := snd_e (K := K) (w := w) (kp := kp) e sc v hc h.1
      exact ⟨tDrop te, fun X g => ps_expr (pe X g) (expr_of h.2), js_exp (C := ⟨K, kp⟩) je⟩
    · cases h
  case ret =>
    intro e sc s hc h
    simp only [chkS] at h
    split at h
    · rename_i v q1
      obtain ⟨p, rfl⟩ := asRet_of q1
      obtain ⟨te, pe, je⟩ := snd_e (K := K) (w := w) (kp := kp) e sc v hc h
      exact ⟨tRet te, fun X g => ps_ret (pe X g), js_ret (C := ⟨K, kp⟩) je⟩
    · cases h
  case retN =>
    intro sc s hc h
    simp only [chkS] at h
    split at h
    · rename_i q1
      obtain ⟨p, rfl⟩ := asRet_of q1
      exact ⟨tRetN, fun X g => ps_retN, js_retN⟩
    · cases h
  case cond =>
    intro c a b iha ihb sc s hc h
    simp only [chkS] at h
    split at h
    · rename_i t x y q1
      simp only [Bool.and_eq_true] at h
      obtain ⟨h1, h2, h3⟩ := h
      obtain ⟨p, rfl⟩ := asIfS_of q1
      obtain ⟨tt, pt, jt⟩ := snd_t (K := K) (w := w) (kp := kp) c sc t hc h1
      obtain ⟨ta, pa, ja⟩ := iha sc x hc h2
      obtain ⟨tb, pb, jb⟩ := ihb sc y hc h3
      exact ⟨tIfS tt ta tb, fun X g => ps_if (pt X g) (pa X g) (pb X g), js_if (C := ⟨K, kp⟩) jt ja jb⟩
    · cases h
  case wh =>
    intro c a iha sc s hc h
    simp only [chkS] at h
    split at h
    · rename_i t x q1
      simp only [Bool.and_eq_true] at h
      obtain ⟨p, rfl⟩ := asWhS_of q1
      obtain ⟨tt, pt, jt⟩ := snd_t (K := K) (w := w) (kp := kp) c sc t hc h.1
      obtain ⟨ta, pa, ja⟩ := iha sc x hc h.2
      exact ⟨tWhile tt ta, fun X g => ps_while g.po (pt X g) (pa X g), js_while (C := ⟨K, kp⟩) IL.fuel jt ja⟩
    · cases h
  case loop =>
    intro g it a iha sc s hc h
    simp only [chkS] at h
    split at h
    · rename_i t i x q1
      simp only [Bool.and_eq_true] at h
      obtain ⟨h1, h2, h3, h4⟩ := h
      obtain ⟨p, rfl⟩ := asForS_of q1
      obtain ⟨wi, pi, ji⟩ := snd_i (K := K) (w := w) (kp := kp) it sc i hc h2
      obtain ⟨gt, pg, jg⟩ := chkG_ok (K := K) (w := w) (call := call) h1
      obtain ⟨ta, pa, ja⟩ := iha sc x hc h4
      exact ⟨tFor wi gt ta, fun X g => ps_for g.po g.calm (pi X t g) (pg X g) (pa X g) (fold_of h3), js_for (C := ⟨K, kp⟩) ji (jg kp) ja⟩
    · cases h
  case brk =>
    intro sc s hc h
    obtain ⟨p, rfl⟩ := asBrk_of (show asBrk s = true from h)
    exact ⟨tBreak, fun X g => ps_break, js_break⟩
  case cont =>
    intro sc s hc h
    obtain ⟨p, rfl⟩ := asCnt_of (show asCnt s = true from h)
    exact ⟨tCont, fun X g => ps_continue, js_cont⟩
  case nil =>
    intro sc s hc h
    simp only [chkB, List.isEmpty_iff] at h
    subst h
    exact ⟨tNext, fun X g => pss_nil, js_next⟩
  case cons =>
    intro s b ihs ihb sc ss hc h
    simp only [chkB] at h
    split at h
    · rename_i x xs
      simp only [Bool.and_eq_true] at h
      obtain ⟨t1, p1, j1⟩ := ihs sc x hc h.1
      obtain ⟨t2, p2, j2⟩ := ihb sc xs hc h.2
      exact ⟨tSeq t1 t2, fun X g => pss_cons (p1 X g) (p2 X g), js_seq (C := ⟨K, kp⟩) j1 j2⟩
    · cases h
theorem snd_b (c : CB) (sc : Sc) (x : List Stmt) (hc : Ar call sc) (h : chkB c sc x = true) : SndB K w kp call c sc x := snd_stmts.2 c sc x hc h
end
end J
end
section
set_option Elab.async false
set_option linter.all false
set_option autoImplicit false
set_option maxRecDepth 100000
set_option maxHeartbeats 4000000
/-! J13: defs, level by level; the end of a law. -/
namespace J
open PySem L2 PyProof.Rows
open IL (D Ow Slot Val CR RV Fl Bop Cop Tg wipeE ownIx putBack argSlot CE CEs CT CO CI CS CB Fn Mt backE)
open DG (Clr FnG)
theorem backE_get : ∀ {δ δ' : Env} {i : Nat} {s : Slot}, (backE δ δ')[i]? = some s → (∃ o, δ[i]? = some (.ow o) ∧ (δ'[i]? = some s ∨ s = .ow o)) ∨ ((∀ o, s ≠ .ow o) ∧ δ[i]? = some s)
  | [], δ', i, s, h => by
    simp [IL.backE] at h
  | .ow o :: δ, [], 0, s, h => by
    simp [IL.backE] at h
    subst h
    exact .inl ⟨o, rfl, .inr rfl⟩
  | .ow o :: δ, s' :: δ', 0, s, h => by
    simp [IL.backE] at h
    subst h
    exact .inl ⟨o, rfl, .inl rfl⟩
  | .un :: δ, [], 0, s, h => by
    simp [IL.backE] at h
    subst h
    exact .inr ⟨(by intro o z; cases z), rfl⟩
  | .un :: δ, s' :: δ', 0, s, h => by
    simp [IL.backE] at h
    subst h
    exact .inr ⟨(by intro o z; cases z), rfl⟩
  | .im d :: δ, [], 0, s, h => by
    simp [IL.backE] at h
    subst h
    exact .inr ⟨(by intro o z; cases z), rfl⟩
  | .im d :: δ, s' :: δ', 0, s, h => by
    simp [IL.backE] at h
    subst h
    exact .inr ⟨(by intro o z; cases z), rfl⟩
  | x :: δ, [], i + 1, s, h => by
    have h' : δ[i]? = some s := by
      cases x <;> simpa [IL.backE] using h
    cases s with
    | ow o => exact .inl ⟨o, by simpa using h', .inr rfl⟩
    | un => exact .inr ⟨(by intro o z; cases z), by simpa using h'⟩
    | im d => exact .inr ⟨(by intro o z; cases z), by simpa using h'⟩
  | x :: δ, s' :: δ', i + 1, s, h => by
    have h' : (backE δ δ')[i]? = some s := by
      cases x <;> simpa [IL.backE] using h
    rcases backE_get h' with ⟨o, a, b⟩ | ⟨a, b⟩
    · exact .inl ⟨o, by simpa using a, by simpa using b⟩
    · exact .inr ⟨a, by simpa using b⟩
theorem backE_len : ∀ {δ δ' : Env}, (backE δ δ').length = δ.length
  | [], _ => by simp [IL.backE]
  | .ow o :: δ, [] => by simp [IL.backE]
  | .un :: δ, [] => by simp [IL.backE]
  | .im o :: δ, [] => by simp [IL.backE]
  | .ow o :: δ, s :: δ' => by simp [IL.backE, backE_len]
  | .un :: δ, s :: δ' => by simp [IL.backE, backE_len]
  | .im o :: δ, s :: δ' => by simp [IL.backE, backE_len]
theorem backE_own : ∀ {δ δ' : Env} {i : Nat} {o : Ow} {s : Slot}, δ[i]? = some (.ow o) → δ'[i]? = some s → (backE δ δ')[i]? = some s
  | [], δ', i, o, s, h, _ => by simp at h
  | x :: δ, [], i, o, s, h, h2 => by simp at h2
  | x :: δ, s' :: δ', 0, o, s, h, h2 => by
    simp at h h2
    subst h h2
    simp [IL.backE]
  | x :: δ, s' :: δ', i + 1, o, s, h, h2 => by
    have e : (backE δ δ')[i]? = some s := backE_own (by simpa using h) (by simpa using h2)
    cases x <;> simpa [IL.backE] using e
/-- at the end of a def: seen by the caller -/
theorem aft_end {C : Ctx} {δ : Env} {vs : List V} {m : Nat} {G H : Hp} {δ' : Env} {σ' : St} {G' H' : Hp} (hk : C.kp = vs.length) (S : Stt C.K δ (vs.map some) G H)
    (a : Aft C (δ ++ List.replicate m .un) (vs.map some ++ List.replicate m none) G H δ' σ' G' H') : AftF C.K vs δ G H (backE δ δ') G' H' ∧ ∀ j l, OwnAt (backE δ δ') (vs.map some) j l → j < C.kp ∧ OwnAt δ' σ' j l := by
  have hl : δ.length = vs.length := by rw [S.len, List.length_map]
  have up : ∀ j l, OwnAt δ (vs.map some) j l → OwnAt (δ ++ List.replicate m .un) (vs.map some ++ List.replicate m none) j l := fun j l ⟨⟨o, e⟩, e2⟩ => by
    have hj := (List.getElem?_eq_some_iff.mp e).1
    exact ⟨⟨o, by rw [List.getElem?_append_left hj]; exact e⟩, by rw [List.getElem?_append_left (by rw [List.length_map]; omega)]; exact e2⟩
  have dn : ∀ j l, OwnAt (δ ++ List.replicate m .un) (vs.map some ++ List.replicate m none) j l → OwnAt δ (vs.map some) j l := fun j l ⟨⟨o, e⟩, e2⟩ => by
    by_cases hj : j < δ.length
    · rw [List.getElem?_append_left hj] at e
      rw [List.getElem?_append_left (by rw [List.length_map]; omega)] at e2
      exact ⟨⟨o, e⟩, e2⟩
    · rw [List.getElem?_append_right (by omega), List.getElem?_replicate] at e
      split at e <;> cases e
  -- an owned parameter is where it was
  have keep : ∀ (i : Nat) (o : Ow), δ[i]? = some (.ow o) → ∃ l, OwnAt δ (vs.map some) i l ∧ OwnAt δ' σ' i l := fun i o e => by
    obtain ⟨l, ho, e1, _⟩ := S.env i _ e
    have oi : OwnAt δ (vs.map some) i l := ⟨⟨o, e⟩, e1⟩
    have hi : i < C.kp := by
      have := (List.getElem?_eq_some_iff.mp e).1
      omega
    exact ⟨l, oi, a.kp i l hi (up i l oi)⟩
  have own2 : ∀ j l, OwnAt (backE δ δ') (vs.map some) j l → ∃ o, δ[j]? = some (.ow o) ∧ OwnAt δ (vs.map some) j l ∧ OwnAt δ' σ' j l := fun j l ⟨⟨o, e⟩, e2⟩ => by
    rcases backE_get e with ⟨o', q, _⟩ | ⟨q, _⟩
    · obtain ⟨l', h1, h2⟩ := keep j o' q
      have e3 := h1.2
      rw [e2] at e3
      cases e3
      exact ⟨o', q, h1, h2⟩
    · exact absurd rfl (q o)
  refine ⟨⟨⟨a.st.gh, fun i s e => ?_, fun i j l h1 h2 => ?_, by rw [backE_len]; exact S.len⟩, ⟨a.nx.gg, fun b o hm e => a.nx.hh b o (fun ⟨i, h⟩ => hm ⟨i, dn i b h⟩) e, fun b o hm e => a.nx.fr b o (fun ⟨i, h⟩ => hm ⟨i, dn i b h⟩) e, a.nx.dom⟩, fun l ⟨j, h⟩ => .inl ?_, fun i l hi h => ?_, backE_len⟩, fun j l h => ?_⟩
  · rcases backE_get e with ⟨o, q, r⟩ | ⟨q, r⟩
    · obtain ⟨l, h1, h2⟩ := keep i o q
      obtain ⟨⟨o2, e2⟩, e3⟩ := id h2
      have z := a.st.env i _ e2
      obtain ⟨l', ho, z1, z2, z3, z4⟩ := z
      rw [e3] at z1
      cases z1
      have es : s = .ow o2 := by
        have w := backE_own q e2
        rw [e] at w
        exact Option.some.inj w
      subst es
      exact ⟨l, ho, h1.2, z2, z3, z4⟩
    · cases s with
      | un => trivial
      | im d =>
        obtain ⟨u, z1, z2⟩ := S.env i _ r
        exact ⟨u, z1, Dp.ex a.nx.gg _ _ z2⟩
      | ow o => exact absurd rfl (q o)
  · obtain ⟨_, _, _, q1⟩ := own2 i l h1
    obtain ⟨_, _, _, q2⟩ := own2 j l h2
    exact a.st.dis i j l q1 q2
  · obtain ⟨_, _, q, _⟩ := own2 j l h
    exact ⟨j, q⟩
  · obtain ⟨⟨o, e⟩, e2⟩ := h
    obtain ⟨l', h1, h2⟩ := keep i o e
    have e3 := h1.2
    rw [e2] at e3
    cases e3
    obtain ⟨⟨o2, e4⟩, _⟩ := h2
    exact ⟨⟨o2, backE_own e e4⟩, e2⟩
  · obtain ⟨o, q, _, h2⟩ := own2 j l h
    refine ⟨?_, h2⟩
    have := (List.getElem?_eq_some_iff.mp q).1
    omega
theorem stt_start {K : PySem.W.Frag} {δ : Env} {vs : List V} {G H : Hp} {N : List Str} (S : Stt K δ (vs.map some) G H) : Stt K (δ ++ List.replicate (N.length - vs.length) .un) (L2.start N vs) G H := by
  have hl : δ.length = vs.length := by rw [S.len, List.length_map]
  have dn : ∀ j l, OwnAt (δ ++ List.replicate (N.length - vs.length) .un) (L2.start N vs) j l → OwnAt δ (vs.map some) j l := fun j l ⟨⟨o, e⟩, e2⟩ => by
    unfold L2.start at e2
    by_cases hj : j < δ.length
    · rw [List.getElem?_append_left hj] at e
      rw [List.getElem?_append_left (by rw [List.length_map]; omega)] at e2
      exact ⟨⟨o, e⟩, e2⟩
    · rw [List.getElem?_append_right (by omega), List.getElem?_replicate] at e
      split at e <;> cases e
  refine ⟨S.gh, fun i s e => ?_, fun i j l h1 h2 => S.dis i j l (dn _ _ h1) (dn _ _ h2), by simp [L2.start, hl]⟩
  by_cases hi : i < δ.length
  · rw [List.getElem?_append_left hi] at e
    unfold L2.start
    rw [List.getElem?_append_left (by rw [List.length_map]; omega)]
    exact S.env i s e
  · rw [List.getElem?_append_right (by omega), List.getElem?_replicate] at e
    split at e
    · cases e
      trivial
    · cases e
/-- one def's walk: what the small language says, from the state at its entry -/
theorem read_def {K : PySem.W.Frag} {call : Nat → Env → CR} {d : IL.Def} {N : List Str} {vs : List V} {t : TS} {H : Hp} {Q : VK} {E : XK} (hN : N.length = d.ns) (hj : JS ⟨K, d.kp⟩ t (IL.exs ⟨d.kp, call⟩ d.body)) (hsp : spF K d.kp (IL.runDef call d) vs H Q E) :
    t { nx := fun _ H' => Q .non H', rt := Q } (L2.start N vs) H := by
  obtain ⟨hl, G, δ, S, hm⟩ := hsp
  have hd : δ.length = d.kp := by
    have q := S.len
    rw [List.length_map] at q
    omega
  unfold IL.runDef at hm
  rw [if_pos hd] at hm
  have S' : Stt K (δ ++ List.replicate (d.ns - d.kp) .un) (L2.start N vs) G H := by
    have z := stt_start (N := N) S
    rw [hN, hl] at z
    exact z
  have back : ∀ {δ' : Env} {σ' : St} {G' H' : Hp}, Aft ⟨K, d.kp⟩ (δ ++ List.replicate (d.ns - d.kp) .un) (L2.start N vs) G H δ' σ' G' H' → AftF K vs δ G H (backE δ δ') G' H' ∧ ∀ j l, OwnAt (backE δ δ') (vs.map some) j l → j < d.kp ∧ OwnAt δ' σ' j l := fun {δ' σ' G' H'} a => by
    unfold L2.start at a
    rw [hN, hl] at a
    exact aft_end (C := ⟨K, d.kp⟩) hl.symm S a
  refine hj _ _ G H S' _ ?_
  cases e : IL.exs ⟨d.kp, call⟩ d.body (δ ++ List.replicate (d.ns - d.kp) .un) with
  | no => rw [e] at hm; exact hm
  | ex _ _ _ => rw [e] at hm; exact hm
  | ok f δ' =>
    rw [e] at hm
    cases f with
    | nx => exact fun σ' G' H' a => hm .non G' H' (back a).1 .non
    | bk => exact hm.elim
    | ct => exact hm.elim
    | rt v =>
      cases v with
      | dat d => exact fun v σ' G' H' a r => hm v G' H' (back a).1 r
      | new o =>
        intro p ho σ' G' H' a lc n g e r
        have z := back a
        refine hm p ho G' H' z.1 ?_ g e r fun ⟨j, hj⟩ => n j (z.2 j p hj).1 (z.2 j p hj).2
        rcases lc with ⟨i, hi, ⟨⟨o', e'⟩, _⟩⟩ | lc
        · exfalso
          have hi' : d.kp ≤ i := hi
          rw [List.getElem?_append_right (by omega), List.getElem?_replicate] at e'
          split at e' <;> cases e'
        · exact lc
/-! ### the defs of a law's text -/
structure DefR where
  name : Str
  qual : Str
  st : Stmt
  N : List Str
  kp : Nat
  core : CB
abbrev DefR.il (d : DefR) : IL.Def := ⟨d.kp, d.N.length, d.core⟩
abbrev DefR.ps (d : DefR) : List Str := d.N.take d.kp
def fsOf (ds : List DefR) : List (Str × Nat) := ds.map fun d => (d.name, d.kp)
def locB (sc : Scope) (x : Str) : Bool := match sc.names.lookup x with
  | some .local => true
  | some .cell => true
  | _ => false
def notFree : NameKind → Bool
  | .free => false
  | _ => true
def nodupB : List Str → Bool
  | [] => true
  | x :: xs => !(xs.any fun y => decide (x = y)) && nodupB xs
theorem nodupB_of : ∀ {xs : List Str}, nodupB xs = true → xs.Nodup
  | [], _ => List.nodup_nil
  | x :: xs, h => by
    simp only [nodupB, Bool.and_eq_true, Bool.not_eq_true', List.any_eq_false, decide_eq_true_eq] at h
    exact List.nodup_cons.mpr ⟨fun hm => h.1 x hm rfl, nodupB_of h.2⟩
def fscB (N : List Str) (kp : Nat) (sc : Scope) : Bool := isFun sc.kind && (!sc.isCoroutine && (!sc.isGenerator && (nodupB N && (decide (kp ≤ N.length) && ((N.take kp).all (locB sc) && sc.names.all fun y => notFree y.2)))))
theorem fscB_of {N : List Str} {kp : Nat} {sc : Scope} (h : fscB N kp sc = true) : FnScope N (N.take kp) sc ∧ (N.take kp).length = kp := by
  simp only [fscB, Bool.and_eq_true, Bool.not_eq_true', decide_eq_true_eq, List.all_eq_true] at h
  obtain ⟨h1, h2, h3, h4, h5, h6, h7⟩ := h
  have hl : (N.take kp).length = kp := by rw [List.length_take]; omega
  refine ⟨⟨?_, h2, h3, nodupB_of h4, by rw [hl], fun x hx => ?_, fun y hy e => ?_⟩, hl⟩
  · unfold isFun at h1
    split at h1
    · assumption
    · cases h1
  · have q := h6 x hx
    unfold locB at q
    split at q
    · rename_i e; exact .inl e
    · rename_i e; exact .inr e
    · cases q
  · have q := h7 y hy
    rw [e] at q
    cases q
def chkDef (fs : List (Str × Nat)) (d : DefR) : Bool := fscB d.N d.kp (defScope d.st) && chkB d.core ⟨d.N, defScope d.st, fs, true⟩ (defBody d.st)
/-- the def stands -/
def Stands (K : PySem.W.Frag) (mg : Str → Option Value) (d : DefR) : Prop := ∃ f fd, Fun K d.name d.qual d.st f fd ∧ mg d.name = some (.ref f) ∧ ∀ us : List Value, us.length = d.ps.length → bindArgs fd ⟨us, []⟩ = pure (d.ps.zip us)
theorem stands_mk {K : PySem.W.Frag} {mg : Str → Option Value} {h : Heap} {x : Str} {st : Stmt} {N : List Str} {kp : Nat} {core : CB} {f : Addr} {oc : Value} {od an : Option Addr} {osl : Array (Option Value)} {kV doc pm cdv ct : Value}
    (X : K.In h) (G : h.Ns mainGlobals mg) (a : PySem.W.nsIn K mainGlobals x = some (some (.ref f))) (l : K.lookup f = some ⟨oc, od, .func (PySem.W.fnOf x x (defArgs st) (defBody st) (defScope st) .none kV doc pm an cdv ct), osl⟩)
    (c : PySem.W.codeIn K cdv x = true) (k : PySem.W.keepIn K (.ref f) = true) (b : ∀ (kV doc pm : Value) (an : Option Addr) (cdv ct : Value) (us : List Value), us.length = (N.take kp).length → bindArgs (PySem.W.fnOf x x (defArgs st) (defBody st) (defScope st) .none kV doc pm an cdv ct) ⟨us, []⟩ = pure ((N.take kp).zip us)) : Stands K mg ⟨x, x, st, N, kp, core⟩ :=
  ⟨f, _, fun_mk l c k, PySem.W.mg_of X G a, b kV doc pm an cdv ct⟩
theorem all_cons {α : Type} {P : α → Prop} {a : α} {l : List α} (h : P a) (t : ∀ d ∈ l, P d) : ∀ d ∈ a :: l, P d := fun d hd => (List.mem_cons.mp hd).elim (fun e => e ▸ h) (t d)
theorem all_nil {α : Type} {P : α → Prop} : ∀ d ∈ ([] : List α), P d := fun _ h => nomatch h
theorem fs_get {ds : List DefR} {f : Nat} {x : Str} {n : Nat} (h : (fsOf ds)[f]? = some (x, n)) : ∃ d, ds[f]? = some d ∧ d.name = x ∧ d.kp = n := by
  unfold fsOf at h
  rw [List.getElem?_map] at h
  cases e : ds[f]? with
  | none => rw [e] at h; cases h
  | some d =>
    rw [e] at h
    simp only [Option.map_some, Option.some.injEq, Prod.mk.injEq] at h
    exact ⟨d, rfl, h.1, h.2⟩
theorem tbl_ar {ds : List DefR} {n f : Nat} {d : DefR} (h : ds[f]? = some d) : ∀ δ, IL.tbl (ds.map DefR.il) n f δ ≠ .no → δ.length = d.kp := fun δ hne => by
  cases n with
  | zero => exact absurd rfl hne
  | succ n =>
    simp only [IL.tbl, List.getElem?_map, h, Option.map_some] at hne
    unfold IL.runDef at hne
    by_cases hl : δ.length = d.kp
    · exact hl
    · rw [if_neg hl] at hne
      exact absurd rfl hne
section
variable {P : Program} {w : World} {K : PySem.W.Frag} {mg : Str → Option Value} {base : Heap}
theorem levels {ds : List DefR} (hall : ds.all (chkDef (fsOf ds)) = true) (hst : ∀ d ∈ ds, Stands K mg d) (hmg : ∀ b ∈ blts, mg b = none) : ∀ (n f : Nat) (d : DefR), ds[f]? = some d → ∀ fa fd, Fun K d.name d.qual d.st fa fd → FnG P w K mg base CX0 n fa fd d.ps (spF K d.kp (IL.tbl (ds.map DefR.il) n f)) := by
  intro n
  induction n with
  | zero =>
    intro f d hd fa fd F
    have hc := fscB_of ((Bool.and_eq_true _ _ ▸ List.all_eq_true.mp hall d (List.mem_of_getElem? hd) : _ ∧ _).1)
    exact ⟨fun vs H Q E h => by rw [h.1]; exact hc.2.symm, fun A o s H as us vs Q E c r e b rv h => by
      obtain ⟨_, G, δ, S, hm⟩ := h
      exact hm.elim⟩
  | succ n ih =>
    intro f d hd fa fd F
    have hck := (Bool.and_eq_true _ _ ▸ List.all_eq_true.mp hall d (List.mem_of_getElem? hd) : _ ∧ _)
    have hc := fscB_of hck.1
    refine DG.fnG_mk0 F hc.1 (fun vs H Q E h => by rw [h.1]; exact hc.2.symm) fun cdv A o s H vs Q E c hr hs => ?_
    have hAr : Ar (IL.tbl (ds.map DefR.il) n) ⟨d.N, defScope d.st, fsOf ds, true⟩ := fun g x m hg => by
      obtain ⟨d', e1, _, e3⟩ := fs_get hg
      rw [← e3]
      exact tbl_ar e1
    obtain ⟨ts, p1, j1⟩ := snd_b (K := K) (w := w) (kp := d.kp) (call := IL.tbl (ds.map DefR.il) n) d.core ⟨d.N, defScope d.st, fsOf ds, true⟩ (defBody d.st) hAr hck.2
    refine ⟨ts, p1 _ ⟨rfl, rfl, rfl, hc.1.nd, rfl, rfl, c, hr.units, PassesOwn.never, hmg, fun _ _ => rfl, fun g x m hg => ?_⟩, read_def (d := d.il) (E := E) (call := IL.tbl (ds.map DefR.il) n) rfl j1 ?_⟩
    · obtain ⟨d', e1, e2, e3⟩ := fs_get hg
      subst e2 e3
      obtain ⟨fa', fd', F', m', b'⟩ := hst d' (List.mem_of_getElem? e1)
      have hc' := fscB_of ((Bool.and_eq_true _ _ ▸ List.all_eq_true.mp hall d' (List.mem_of_getElem? e1) : _ ∧ _).1)
      exact ⟨fa', fd', d'.ps, n, m', hc'.2, ih g d' e1 fa' fd' F', hr, F'.kp, .all b'⟩
    · have e : IL.tbl (ds.map DefR.il) (n + 1) f = IL.runDef (IL.tbl (ds.map DefR.il) n) d.il := by
        funext δ
        simp only [IL.tbl, List.getElem?_map, hd, Option.map_some]
      rw [e] at hs
      exact hs
/-- the law's def is called with the script -/
theorem law_sp {F : Env → CR} {H : Hp} {a : Addr} {ns : List Int} {E : XK} {δ' : Env} (hS : SqL K H a (ns.map V.int)) (hF : F [.im (.list (IL.intsD ns))] = .ret (.dat (.bool true)) δ') : spF K 1 F [.ref a] H (fun v _ => v = .bl true) E := by
  have hd : Dp K H (.ref a) (.list (IL.intsD ns)) := .lst hS (DpAll.of_ints ns)
  refine ⟨rfl, H, [.im (.list (IL.intsD ns))], ⟨Evl.Ex.refl H, fun i s e => ?_, fun i j l h1 h2 => ?_, rfl⟩, ?_⟩
  · cases i with
    | zero =>
      simp at e
      subst e
      exact ⟨.ref a, rfl, hd⟩
    | succ i => simp at e
  · obtain ⟨⟨o, e⟩, _⟩ := h1
    cases i with
    | zero => simp at e
    | succ i => simp at e
  · rw [hF]
    exact fun v G' H' _ r => Dp.bool_of r
/-- what the walk of a law wants of the law's def -/
theorem law_F {ds : List DefR} {fl n : Nat} {d : DefR} {x : Str} {fa : Addr} (hall : ds.all (chkDef (fsOf ds)) = true) (hst : ∀ d ∈ ds, Stands K mg d) (hmg : ∀ b ∈ blts, mg b = none) (hd : ds[fl]? = some d) (hx : d.ps = [x]) (hfa : mg d.name = some (.ref fa)) :
    ∃ fd : FuncData, (∀ (s : Shared) (u : Value), BindsTo s fd ⟨[u], []⟩ [(x, u)]) ∧ ∀ base : Heap, FnG P w K mg base CX0 n fa fd [x] (spF K d.kp (IL.tbl (ds.map DefR.il) n fl)) := by
  obtain ⟨f, fd, F, m, b⟩ := hst d (List.mem_of_getElem? hd)
  rw [hfa] at m
  cases m
  refine ⟨fd, fun s u => ?_, fun base => ?_⟩
  · have z := b [u] (by rw [hx]; rfl)
    rw [hx] at z
    exact .of_eq z
  · have z := levels (P := P) (w := w) (base := base) hall hst hmg n fl d hd fa fd F
    rw [hx] at z
    exact z
end
end J
end
section
set_option Elab.async false
set_option linter.all false
set_option autoImplicit false
set_option maxRecDepth 100000
set_option maxHeartbeats 4000000
namespace K38
open PySem L2 J
open IL (CB CS CE CEs CT CO CI Def)
def topS (i : Nat) : Stmt := PySem.Challenge.pw_ringclause_k38_least_hitting.main.body.getD i (.Pass ⟨0, 0, 0, 0⟩)
/-- hitting_key: 0 positions, 1 weights, 2 at -/
def c_hitting_key : CB :=
    (.cons (.ret (.tup (.cons (.bi .sum (.cons (.lc (.idx (.var 1) (.var 2)) (.name 2) (.of (.var 0)) [2]) .nil)) (.cons (.bi .len (.cons (.var 0) .nil)) (.cons (.bi .tuple (.cons (.var 0) .nil)) .nil)))))
    .nil)
def d_hitting_key : DefR := ⟨("hitting_key" : Str), ("hitting_key" : Str), topS 1, [("positions" : Str), ("weights" : Str), ("at" : Str)], 2, c_hitting_key⟩
/-- _smallest_missed: 0 sets, 1 chosen, 2 missed, 3 positions, 4 at -/
def c_smallest_missed : CB :=
    (.cons (.set (.name 2) (.lcIf (.var 3) (.name 3) (.of (.var 0)) (.not (.tr (.bi .any (.cons (.lc (.cmp .isin (.var 4) (.var 1)) (.name 4) (.of (.var 3)) [4]) .nil)))) [3]))
    (.cons (.ret (.bi .minLen (.cons (.var 2) .nil)))
    .nil))
def d_smallest_missed : DefR := ⟨("_smallest_missed" : Str), ("_smallest_missed" : Str), topS 2, [("sets" : Str), ("chosen" : Str), ("missed" : Str), ("positions" : Str), ("at" : Str)], 2, c_smallest_missed⟩
/-- _branches: 0 positions, 1 chosen, 2 barred, 3 pairs, 4 at -/
def c_branches : CB :=
    (.cons (.set (.name 3) (.lst .nil))
    (.cons (.loop (.name 4) (.of (.bi .sortedSet (.cons (.var 0) .nil)))
      (.cons (.cond (.cmp .notin (.var 4) (.var 2))
      (.cons (.exp (.mt .append 3 (.cons (.tup (.cons (.bin .add (.var 1) (.tup (.cons (.var 4) .nil))) (.cons (.var 2) .nil))) .nil)))
    (.cons (.set (.name 2) (.bin .add (.var 2) (.tup (.cons (.var 4) .nil))))
    .nil))
      .nil)
    .nil))
    (.cons (.ret (.var 3))
    .nil)))
def d_branches : DefR := ⟨("_branches" : Str), ("_branches" : Str), topS 3, [("positions" : Str), ("chosen" : Str), ("barred" : Str), ("pairs" : Str), ("at" : Str)], 3, c_branches⟩
/-- least_hitting: 0 sets, 1 weights, 2 best, 3 waiting, 4 key, 5 positions, 6 chosen, 7 barred -/
def c_least_hitting : CB :=
    (.cons (.set (.name 2) .none)
    (.cons (.set (.name 3) (.lst (.cons (.tup (.cons (.tup .nil) (.cons (.tup .nil) .nil))) .nil)))
    (.cons (.wh (.cmp .ne (.var 3) (.lst .nil))
      (.cons (.set (.tup [6, 7]) (.mt .pop 3 .nil))
    (.cons (.set (.name 4) (.call 0 (.cons (.fz (.bi .sorted (.cons (.var 6) .nil))) (.cons (.fz (.var 1)) .nil))))
    (.cons (.cond (.and (.notN (.var 2)) (.cmp .ge (.var 4) (.var 2)))
      (.cons .cont
    .nil)
      .nil)
    (.cons (.set (.name 5) (.call 1 (.cons (.fz (.var 0)) (.cons (.fz (.var 6)) .nil))))
    (.cons (.cond (.isN (.var 5))
      (.cons (.set (.name 2) (.var 4))
    .nil)
      (.cons (.exp (.ext 3 (.rev (.call 2 (.cons (.fz (.var 5)) (.cons (.fz (.var 6)) (.cons (.fz (.var 7)) .nil)))))))
    .nil))
    .nil))))))
    (.cons (.ret (.ite (.isN (.var 2)) .none (.idx (.var 2) (.int 2))))
    .nil))))
def d_least_hitting : DefR := ⟨("least_hitting" : Str), ("least_hitting" : Str), topS 4, [("sets" : Str), ("weights" : Str), ("best" : Str), ("waiting" : Str), ("key" : Str), ("positions" : Str), ("chosen" : Str), ("barred" : Str)], 2, c_least_hitting⟩
/-- _law_bag: 0 script, 1 place, 2 cell, 3 rest -/
def c_l_bag : CB :=
    (.cons (.set (.name 2) (.bin .add (.bin .add (.int 16) (.bin .mul (.int 1009) (.var 1))) (.bin .mod (.bi .int (.cons (.bi .sum (.cons (.sli (.var 0) .no (.yes (.int 1))) .nil)) .nil)) (.int 1000003))))
    (.cons (.cond (.cmp .lt (.var 1) (.bi .len (.cons (.var 0) .nil)))
      (.cons (.set (.name 2) (.idx (.var 0) (.var 1)))
    .nil)
      .nil)
    (.cons (.cond (.cmp .lt (.var 2) (.int 0))
      (.cons (.set (.name 2) (.bin .sub (.int 1) (.bin .mul (.int 2) (.var 2))))
    .nil)
      .nil)
    (.cons (.set (.name 3) (.int 0))
    (.cons (.cond (.cmp .ge (.var 2) (.bin .pow (.int 10) (.int 18)))
      (.cons (.set (.name 3) (.var 2))
    .nil)
      .nil)
    (.cons (.ret (.lst (.cons (.var 3) (.cons (.bin .mod (.bi .int (.cons (.var 2) .nil)) (.int 2147483647)) (.cons (.bin .mod (.bi .int (.cons (.bin .fdiv (.var 2) (.int 2147483647)) .nil)) (.int 2147483629)) (.cons (.bin .mul (.int 131) (.var 1)) .nil))))))
    .nil))))))
def d_l_bag : DefR := ⟨("_law_bag" : Str), ("_law_bag" : Str), topS 6, [("_law_script" : Str), ("_law_place" : Str), ("_law_cell" : Str), ("_law_rest" : Str)], 2, c_l_bag⟩
/-- _law_take: 0 bag_here, 1 size, 2 first, 3 second, 4 third, 5 digit -/
def c_l_take : CB :=
    (.cons (.cond (.cmp .gt (.idx (.var 0) (.int 0)) (.int 0))
      (.cons (.set (.name 5) (.bin .mod (.bi .int (.cons (.idx (.var 0) (.int 0)) .nil)) (.var 1)))
    (.cons (.setI 0 (.int 0) (.bin .fdiv (.idx (.var 0) (.int 0)) (.var 1)))
    (.cons (.ret (.var 5))
    .nil)))
      .nil)
    (.cons (.setI 0 (.int 3) (.bin .add (.idx (.var 0) (.int 3)) (.int 1)))
    (.cons (.set (.name 2) (.bin .mod (.bi .int (.cons (.bin .mul (.bin .add (.idx (.var 0) (.int 1)) (.bin .mul (.idx (.var 0) (.int 3)) (.int 1000003))) (.int 48271)) .nil)) (.int 2147483647)))
    (.cons (.set (.name 3) (.bin .mod (.bi .int (.cons (.bin .add (.bin .add (.bin .mul (.var 2) (.var 2)) (.idx (.var 0) (.int 2))) (.bin .mul (.idx (.var 0) (.int 3)) (.int 9973))) .nil)) (.int 2147483399)))
    (.cons (.set (.name 4) (.bin .mod (.bi .int (.cons (.bin .mul (.bin .add (.bin .fdiv (.var 3) (.int 5)) (.var 2)) (.int 40692)) .nil)) (.int 2147483563)))
    (.cons (.ret (.bin .mod (.bi .int (.cons (.bin .fdiv (.var 4) (.int 7)) .nil)) (.var 1)))
    .nil))))))
def d_l_take : DefR := ⟨("_law_take" : Str), ("_law_take" : Str), topS 7, [("_law_bag_here" : Str), ("_law_size" : Str), ("_law_first" : Str), ("_law_second" : Str), ("_law_third" : Str), ("_law_digit" : Str)], 2, c_l_take⟩
/-- _law_tuples: 0 count, 1 found, 2 place, 3 one -/
def c_l_tuples : CB :=
    (.cons (.set (.name 1) (.lst (.cons (.tup .nil) .nil)))
    (.cons (.loop (.name 2) (.rng1 (.var 0))
      (.cons (.set (.name 1) (.bin .add (.var 1) (.lc (.bin .add (.var 3) (.tup (.cons (.var 2) .nil))) (.name 3) (.of (.var 1)) [3])))
    .nil))
    (.cons (.ret (.var 1))
    .nil)))
def d_l_tuples : DefR := ⟨("_law_tuples" : Str), ("_law_tuples" : Str), topS 8, [("_law_count" : Str), ("_law_found" : Str), ("_law_place" : Str), ("_law_one" : Str)], 1, c_l_tuples⟩
/-- _law_hits: 0 one, 1 sets_here, 2 row, 3 place -/
def c_l_hits : CB :=
    (.cons (.loop (.name 2) (.of (.var 1))
      (.cons (.cond (.not (.tr (.bi .any (.cons (.lc (.cmp .isin (.var 3) (.var 0)) (.name 3) (.of (.var 2)) [3]) .nil))))
      (.cons (.ret (.bool false))
    .nil)
      .nil)
    .nil))
    (.cons (.ret (.bool true))
    .nil))
def d_l_hits : DefR := ⟨("_law_hits" : Str), ("_law_hits" : Str), topS 9, [("_law_one" : Str), ("_law_sets_here" : Str), ("_law_row" : Str), ("_law_place" : Str)], 2, c_l_hits⟩
/-- _law_best: 0 sets_here, 1 prices_here, 2 best_here, 3 one, 4 mark, 5 place -/
def c_l_best : CB :=
    (.cons (.set (.name 2) .none)
    (.cons (.loop (.name 3) (.of (.call 6 (.cons (.fz (.bi .len (.cons (.var 1) .nil))) .nil)))
      (.cons (.cond (.tr (.call 7 (.cons (.fz (.var 3)) (.cons (.fz (.var 0)) .nil))))
      (.cons (.set (.name 4) (.tup (.cons (.bi .sum (.cons (.lc (.idx (.var 1) (.var 5)) (.name 5) (.of (.var 3)) [5]) .nil)) (.cons (.bi .len (.cons (.var 3) .nil)) (.cons (.var 3) .nil)))))
    (.cons (.cond (.or (.isN (.var 2)) (.cmp .lt (.var 4) (.var 2)))
      (.cons (.set (.name 2) (.var 4))
    .nil)
      .nil)
    .nil))
      .nil)
    .nil))
    (.cons (.cond (.isN (.var 2))
      (.cons (.ret .none)
    .nil)
      .nil)
    (.cons (.ret (.idx (.var 2) (.int 2)))
    .nil))))
def d_l_best : DefR := ⟨("_law_best" : Str), ("_law_best" : Str), topS 10, [("_law_sets_here" : Str), ("_law_prices_here" : Str), ("_law_best_here" : Str), ("_law_one" : Str), ("_law_mark" : Str), ("_law_place" : Str)], 2, c_l_best⟩
/-- _law_same: 0 actual, 1 due -/
def c_l_same : CB :=
    (.cons (.ret (.and (.cmp .eq (.bi .repr (.cons (.var 0) .nil)) (.bi .repr (.cons (.var 1) .nil))) (.cmp .eq (.var 0) (.var 1))))
    .nil)
def d_l_same : DefR := ⟨("_law_same" : Str), ("_law_same" : Str), topS 11, [("_law_actual" : Str), ("_law_due" : Str)], 2, c_l_same⟩
/-- _law_kind: 0 bag_here, 1 row -/
def c_l_kind : CB :=
    (.cons (.cond (.cmp .eq (.call 5 (.cons (.var 0) (.cons (.int 2) .nil))) (.int 1))
      (.cons (.ret (.bi .tuple (.cons (.var 1) .nil)))
    .nil)
      .nil)
    (.cons (.ret (.bi .list (.cons (.var 1) .nil)))
    .nil))
def d_l_kind : DefR := ⟨("_law_kind" : Str), ("_law_kind" : Str), topS 12, [("_law_bag_here" : Str), ("_law_row" : Str)], 2, c_l_kind⟩
/-- _law_prices: 0 bag_here, 1 count, 2 far, 3 turn -/
def c_l_prices : CB :=
    (.cons (.set (.name 1) (.bin .add (.int 1) (.call 5 (.cons (.var 0) (.cons (.int 8) .nil)))))
    (.cons (.cond (.cmp .eq (.call 5 (.cons (.var 0) (.cons (.int 16) .nil))) (.int 15))
      (.cons (.set (.name 1) (.int 12))
    .nil)
      .nil)
    (.cons (.cond (.cmp .eq (.call 5 (.cons (.var 0) (.cons (.int 20) .nil))) (.int 19))
      (.cons (.set (.name 1) (.int 0))
    .nil)
      .nil)
    (.cons (.set (.name 2) (.int 0))
    (.cons (.cond (.cmp .eq (.call 5 (.cons (.var 0) (.cons (.int 12) .nil))) (.int 11))
      (.cons (.set (.name 2) (.bin .pow (.int 10) (.int 30)))
    .nil)
      .nil)
    (.cons (.ret (.lc (.bin .add (.var 2) (.idx (.lst (.cons (.int 1) (.cons (.int 2) (.cons (.int 1) (.cons (.int 3) (.cons (.int 2) (.cons (.int 4) .nil))))))) (.call 5 (.cons (.var 0) (.cons (.int 6) .nil))))) (.name 3) (.rng1 (.var 1)) [3]))
    .nil))))))
def d_l_prices : DefR := ⟨("_law_prices" : Str), ("_law_prices" : Str), topS 13, [("_law_bag_here" : Str), ("_law_count" : Str), ("_law_far" : Str), ("_law_turn" : Str)], 1, c_l_prices⟩
/-- _law_sets: 0 bag_here, 1 count, 2 sets_here, 3 turn, 4 size, 5 place -/
def c_l_sets : CB :=
    (.cons (.set (.name 2) (.lst .nil))
    (.cons (.loop (.name 3) (.rng1 (.call 5 (.cons (.var 0) (.cons (.int 7) .nil))))
      (.cons (.set (.name 4) (.bin .add (.int 1) (.call 5 (.cons (.var 0) (.cons (.int 4) .nil)))))
    (.cons (.cond (.cmp .gt (.var 1) (.int 0))
      (.cons (.exp (.mt .append 2 (.cons (.lc (.call 5 (.cons (.var 0) (.cons (.fz (.var 1)) .nil))) (.name 5) (.rng1 (.var 4)) [5]) .nil)))
    .nil)
      .nil)
    .nil)))
    (.cons (.cond (.cmp .eq (.call 5 (.cons (.var 0) (.cons (.int 8) .nil))) (.int 7))
      (.cons (.exp (.mt .insert 2 (.cons (.call 5 (.cons (.var 0) (.cons (.fz (.bin .add (.bi .len (.cons (.var 2) .nil)) (.int 1))) .nil))) (.cons (.lst .nil) .nil))))
    .nil)
      .nil)
    (.cons (.ret (.var 2))
    .nil))))
def d_l_sets : DefR := ⟨("_law_sets" : Str), ("_law_sets" : Str), topS 14, [("_law_bag_here" : Str), ("_law_count" : Str), ("_law_sets_here" : Str), ("_law_turn" : Str), ("_law_size" : Str), ("_law_place" : Str)], 2, c_l_sets⟩
/-- _law_asked: 0 bag_here, 1 sets_here, 2 prices_here, 3 due, 4 rows, 5 kept_rows, 6 handed, 7 weights, 8 row -/
def c_l_asked : CB :=
    (.cons (.set (.name 4) (.lc (.call 10 (.cons (.var 0) (.cons (.fz (.var 8)) .nil))) (.name 8) (.of (.var 1)) [8]))
    (.cons (.set (.name 5) (.lc (.bi .tuple (.cons (.var 8) .nil)) (.name 8) (.of (.var 4)) [8]))
    (.cons (.set (.name 6) (.call 10 (.cons (.var 0) (.cons (.fz (.var 4)) .nil))))
    (.cons (.set (.name 7) (.call 10 (.cons (.var 0) (.cons (.fz (.var 2)) .nil))))
    (.cons (.cond (.not (.tr (.call 9 (.cons (.fz (.call 3 (.cons (.fz (.var 6)) (.cons (.fz (.var 7)) .nil)))) (.cons (.fz (.var 3)) .nil)))))
      (.cons (.ret (.bool false))
    .nil)
      .nil)
    (.cons (.ret (.and (.cmp .eq (.lc (.bi .tuple (.cons (.var 8) .nil)) (.name 8) (.of (.var 6)) [8]) (.var 5)) (.cmp .eq (.bi .list (.cons (.var 7) .nil)) (.var 2))))
    .nil))))))
def d_l_asked : DefR := ⟨("_law_asked" : Str), ("_law_asked" : Str), topS 15, [("_law_bag_here" : Str), ("_law_sets_here" : Str), ("_law_prices_here" : Str), ("_law_due" : Str), ("_law_rows" : Str), ("_law_kept_rows" : Str), ("_law_handed" : Str), ("_law_weights" : Str), ("_law_row" : Str)], 4, c_l_asked⟩
/-- law: 0 script, 1 bag_here, 2 prices_here, 3 sets_here, 4 due, 5 kinds, 6 at, 7 rest, 8 more, 9 place, 10 row -/
def c_law : CB :=
    (.cons (.set (.name 1) (.call 4 (.cons (.fz (.var 0)) (.cons (.int 0) .nil))))
    (.cons (.set (.name 2) (.call 11 (.cons (.var 1) .nil)))
    (.cons (.set (.name 3) (.call 12 (.cons (.call 4 (.cons (.fz (.var 0)) (.cons (.int 1) .nil))) (.cons (.fz (.bi .len (.cons (.var 2) .nil))) .nil))))
    (.cons (.set (.name 4) (.call 8 (.cons (.fz (.var 3)) (.cons (.fz (.var 2)) .nil))))
    (.cons (.set (.name 5) (.call 4 (.cons (.fz (.var 0)) (.cons (.int 2) .nil))))
    (.cons (.cond (.not (.tr (.call 13 (.cons (.var 5) (.cons (.fz (.var 3)) (.cons (.fz (.var 2)) (.cons (.fz (.var 4)) .nil)))))))
      (.cons (.ret (.bool false))
    .nil)
      .nil)
    (.cons (.cond (.not (.tr (.call 13 (.cons (.var 5) (.cons (.fz (.lc (.rev (.var 10)) (.name 10) (.of (.rev (.var 3))) [10])) (.cons (.fz (.var 2)) (.cons (.fz (.var 4)) .nil)))))))
      (.cons (.ret (.bool false))
    .nil)
      .nil)
    (.cons (.set (.name 6) (.call 5 (.cons (.var 5) (.cons (.fz (.bin .add (.bi .len (.cons (.var 3) .nil)) (.int 1))) .nil))))
    (.cons (.cond (.not (.tr (.call 13 (.cons (.var 5) (.cons (.fz (.bin .add (.bin .add (.sli (.var 3) .no (.yes (.var 6))) (.lst (.cons (.lst .nil) .nil))) (.sli (.var 3) (.yes (.var 6)) .no))) (.cons (.fz (.var 2)) (.cons .none .nil)))))))
      (.cons (.ret (.bool false))
    .nil)
      .nil)
    (.cons (.cond (.not (.tr (.call 13 (.cons (.var 5) (.cons (.fz (.lst .nil)) (.cons (.fz (.var 2)) (.cons (.fz (.tup .nil)) .nil)))))))
      (.cons (.ret (.bool false))
    .nil)
      .nil)
    (.cons (.cond (.isN (.var 4))
      (.cons (.ret (.bool true))
    .nil)
      .nil)
    (.cons (.cond (.cmp .ne (.var 4) (.tup .nil))
      (.cons (.set (.name 8) (.bin .add (.bin .add (.sli (.var 3) .no (.yes (.var 6))) (.lst (.cons (.lst (.cons (.idx (.var 4) (.call 5 (.cons (.var 5) (.cons (.fz (.bi .len (.cons (.var 4) .nil))) .nil)))) .nil)) .nil))) (.sli (.var 3) (.yes (.var 6)) .no)))
    (.cons (.cond (.not (.tr (.call 13 (.cons (.var 5) (.cons (.fz (.var 8)) (.cons (.fz (.var 2)) (.cons (.fz (.var 4)) .nil)))))))
      (.cons (.ret (.bool false))
    .nil)
      .nil)
    .nil))
      .nil)
    (.cons (.set (.name 7) (.lcIf (.var 9) (.name 9) (.rng1 (.bi .len (.cons (.var 2) .nil))) (.cmp .notin (.var 9) (.var 4)) [9]))
    (.cons (.cond (.not (.tr (.var 7)))
      (.cons (.ret (.bool true))
    .nil)
      .nil)
    (.cons (.set (.name 8) (.bin .add (.bin .add (.sli (.var 3) .no (.yes (.var 6))) (.lst (.cons (.sli (.var 7) (.yes (.call 5 (.cons (.var 5) (.cons (.fz (.bi .len (.cons (.var 7) .nil))) .nil)))) .no) .nil))) (.sli (.var 3) (.yes (.var 6)) .no)))
    (.cons (.ret (.call 13 (.cons (.var 5) (.cons (.fz (.var 8)) (.cons (.fz (.var 2)) (.cons (.fz (.call 8 (.cons (.fz (.var 8)) (.cons (.fz (.var 2)) .nil)))) .nil))))))
    .nil))))))))))))))))
def d_law : DefR := ⟨("law" : Str), ("law" : Str), topS 16, [("_law_script" : Str), ("_law_bag_here" : Str), ("_law_prices_here" : Str), ("_law_sets_here" : Str), ("_law_due" : Str), ("_law_kinds" : Str), ("_law_at" : Str), ("_law_rest" : Str), ("_law_more" : Str), ("_law_place" : Str), ("_law_row" : Str)], 1, c_law⟩
def defs : List DefR := [d_hitting_key, d_smallest_missed, d_branches, d_least_hitting, d_l_bag, d_l_take, d_l_tuples, d_l_hits, d_l_best, d_l_same, d_l_kind, d_l_prices, d_l_sets, d_l_asked, d_law]
abbrev f_hitting_key : Nat := 0
abbrev f_smallest_missed : Nat := 1
abbrev f_branches : Nat := 2
abbrev f_least_hitting : Nat := 3
abbrev f_l_bag : Nat := 4
abbrev f_l_take : Nat := 5
abbrev f_l_tuples : Nat := 6
abbrev f_l_hits : Nat := 7
abbrev f_l_best : Nat := 8
abbrev f_l_same : Nat := 9
abbrev f_l_kind : Nat := 10
abbrev f_l_prices : Nat := 11
abbrev f_l_sets : Nat := 12
abbrev f_l_asked : Nat := 13
abbrev f_law : Nat := 14
theorem chk : defs.all (chkDef (fsOf defs)) = true := by decide +kernel
end K38
end
section
set_option Elab.async false
set_option linter.all false
set_option autoImplicit false
set_option maxHeartbeats 1000000
/-! J0S: how a text of the small language is run by simp: from the left, each value first. -/
namespace IL
open PySem
section
variable {α β : Type} {C : Cfg} {δ : Env}
/-! ### slots -/
@[simp] theorem cur_dat (d : D) : cur δ (.dat d) = some d := rfl
@[simp] theorem cur_lst (ds : List D) : cur δ (.new (.lst ds)) = some (.list ds) := rfl
@[simp] theorem cur_own (i : Nat) : cur δ (.own i) = (match δ[i]? with
    | some (.im d) => some d
    | some (.ow (.lst ds)) => some (.list ds)
    | _ => none) := rfl
@[simp] theorem dem_dat (kp : Nat) (d : D) : dem kp (.dat d) δ = .ok d δ := rfl
@[simp] theorem dem_lst (kp : Nat) (ds : List D) : dem kp (.new (.lst ds)) δ = .ok (.list ds) δ := rfl
@[simp] theorem dem_own (kp i : Nat) : dem kp (.own i) δ = (match δ[i]? with
    | some (.im d) => .ok d δ
    | some (.ow (.lst ds)) => if kp ≤ i then .ok (.list ds) (δ.set i (.im (.list ds))) else .no
    | _ => .no) := rfl
@[simp] theorem freeB_eq (kp i : Nat) : freeB kp δ i = (decide (kp ≤ i) || (match δ[i]? with
  | some (.ow _) => false
  | _ => true)) := rfl
@[simp] theorem optR_some (a : α) : optR δ (some a) = .ok a δ := rfl
@[simp] theorem optR_none : optR δ (none : Option α) = .no := rfl
@[simp] theorem op1_eq (o : D → Option α) (x : Val) : op1 o x δ = optR δ ((cur δ x).bind o) := rfl
@[simp] theorem op2_eq (o : D → D → Option α) (x y : Val) : op2 o x y δ = optR δ ((cur δ x).bind fun d => (cur δ y).bind fun e => o d e) := rfl
@[simp] theorem intD_int (i : Int) : intD (.int i) = some i := rfl
@[simp] theorem isNoneD_none : isNoneD .none = true := rfl
@[simp] theorem isNoneD_int (i : Int) : isNoneD (.int i) = false := rfl
@[simp] theorem isNoneD_str (i : Str) : isNoneD (.str i) = false := rfl
@[simp] theorem isNoneD_bool (i : Bool) : isNoneD (.bool i) = false := rfl
@[simp] theorem isNoneD_list (i : List D) : isNoneD (.list i) = false := rfl
@[simp] theorem isNoneD_tuple (i : List D) : isNoneD (.tuple i) = false := rfl
@[simp] theorem cmpV_eq (o : Cop) (d e : D) : cmpV o d e = (cmpop o d e).map fun b => .dat (.bool b) := rfl
@[simp] theorem idxV_eq (d e : D) : idxV d e = (idxop d e).map .dat := rfl
@[simp] theorem negV_int (i : Int) : negV (.int i) = some (.dat (.int (-i))) := rfl
@[simp] theorem idxop_list (ds : List D) (i : Int) : idxop (.list ds) (.int i) = L2.atI ds i := rfl
@[simp] theorem idxop_tuple (ds : List D) (i : Int) : idxop (.tuple ds) (.int i) = L2.atI ds i := rfl
theorem atI_ofNat {γ : Type} (ds : List γ) (n : Nat) : L2.atI ds (n : Int) = ds[n]? := by
  unfold L2.atI L2.ixN
  rw [if_pos (Int.natCast_nonneg n)]
  by_cases h : (n : Int) < ds.length
  · rw [if_pos h]
    simp
  · rw [if_neg h, List.getElem?_eq_none (by omega)]
    rfl
@[simp] theorem atI_0 {γ : Type} (ds : List γ) : L2.atI ds 0 = ds[0]? := atI_ofNat ds 0
@[simp] theorem atI_2 {γ : Type} (ds : List γ) : L2.atI ds 2 = ds[2]? := atI_ofNat ds 2
@[simp] theorem atI_3 {γ : Type} (ds : List γ) : L2.atI ds 3 = ds[3]? := atI_ofNat ds 3
@[simp] theorem atI_4 {γ : Type} (ds : List γ) : L2.atI ds 4 = ds[4]? := atI_ofNat ds 4
@[simp] theorem atI_5 {γ : Type} (ds : List γ) : L2.atI ds 5 = ds[5]? := atI_ofNat ds 5
@[simp] theorem atI_6 {γ : Type} (ds : List γ) : L2.atI ds 6 = ds[6]? := atI_ofNat ds 6
@[simp] theorem atI_7 {γ : Type} (ds : List γ) : L2.atI ds 7 = ds[7]? := atI_ofNat ds 7
@[simp] theorem atI_8 {γ : Type} (ds : List γ) : L2.atI ds 8 = ds[8]? := atI_ofNat ds 8
@[simp] theorem atI_9 {γ : Type} (ds : List γ) : L2.atI ds 9 = ds[9]? := atI_ofNat ds 9
@[simp] theorem atI_1 {γ : Type} (ds : List γ) : L2.atI ds 1 = ds[1]? := atI_ofNat ds 1
theorem ixN_ofNat (l n : Nat) : L2.ixN l (n : Int) = if n < l then some n else none := by
  unfold L2.ixN
  rw [if_pos (Int.natCast_nonneg n)]
  by_cases h : (n : Int) < l
  · rw [if_pos h, if_pos (by omega)]
    simp
  · rw [if_neg h, if_neg (by omega)]
@[simp] theorem ixN_0 (l : Nat) : L2.ixN l 0 = if 0 < l then some 0 else none := ixN_ofNat l 0
@[simp] theorem ixN_1 (l : Nat) : L2.ixN l 1 = if 1 < l then some 1 else none := ixN_ofNat l 1
@[simp] theorem ixN_2 (l : Nat) : L2.ixN l 2 = if 2 < l then some 2 else none := ixN_ofNat l 2
@[simp] theorem ixN_3 (l : Nat) : L2.ixN l 3 = if 3 < l then some 3 else none := ixN_ofNat l 3
@[simp] theorem ixN_4 (l : Nat) : L2.ixN l 4 = if 4 < l then some 4 else none := ixN_ofNat l 4
@[simp] theorem ixN_5 (l : Nat) : L2.ixN l 5 = if 5 < l then some 5 else none := ixN_ofNat l 5
@[simp] theorem ixN_6 (l : Nat) : L2.ixN l 6 = if 6 < l then some 6 else none := ixN_ofNat l 6
@[simp] theorem ixN_7 (l : Nat) : L2.ixN l 7 = if 7 < l then some 7 else none := ixN_ofNat l 7
@[simp] theorem ixN_8 (l : Nat) : L2.ixN l 8 = if 8 < l then some 8 else none := ixN_ofNat l 8
@[simp] theorem ixN_9 (l : Nat) : L2.ixN l 9 = if 9 < l then some 9 else none := ixN_ofNat l 9
/-! ### operators -/
@[simp] theorem add_int (i j : Int) : binop .add (.int i) (.int j) = some (.dat (.int (i + j))) := rfl
@[simp] theorem sub_int (i j : Int) : binop .sub (.int i) (.int j) = some (.dat (.int (i - j))) := rfl
theorem mul_int (i j : Int) : binop .mul (.int i) (.int j) = if (i.natAbs < 2 ^ 64 ∨ j.natAbs < 2 ^ 64) ∨ i.natAbs.log2 + j.natAbs.log2 < 1000000 then some (.dat (.int (i * j))) else none := rfl
@[simp] theorem mul_left (i j : Int) (h : i.natAbs < 2 ^ 64) : binop .mul (.int i) (.int j) = some (.dat (.int (i * j))) := by
  rw [mul_int, if_pos (.inl (.inl h))]
@[simp] theorem mul_right (i j : Int) (h : j.natAbs < 2 ^ 64) : binop .mul (.int i) (.int j) = some (.dat (.int (i * j))) := by
  rw [mul_int, if_pos (.inl (.inr h))]
theorem fdiv_int (i j : Int) : binop .fdiv (.int i) (.int j) = if 0 < j ∧ j.natAbs.log2 < 9000 then some (.dat (.int (i / j))) else none := rfl
theorem log2_small {n : Nat} (h : n < 2 ^ 64) : n.log2 < 9000 := by
  by_cases h0 : n = 0
  · subst h0
    decide
  · exact Nat.lt_of_lt_of_le ((Nat.log2_lt h0).mpr h) (by decide)
@[simp] theorem fdiv_small (i j : Int) (h : 0 < j) (h2 : j.natAbs < 2 ^ 64) : binop .fdiv (.int i) (.int j) = some (.dat (.int (i / j))) := by
  rw [fdiv_int, if_pos ⟨h, log2_small h2⟩]
theorem mod_int (i j : Int) : binop .mod (.int i) (.int j) = if 0 < j then some (.dat (.int (i % j))) else none := rfl
@[simp] theorem mod_pos (i j : Int) (h : 0 < j) : binop .mod (.int i) (.int j) = some (.dat (.int (i % j))) := by
  rw [mod_int, if_pos h]
theorem pow_int (i j : Int) : binop .pow (.int i) (.int j) = if 0 ≤ j ∧ j ≤ 1000000 ∧ i.natAbs < 2 ^ 64 then some (.dat (.int (i ^ j.toNat))) else none := rfl
@[simp] theorem pow_small (i j : Int) (h0 : 0 ≤ j) (h1 : j ≤ 1000000) (h2 : i.natAbs < 2 ^ 64) : binop .pow (.int i) (.int j) = some (.dat (.int (i ^ j.toNat))) := by
  rw [pow_int, if_pos ⟨h0, h1, h2⟩]
@[simp] theorem add_list (a b : List D) (h : a.length + b.length ≤ sizeLine) : binop .add (.list a) (.list b) = some (.new (.lst (a ++ b))) := if_pos h
@[simp] theorem add_tuple (a b : List D) (h : a.length + b.length ≤ sizeLine) : binop .add (.tuple a) (.tuple b) = some (.dat (.tuple (a ++ b))) := if_pos h
@[simp] theorem plain_int (i : Int) : PyData.plain (.int i) = true := rfl
@[simp] theorem cmp_eq (d e : D) (h : plain2 d e = true) : cmpop .eq d e = some (PyData.eqv d e) := if_pos h
@[simp] theorem cmp_ne (d e : D) (h : plain2 d e = true) : cmpop .ne d e = some (!PyData.eqv d e) := if_pos h
@[simp] theorem plain2_int (i j : Int) : plain2 (.int i) (.int j) = true := by
  simp [plain2, PyData.plain, PyData.depth]
@[simp] theorem eqv_int (i j : Int) : PyData.eqv (.int i) (.int j) = decide (i = j) := by
  simp [PyData.eqv, Bool.beq_eq_decide_eq]
@[simp] theorem lt_int (i j : Int) : cmpop .lt (.int i) (.int j) = some (decide (i < j)) := by
  have h : orderd (.int i) (.int j) = true := by simp [orderd, PySem.W.alike, PyData.depth]
  refine (if_pos (e := none) h).trans ?_
  rw [PySem.W.dataLt_int]
@[simp] theorem gt_int (i j : Int) : cmpop .gt (.int i) (.int j) = some (decide (j < i)) := by
  have h : orderd (.int i) (.int j) = true := by simp [orderd, PySem.W.alike, PyData.depth]
  refine (if_pos (e := none) h).trans ?_
  rw [PySem.W.dataLt_int]
@[simp] theorem le_int (i j : Int) : cmpop .le (.int i) (.int j) = some (decide (i ≤ j)) := by
  have h : orderd (.int i) (.int j) = true := by simp [orderd, PySem.W.alike, PyData.depth]
  refine (if_pos (e := none) h).trans ?_
  rw [PySem.W.dataLt_int]
  congr 1
  by_cases q : i ≤ j
  · have : ¬ j < i := by omega
    simp [q, this]
  · have : j < i := by omega
    simp [q, this]
@[simp] theorem ge_int (i j : Int) : cmpop .ge (.int i) (.int j) = some (decide (j ≤ i)) := by
  have h : orderd (.int i) (.int j) = true := by simp [orderd, PySem.W.alike, PyData.depth]
  refine (if_pos (e := none) h).trans ?_
  rw [PySem.W.dataLt_int]
  congr 1
  by_cases q : j ≤ i
  · have : ¬ i < j := by omega
    simp [q, this]
  · have : i < j := by omega
    simp [q, this]
@[simp] theorem notin_eq (d e : D) : cmpop .notin d e = (cmpop .isin d e).map (! ·) := rfl
@[simp] theorem in_list (d : D) (es : List D) (h : memOk d es = true) : cmpop .isin d (.list es) = some (mem d es) := by
  show isIn d (.list es) = _
  have e : isIn d (.list es) = if memOk d es = true then some (mem d es) else none := by cases d <;> rfl
  rw [e, if_pos h]
@[simp] theorem in_tuple (d : D) (es : List D) (h : memOk d es = true) : cmpop .isin d (.tuple es) = some (mem d es) := by
  show isIn d (.tuple es) = _
  have e : isIn d (.tuple es) = if memOk d es = true then some (mem d es) else none := by cases d <;> rfl
  rw [e, if_pos h]
@[simp] theorem truth_none : truth .none = some false := rfl
@[simp] theorem truth_bool (b : Bool) : truth (.bool b) = some b := rfl
@[simp] theorem truth_int (i : Int) : truth (.int i) = some (i != 0) := rfl
@[simp] theorem truth_list (ds : List D) : truth (.list ds) = some (!ds.isEmpty) := rfl
@[simp] theorem truth_tuple (ds : List D) : truth (.tuple ds) = some (!ds.isEmpty) := rfl
/-! ### built-ins -/
@[simp] theorem len_list (ds : List D) : fn .len [.list ds] = some (.dat (.int ds.length)) := rfl
@[simp] theorem len_tuple (ds : List D) : fn .len [.tuple ds] = some (.dat (.int ds.length)) := rfl
@[simp] theorem fn_int (i : Int) : fn .int [.int i] = some (.dat (.int i)) := rfl
@[simp] theorem fn_abs (i : Int) : fn .abs [.int i] = some (.dat (.int (if i < 0 then -i else i))) := rfl
theorem asInts_ints : ∀ ns : List Int, asInts (intsD ns) = some ns
  | [] => rfl
  | n :: ns => by
    show (asInts (intsD ns)).map (n :: ·) = _
    rw [asInts_ints ns]
    rfl
@[simp] theorem fn_sum (ns : List Int) : fn .sum [.list (intsD ns)] = some (.dat (.int ns.sum)) := by
  show (asInts (intsD ns)).map _ = _
  rw [asInts_ints]
  rfl
def boolsD (bs : List Bool) : List D := bs.map PyData.bool
theorem asBools_bools : ∀ ns : List Bool, asBools (ns.map PyData.bool) = some ns
  | [] => rfl
  | n :: ns => by
    show (asBools (ns.map PyData.bool)).map (n :: ·) = _
    rw [asBools_bools ns]
    rfl
@[simp] theorem fn_any (ns : List Bool) : fn .any [.list (boolsD ns)] = some (.dat (.bool (ns.any id))) := by
  show (asBools (ns.map PyData.bool)).map _ = _
  rw [asBools_bools]
  rfl
@[simp] theorem fn_all (ns : List Bool) : fn .all [.list (boolsD ns)] = some (.dat (.bool (ns.all id))) := by
  show (asBools (ns.map PyData.bool)).map _ = _
  rw [asBools_bools]
  rfl
@[simp] theorem fn_tuple_list (ds : List D) : fn .tuple [.list ds] = some (.dat (.tuple ds)) := rfl
@[simp] theorem fn_tuple_tuple (ds : List D) : fn .tuple [.tuple ds] = some (.dat (.tuple ds)) := rfl
@[simp] theorem fn_list_list (ds : List D) : fn .list [.list ds] = some (.new (.lst ds)) := rfl
@[simp] theorem fn_list_tuple (ds : List D) : fn .list [.tuple ds] = some (.new (.lst ds)) := rfl
@[simp] theorem fn_sorted_list (ns : List Int) : fn .sorted [.list (intsD ns)] = some (.new (.lst (intsD (sortI ns)))) := by
  show (asInts (intsD ns)).map _ = _
  rw [asInts_ints]
  rfl
@[simp] theorem fn_sorted_tuple (ns : List Int) : fn .sorted [.tuple (intsD ns)] = some (.new (.lst (intsD (sortI ns)))) := by
  show (asInts (intsD ns)).map _ = _
  rw [asInts_ints]
  rfl
@[simp] theorem fn_sset_list (ns : List Int) (h : ns.length < 60) : fn .sortedSet [.list (intsD ns)] = some (.new (.lst (intsD (sortI (uniqI ns))))) := by
  show (asInts (intsD ns)).bind _ = _
  rw [asInts_ints]
  exact if_pos h
@[simp] theorem fn_sset_tuple (ns : List Int) (h : ns.length < 60) : fn .sortedSet [.tuple (intsD ns)] = some (.new (.lst (intsD (sortI (uniqI ns))))) := by
  show (asInts (intsD ns)).bind _ = _
  rw [asInts_ints]
  exact if_pos h
@[simp] theorem sli_list (lo hi : Option Int) (ds : List D) : sliop lo hi (.list ds) = some (.new (.lst (cutD ds lo hi))) := rfl
@[simp] theorem sli_tuple (lo hi : Option Int) (ds : List D) : sliop lo hi (.tuple ds) = some (.dat (.tuple (cutD ds lo hi))) := rfl
@[simp] theorem rev_list (ds : List D) : revop (.list ds) = some (.new (.lst ds.reverse)) := rfl
@[simp] theorem itemsD_list (ds : List D) : itemsD (.list ds) = some ds := rfl
@[simp] theorem itemsD_tuple (ds : List D) : itemsD (.tuple ds) = some ds := rfl
theorem rng1D_int (j : Int) (h1 : -(2 ^ 62) ≤ j) (h2 : j < 2 ^ 62) : rng1D (.int j) = some (rngD 0 j.toNat) := if_pos ⟨h1, h2⟩
@[simp] theorem mapM_nil : ([] : List Val).mapM (cur δ) = some [] := rfl
@[simp] theorem mapM_cons (a : Val) (as : List Val) : (a :: as).mapM (cur δ) = (cur δ a).bind fun d => (as.mapM (cur δ)).bind fun ds => some (d :: ds) := by
  rw [List.mapM_cons]
  rfl
/-! ### expressions: what is left to do, by names -/
@[simp] theorem ev_var (i : Nat) : ev C (.var i) δ = (match δ[i]? with
    | some (.im d) => .ok (.dat d) δ
    | some (.ow _) => .ok (.own i) δ
    | _ => .no) := rfl
@[simp] theorem ev_int (i : Int) : ev C (.int i) δ = .ok (.dat (.int i)) δ := rfl
@[simp] theorem ev_str (i : Str) : ev C (.str i) δ = .ok (.dat (.str i)) δ := rfl
@[simp] theorem ev_bool (i : Bool) : ev C (.bool i) δ = .ok (.dat (.bool i)) δ := rfl
@[simp] theorem ev_none  : ev C .none δ = .ok (.dat .none) δ := rfl
def kFz2 (C : Cfg)  (r : R D) : R Val := r.bind fun d δ => .ok (.dat d) δ
@[simp] theorem kFz2_ok (C : Cfg)  (d : D) (δ : Env) : kFz2 C  (.ok d δ) = .ok (.dat d) δ := rfl
def kFz1 (C : Cfg)  (r : R Val) : R Val := r.bind fun v δ => kFz2 C (dem C.kp v δ)
@[simp] theorem kFz1_ok (C : Cfg)  (v : Val) (δ : Env) : kFz1 C  (.ok v δ) = kFz2 C (dem C.kp v δ) := rfl
@[simp] theorem ev_fz (e : CE) : ev C (.fz e) δ = kFz1 C (ev C e δ) := rfl
def kBin2 (C : Cfg) (o : Bop) (x : Val) (r : R Val) : R Val := r.bind fun y δ => op2 (binop o) x y δ
@[simp] theorem kBin2_ok (C : Cfg) (o : Bop) (x : Val) (y : Val) (δ : Env) : kBin2 C o x (.ok y δ) = op2 (binop o) x y δ := rfl
def kBin1 (C : Cfg) (o : Bop) (b : CE) (r : R Val) : R Val := r.bind fun x δ => kBin2 C o x (ev C b δ)
@[simp] theorem kBin1_ok (C : Cfg) (o : Bop) (b : CE) (x : Val) (δ : Env) : kBin1 C o b (.ok x δ) = kBin2 C o x (ev C b δ) := rfl
@[simp] theorem ev_bin (o : Bop) (a b : CE) : ev C (.bin o a b) δ = kBin1 C o b (ev C a δ) := rfl
def kNeg (C : Cfg)  (r : R Val) : R Val := r.bind fun x δ => op1 negV x δ
@[simp] theorem kNeg_ok (C : Cfg)  (x : Val) (δ : Env) : kNeg C  (.ok x δ) = op1 negV x δ := rfl
@[simp] theorem ev_neg (a : CE) : ev C (.neg a) δ = kNeg C (ev C a δ) := rfl
def kCmp2 (C : Cfg) (o : Cop) (x : Val) (r : R Val) : R Val := r.bind fun y δ => op2 (cmpV o) x y δ
@[simp] theorem kCmp2_ok (C : Cfg) (o : Cop) (x : Val) (y : Val) (δ : Env) : kCmp2 C o x (.ok y δ) = op2 (cmpV o) x y δ := rfl
def kCmp1 (C : Cfg) (o : Cop) (b : CE) (r : R Val) : R Val := r.bind fun x δ => kCmp2 C o x (ev C b δ)
@[simp] theorem kCmp1_ok (C : Cfg) (o : Cop) (b : CE) (x : Val) (δ : Env) : kCmp1 C o b (.ok x δ) = kCmp2 C o x (ev C b δ) := rfl
@[simp] theorem ev_cmp (o : Cop) (a b : CE) : ev C (.cmp o a b) δ = kCmp1 C o b (ev C a δ) := rfl
def kIsN (C : Cfg)  (r : R Val) : R Val := r.bind fun x δ => op1 (fun d => some (.dat (.bool (isNoneD d)))) x δ
@[simp] theorem kIsN_ok (C : Cfg)  (x : Val) (δ : Env) : kIsN C  (.ok x δ) = op1 (fun d => some (.dat (.bool (isNoneD d)))) x δ := rfl
@[simp] theorem ev_isN (a : CE) : ev C (.isN a) δ = kIsN C (ev C a δ) := rfl
def kNotN (C : Cfg)  (r : R Val) : R Val := r.bind fun x δ => op1 (fun d => some (.dat (.bool (!isNoneD d)))) x δ
@[simp] theorem kNotN_ok (C : Cfg)  (x : Val) (δ : Env) : kNotN C  (.ok x δ) = op1 (fun d => some (.dat (.bool (!isNoneD d)))) x δ := rfl
@[simp] theorem ev_notN (a : CE) : ev C (.notN a) δ = kNotN C (ev C a δ) := rfl
def kNot (r : R Val) : R Val := r.bind fun x δ1 => match x with
    | .dat (.bool b) => .ok (.dat (.bool (!b))) δ1
    | _ => .no
@[simp] theorem kNot_ok (b : Bool) (δ : Env) : kNot (.ok (.dat (.bool b)) δ) = .ok (.dat (.bool (!b))) δ := rfl
@[simp] theorem ev_not (a : CE) : ev C (.not a) δ = kNot (ev C a δ) := rfl
def kAnd (C : Cfg) (b : CE) (r : R Val) : R Val := r.bind fun x δ1 => match x with
    | .dat (.bool true) => ev C b δ1
    | .dat (.bool false) => .ok (.dat (.bool false)) δ1
    | _ => .no
@[simp] theorem kAnd_true (C : Cfg) (b : CE) (δ : Env) : kAnd C b (.ok (.dat (.bool true)) δ) = ev C b δ := rfl
@[simp] theorem kAnd_false (C : Cfg) (b : CE) (δ : Env) : kAnd C b (.ok (.dat (.bool false)) δ) = .ok (.dat (.bool false)) δ := rfl
@[simp] theorem ev_and (a b : CE) : ev C (.and a b) δ = kAnd C b (ev C a δ) := rfl
def kOr (C : Cfg) (b : CE) (r : R Val) : R Val := r.bind fun x δ1 => match x with
    | .dat (.bool false) => ev C b δ1
    | .dat (.bool true) => .ok (.dat (.bool true)) δ1
    | _ => .no
@[simp] theorem kOr_false (C : Cfg) (b : CE) (δ : Env) : kOr C b (.ok (.dat (.bool false)) δ) = ev C b δ := rfl
@[simp] theorem kOr_true (C : Cfg) (b : CE) (δ : Env) : kOr C b (.ok (.dat (.bool true)) δ) = .ok (.dat (.bool true)) δ := rfl
@[simp] theorem ev_or (a b : CE) : ev C (.or a b) δ = kOr C b (ev C a δ) := rfl
def kIte (C : Cfg) (a b : CE) (r : R Bool) : R Val := r.bind fun k δ1 => if k = true then ev C a δ1 else ev C b δ1
@[simp] theorem kIte_true (C : Cfg) (a b : CE) (δ : Env) : kIte C a b (.ok true δ) = ev C a δ := rfl
@[simp] theorem kIte_false (C : Cfg) (a b : CE) (δ : Env) : kIte C a b (.ok false δ) = ev C b δ := rfl
@[simp] theorem ev_ite (c : CT) (a b : CE) : ev C (.ite c a b) δ = kIte C a b (evT C c δ) := rfl
def kTup (C : Cfg)  (r : R (List D)) : R Val := r.bind fun ds δ => (if ds.length ≤ sizeLine then .ok (.dat (.tuple ds)) δ else .no)
@[simp] theorem kTup_ok (C : Cfg)  (ds : (List D)) (δ : Env) : kTup C  (.ok ds δ) = (if ds.length ≤ sizeLine then .ok (.dat (.tuple ds)) δ else .no) := rfl
@[simp] theorem ev_tup (es : CEs) : ev C (.tup es) δ = kTup C (evD C es δ) := rfl
def kLst (C : Cfg)  (r : R (List D)) : R Val := r.bind fun ds δ => (if ds.length ≤ sizeLine then .ok (.new (.lst ds)) δ else .no)
@[simp] theorem kLst_ok (C : Cfg)  (ds : (List D)) (δ : Env) : kLst C  (.ok ds δ) = (if ds.length ≤ sizeLine then .ok (.new (.lst ds)) δ else .no) := rfl
@[simp] theorem ev_lst (es : CEs) : ev C (.lst es) δ = kLst C (evD C es δ) := rfl
def kIdx2 (C : Cfg) (x : Val) (r : R Val) : R Val := r.bind fun y δ => op2 idxV x y δ
@[simp] theorem kIdx2_ok (C : Cfg) (x : Val) (y : Val) (δ : Env) : kIdx2 C x (.ok y δ) = op2 idxV x y δ := rfl
def kIdx1 (C : Cfg) (b : CE) (r : R Val) : R Val := r.bind fun x δ => kIdx2 C x (ev C b δ)
@[simp] theorem kIdx1_ok (C : Cfg) (b : CE) (x : Val) (δ : Env) : kIdx1 C b (.ok x δ) = kIdx2 C x (ev C b δ) := rfl
@[simp] theorem ev_idx (a b : CE) : ev C (.idx a b) δ = kIdx1 C b (ev C a δ) := rfl
def kSli3 (C : Cfg) (x : Val) (l : Option Int) (r : R (Option Int)) : R Val := r.bind fun h δ => op1 (sliop l h) x δ
@[simp] theorem kSli3_ok (C : Cfg) (x : Val) (l : Option Int) (h : (Option Int)) (δ : Env) : kSli3 C x l (.ok h δ) = op1 (sliop l h) x δ := rfl
def kSli2 (C : Cfg) (x : Val) (hi : CO) (r : R (Option Int)) : R Val := r.bind fun l δ => kSli3 C x l (evO C hi δ)
@[simp] theorem kSli2_ok (C : Cfg) (x : Val) (hi : CO) (l : (Option Int)) (δ : Env) : kSli2 C x hi (.ok l δ) = kSli3 C x l (evO C hi δ) := rfl
def kSli1 (C : Cfg) (lo : CO) (hi : CO) (r : R Val) : R Val := r.bind fun x δ => kSli2 C x hi (evO C lo δ)
@[simp] theorem kSli1_ok (C : Cfg) (lo : CO) (hi : CO) (x : Val) (δ : Env) : kSli1 C lo hi (.ok x δ) = kSli2 C x hi (evO C lo δ) := rfl
@[simp] theorem ev_sli (a : CE) (lo hi : CO) : ev C (.sli a lo hi) δ = kSli1 C lo hi (ev C a δ) := rfl
def kRev (C : Cfg)  (r : R Val) : R Val := r.bind fun x δ => op1 revop x δ
@[simp] theorem kRev_ok (C : Cfg)  (x : Val) (δ : Env) : kRev C  (.ok x δ) = op1 revop x δ := rfl
@[simp] theorem ev_rev (a : CE) : ev C (.rev a) δ = kRev C (ev C a δ) := rfl
def kCall (C : Cfg) (f : Nat) (r : R (List Val)) : R Val := r.bind fun as δ => (if (ownIx as).Nodup then callR (C.call f (as.map (argSlot δ))) as δ else .no)
@[simp] theorem kCall_ok (C : Cfg) (f : Nat) (as : (List Val)) (δ : Env) : kCall C f (.ok as δ) = (if (ownIx as).Nodup then callR (C.call f (as.map (argSlot δ))) as δ else .no) := rfl
@[simp] theorem ev_call (f : Nat) (es : CEs) : ev C (.call f es) δ = kCall C f (evA C es δ) := rfl
def kBi (C : Cfg) (f : Fn) (r : R (List Val)) : R Val := r.bind fun as δ => optR δ ((as.mapM (cur δ)).bind (fn f))
@[simp] theorem kBi_ok (C : Cfg) (f : Fn) (as : (List Val)) (δ : Env) : kBi C f (.ok as δ) = optR δ ((as.mapM (cur δ)).bind (fn f)) := rfl
@[simp] theorem ev_bi (f : Fn) (es : CEs) : ev C (.bi f es) δ = kBi C f (evA C es δ) := rfl
def kMt (C : Cfg) (m : Mt) (i : Nat) (r : R (List D)) : R Val := r.bind fun ds δ => mtR m i ds δ
@[simp] theorem kMt_ok (C : Cfg) (m : Mt) (i : Nat) (ds : (List D)) (δ : Env) : kMt C m i (.ok ds δ) = mtR m i ds δ := rfl
@[simp] theorem ev_mt (m : Mt) (i : Nat) (es : CEs) : ev C (.mt m i es) δ = (match δ[i]? with
    | some (.ow (.lst _)) => kMt C m i (evD C es δ)
    | _ => .no) := rfl
def kExt (C : Cfg) (i : Nat) (r : R Val) : R Val := r.bind fun v δ => extR i v δ
@[simp] theorem kExt_ok (C : Cfg) (i : Nat) (v : Val) (δ : Env) : kExt C i (.ok v δ) = extR i v δ := rfl
@[simp] theorem ev_ext (i : Nat) (e : CE) : ev C (.ext i e) δ = (match δ[i]? with
    | some (.ow (.lst _)) => kExt C i (ev C e δ)
    | _ => .no) := rfl
def kLcE (C : Cfg) (vs : List Nat) (r : R (List D)) : R Val := r.bind fun ys δ => .ok (.new (.lst ys)) δ
@[simp] theorem kLcE_ok (C : Cfg) (vs : List Nat) (ys : (List D)) (δ : Env) : kLcE C vs (.ok ys δ) = .ok (.new (.lst ys)) δ := rfl
def cTT : Env → R Bool := fun δ => .ok true δ
@[simp] theorem cTT_eq : cTT δ = .ok true δ := rfl
def kDm (kp : Nat) (r : R Val) : R D := r.bind (dem kp)
@[simp] theorem kDm_ok (kp : Nat) (v : Val) : kDm kp (.ok v δ) = dem kp v δ := rfl
def evDm (C : Cfg) (e : CE) : Env → R D := fun δ => (ev C e δ).bind (dem C.kp)
@[simp] theorem evDm_eq (e : CE) : evDm C e δ = kDm C.kp (ev C e δ) := rfl
def kLc (C : Cfg) (e : CE) (g : Tg) (vs : List Nat) (r : R (List D)) : R Val := r.bind fun ds δ => (if vs.all (fun v => decide (C.kp ≤ v)) = true then kLcE C vs (lcGo C.kp g cTT (evDm C e) vs ds [] (wipeE δ vs)) else .no)
@[simp] theorem kLc_ok (C : Cfg) (e : CE) (g : Tg) (vs : List Nat) (ds : (List D)) (δ : Env) : kLc C e g vs (.ok ds δ) = (if vs.all (fun v => decide (C.kp ≤ v)) = true then kLcE C vs (lcGo C.kp g cTT (evDm C e) vs ds [] (wipeE δ vs)) else .no) := rfl
@[simp] theorem ev_lc (e : CE) (g : Tg) (it : CI) (vs : List Nat) : ev C (.lc e g it vs) δ = kLc C e g vs (evI C it δ) := rfl
def kLcIf (C : Cfg) (e : CE) (g : Tg) (c : CT) (vs : List Nat) (r : R (List D)) : R Val := r.bind fun ds δ => (if vs.all (fun v => decide (C.kp ≤ v)) = true then kLcE C vs (lcGo C.kp g (evT C c) (evDm C e) vs ds [] (wipeE δ vs)) else .no)
@[simp] theorem kLcIf_ok (C : Cfg) (e : CE) (g : Tg) (c : CT) (vs : List Nat) (ds : (List D)) (δ : Env) : kLcIf C e g c vs (.ok ds δ) = (if vs.all (fun v => decide (C.kp ≤ v)) = true then kLcE C vs (lcGo C.kp g (evT C c) (evDm C e) vs ds [] (wipeE δ vs)) else .no) := rfl
@[simp] theorem ev_lcIf (e : CE) (g : Tg) (it : CI) (c : CT) (vs : List Nat) : ev C (.lcIf e g it c vs) δ = kLcIf C e g c vs (evI C it δ) := rfl
def kTr (C : Cfg)  (r : R Val) : R Bool := r.bind fun v δ => op1 truth v δ
@[simp] theorem kTr_ok (C : Cfg)  (v : Val) (δ : Env) : kTr C  (.ok v δ) = op1 truth v δ := rfl
@[simp] theorem evT_tr (e : CE) : evT C (.tr e) δ = kTr C (ev C e δ) := rfl
def kTCmp2 (C : Cfg) (o : Cop) (x : Val) (r : R Val) : R Bool := r.bind fun y δ => op2 (cmpop o) x y δ
@[simp] theorem kTCmp2_ok (C : Cfg) (o : Cop) (x : Val) (y : Val) (δ : Env) : kTCmp2 C o x (.ok y δ) = op2 (cmpop o) x y δ := rfl
def kTCmp1 (C : Cfg) (o : Cop) (b : CE) (r : R Val) : R Bool := r.bind fun x δ => kTCmp2 C o x (ev C b δ)
@[simp] theorem kTCmp1_ok (C : Cfg) (o : Cop) (b : CE) (x : Val) (δ : Env) : kTCmp1 C o b (.ok x δ) = kTCmp2 C o x (ev C b δ) := rfl
@[simp] theorem evT_cmp (o : Cop) (a b : CE) : evT C (.cmp o a b) δ = kTCmp1 C o b (ev C a δ) := rfl
def kTIsN (C : Cfg)  (r : R Val) : R Bool := r.bind fun x δ => op1 (fun d => some (isNoneD d)) x δ
@[simp] theorem kTIsN_ok (C : Cfg)  (x : Val) (δ : Env) : kTIsN C  (.ok x δ) = op1 (fun d => some (isNoneD d)) x δ := rfl
@[simp] theorem evT_isN (a : CE) : evT C (.isN a) δ = kTIsN C (ev C a δ) := rfl
def kTNotN (C : Cfg)  (r : R Val) : R Bool := r.bind fun x δ => op1 (fun d => some (!isNoneD d)) x δ
@[simp] theorem kTNotN_ok (C : Cfg)  (x : Val) (δ : Env) : kTNotN C  (.ok x δ) = op1 (fun d => some (!isNoneD d)) x δ := rfl
@[simp] theorem evT_notN (a : CE) : evT C (.notN a) δ = kTNotN C (ev C a δ) := rfl
def kTNot (C : Cfg)  (r : R Bool) : R Bool := r.bind fun b δ => .ok (!b) δ
@[simp] theorem kTNot_ok (C : Cfg)  (b : Bool) (δ : Env) : kTNot C  (.ok b δ) = .ok (!b) δ := rfl
@[simp] theorem evT_not (a : CT) : evT C (.not a) δ = kTNot C (evT C a δ) := rfl
def kTAnd (C : Cfg) (b : CT) (r : R Bool) : R Bool := r.bind fun k δ1 => if k = true then evT C b δ1 else .ok false δ1
@[simp] theorem kTAnd_true (C : Cfg) (b : CT) (δ : Env) : kTAnd C b (.ok true δ) = evT C b δ := rfl
@[simp] theorem kTAnd_false (C : Cfg) (b : CT) (δ : Env) : kTAnd C b (.ok false δ) = .ok false δ := rfl
@[simp] theorem evT_and (a b : CT) : evT C (.and a b) δ = kTAnd C b (evT C a δ) := rfl
def kTOr (C : Cfg) (b : CT) (r : R Bool) : R Bool := r.bind fun k δ1 => if k = true then .ok true δ1 else evT C b δ1
@[simp] theorem kTOr_true (C : Cfg) (b : CT) (δ : Env) : kTOr C b (.ok true δ) = .ok true δ := rfl
@[simp] theorem kTOr_false (C : Cfg) (b : CT) (δ : Env) : kTOr C b (.ok false δ) = evT C b δ := rfl
@[simp] theorem evT_or (a b : CT) : evT C (.or a b) δ = kTOr C b (evT C a δ) := rfl
@[simp] theorem evD_nil  : evD C .nil δ = .ok [] δ := rfl
def kD3 (C : Cfg) (d : D) (r : R (List D)) : R (List D) := r.bind fun ds δ => .ok (d :: ds) δ
@[simp] theorem kD3_ok (C : Cfg) (d : D) (ds : (List D)) (δ : Env) : kD3 C d (.ok ds δ) = .ok (d :: ds) δ := rfl
def kD2 (C : Cfg) (es : CEs) (r : R D) : R (List D) := r.bind fun d δ => kD3 C d (evD C es δ)
@[simp] theorem kD2_ok (C : Cfg) (es : CEs) (d : D) (δ : Env) : kD2 C es (.ok d δ) = kD3 C d (evD C es δ) := rfl
def kD1 (C : Cfg) (es : CEs) (r : R Val) : R (List D) := r.bind fun v δ => kD2 C es (dem C.kp v δ)
@[simp] theorem kD1_ok (C : Cfg) (es : CEs) (v : Val) (δ : Env) : kD1 C es (.ok v δ) = kD2 C es (dem C.kp v δ) := rfl
@[simp] theorem evD_cons (e : CE) (es : CEs) : evD C (.cons e es) δ = kD1 C es (ev C e δ) := rfl
@[simp] theorem evA_nil  : evA C .nil δ = .ok [] δ := rfl
def kA2 (C : Cfg) (v : Val) (r : R (List Val)) : R (List Val) := r.bind fun vs δ => .ok (v :: vs) δ
@[simp] theorem kA2_ok (C : Cfg) (v : Val) (vs : (List Val)) (δ : Env) : kA2 C v (.ok vs δ) = .ok (v :: vs) δ := rfl
def kA1 (C : Cfg) (es : CEs) (r : R Val) : R (List Val) := r.bind fun v δ => kA2 C v (evA C es δ)
@[simp] theorem kA1_ok (C : Cfg) (es : CEs) (v : Val) (δ : Env) : kA1 C es (.ok v δ) = kA2 C v (evA C es δ) := rfl
@[simp] theorem evA_cons (e : CE) (es : CEs) : evA C (.cons e es) δ = kA1 C es (ev C e δ) := rfl
@[simp] theorem evO_no  : evO C .no δ = .ok none δ := rfl
def kO (C : Cfg)  (r : R Val) : R (Option Int) := r.bind fun v δ => op1 (fun d => (intD d).map some) v δ
@[simp] theorem kO_ok (C : Cfg)  (v : Val) (δ : Env) : kO C  (.ok v δ) = op1 (fun d => (intD d).map some) v δ := rfl
@[simp] theorem evO_yes (e : CE) : evO C (.yes e) δ = kO C (ev C e δ) := rfl
def kI2 (C : Cfg)  (r : R D) : R (List D) := r.bind fun d δ => optR δ (itemsD d)
@[simp] theorem kI2_ok (C : Cfg)  (d : D) (δ : Env) : kI2 C  (.ok d δ) = optR δ (itemsD d) := rfl
def kI1 (C : Cfg)  (r : R Val) : R (List D) := r.bind fun v δ => kI2 C (dem C.kp v δ)
@[simp] theorem kI1_ok (C : Cfg)  (v : Val) (δ : Env) : kI1 C  (.ok v δ) = kI2 C (dem C.kp v δ) := rfl
@[simp] theorem evI_of (e : CE) : evI C (.of e) δ = kI1 C (ev C e δ) := rfl
def kR1 (C : Cfg)  (r : R Val) : R (List D) := r.bind fun v δ => op1 rng1D v δ
@[simp] theorem kR1_ok (C : Cfg)  (v : Val) (δ : Env) : kR1 C  (.ok v δ) = op1 rng1D v δ := rfl
@[simp] theorem evI_rng1 (e : CE) : evI C (.rng1 e) δ = kR1 C (ev C e δ) := rfl
def kR3 (C : Cfg) (v : Val) (r : R Val) : R (List D) := r.bind fun u δ => op2 rng2D v u δ
@[simp] theorem kR3_ok (C : Cfg) (v : Val) (u : Val) (δ : Env) : kR3 C v (.ok u δ) = op2 rng2D v u δ := rfl
def kR2 (C : Cfg) (b : CE) (r : R Val) : R (List D) := r.bind fun v δ => kR3 C v (ev C b δ)
@[simp] theorem kR2_ok (C : Cfg) (b : CE) (v : Val) (δ : Env) : kR2 C b (.ok v δ) = kR3 C v (ev C b δ) := rfl
@[simp] theorem evI_rng2 (a b : CE) : evI C (.rng2 a b) δ = kR2 C b (ev C a δ) := rfl
/-! ### calls -/
@[simp] theorem argSlot_dat (d : D) : argSlot δ (.dat d) = .im d := rfl
@[simp] theorem argSlot_own (i : Nat) : argSlot δ (.own i) = δ.getD i .un := rfl
@[simp] theorem argSlot_new (o : Ow) : argSlot δ (.new o) = .ow o := rfl
@[simp] theorem ownIx_nil : ownIx [] = [] := rfl
@[simp] theorem ownIx_dat (d : D) (as : List Val) : ownIx (.dat d :: as) = ownIx as := rfl
@[simp] theorem ownIx_new (d : Ow) (as : List Val) : ownIx (.new d :: as) = ownIx as := rfl
@[simp] theorem ownIx_own (i : Nat) (as : List Val) : ownIx (.own i :: as) = i :: ownIx as := rfl
@[simp] theorem putBack_nil (ss : Env) : putBack δ [] ss = δ := by cases ss <;> rfl
@[simp] theorem putBack_dat (d : D) (as : List Val) (s : Slot) (ss : Env) : putBack δ (.dat d :: as) (s :: ss) = putBack δ as ss := rfl
@[simp] theorem putBack_new (d : Ow) (as : List Val) (s : Slot) (ss : Env) : putBack δ (.new d :: as) (s :: ss) = putBack δ as ss := rfl
@[simp] theorem putBack_own (i : Nat) (as : List Val) (s : Slot) (ss : Env) : putBack δ (.own i :: as) (s :: ss) = putBack (match δ[i]? with
    | some (.ow _) => δ.set i s
    | _ => δ) as ss := rfl
@[simp] theorem callR_dat (d : D) (ss : Env) (as : List Val) : callR (.ret (.dat d) ss) as δ = .ok (.dat d) (putBack δ as ss) := rfl
@[simp] theorem callR_new (d : Ow) (ss : Env) (as : List Val) : callR (.ret (.new d) ss) as δ = .ok (.new d) (putBack δ as ss) := rfl
@[simp] theorem mtR_eq (m : Mt) (i : Nat) (ds : List D) : mtR m i ds δ = (match δ[i]? with
  | some (.ow (.lst xs)) => (match mtop m xs ds with
    | some (d, ys) => .ok (.dat d) (δ.set i (.ow (.lst ys)))
    | none => .no)
  | _ => .no) := rfl
@[simp] theorem extR_new (i : Nat) (es : List D) : extR i (.new (.lst es)) δ = (match δ[i]? with
  | some (.ow (.lst xs)) => if xs.length + es.length ≤ sizeLine then .ok (.dat .none) (δ.set i (.ow (.lst (xs ++ es)))) else .no
  | _ => .no) := by
  unfold extR
  cases δ[i]? with
  | none => rfl
  | some s =>
    cases s with
    | un => rfl
    | im d => rfl
    | ow o => cases o <;> rfl
@[simp] theorem append_eq (xs : List D) (d : D) (h : xs.length < sizeLine) : mtop .append xs [d] = some (.none, xs ++ [d]) := if_pos h
@[simp] theorem pop_eq (xs : List D) : mtop .pop xs [] = (xs[xs.length - 1]?).map fun d => (d, xs.dropLast) := rfl
@[simp] theorem insert_eq (xs : List D) (i : Int) (d : D) (h0 : 0 ≤ i) (h1 : i < 2 ^ 63) (h2 : xs.length < sizeLine) : mtop .insert xs [.int i, d] = some (.none, xs.take i.toNat ++ [d] ++ xs.drop i.toNat) := if_pos ⟨h0, h1, h2⟩
/-! ### statements -/
@[simp] theorem bindT_name (kp i : Nat) (d : D) : bindT kp (.name i) d δ = if freeB kp δ i = true then some (δ.set i (.im d)) else none := rfl
@[simp] theorem bindT_tup (kp : Nat) (is : List Nat) (ds : List D) : bindT kp (.tup is) (.tuple ds) δ = bindAll kp is ds δ := rfl
@[simp] theorem bindAll_nil (kp : Nat) : bindAll kp [] [] δ = some δ := rfl
@[simp] theorem bindAll_cons (kp i : Nat) (is : List Nat) (d : D) (ds : List D) : bindAll kp (i :: is) (d :: ds) δ = if freeB kp δ i = true then bindAll kp is ds (δ.set i (.im d)) else none := rfl
@[simp] theorem setV_dat (kp i : Nat) (d : D) : setV kp i (.dat d) δ = if freeB kp δ i = true then .ok .nx (δ.set i (.im d)) else .no := rfl
@[simp] theorem setV_new (kp i : Nat) (d : Ow) : setV kp i (.new d) δ = if freeB kp δ i = true then .ok .nx (δ.set i (.ow d)) else .no := rfl
@[simp] theorem setV_own (kp i j : Nat) : setV kp i (.own j) δ = (dem kp (.own j) δ).bind fun d δ2 => if freeB kp δ2 i = true then .ok .nx (δ2.set i (.im d)) else .no := rfl
@[simp] theorem setIR_eq (i : Nat) (d : D) (n : Int) : setIR i d n δ = (match δ[i]? with
    | some (.ow (.lst ds)) => (match L2.ixN ds.length n with
      | some j => .ok .nx (δ.set i (.ow (.lst (ds.set j d))))
      | none => .no)
    | _ => .no) := rfl
@[simp] theorem retV_dat (kp : Nat) (d : D) : retV kp (.dat d) δ = .ok (.rt (.dat d)) δ := rfl
@[simp] theorem retV_new (kp : Nat) (d : Ow) : retV kp (.new d) δ = .ok (.rt (.new d)) δ := rfl
@[simp] theorem retV_own (kp i : Nat) : retV kp (.own i) δ = (match δ[i]? with
    | some (.im d) => .ok (.rt (.dat d)) δ
    | some (.ow o) => if kp ≤ i then .ok (.rt (.new o)) δ else .no
    | _ => .no) := rfl
@[simp] theorem ex_pass  : ex C .pass δ = .ok .nx δ := rfl
def kSet (C : Cfg) (i : Nat) (r : R Val) : R Fl := r.bind fun v δ => setV C.kp i v δ
@[simp] theorem kSet_ok (C : Cfg) (i : Nat) (v : Val) (δ : Env) : kSet C i (.ok v δ) = setV C.kp i v δ := rfl
@[simp] theorem ex_set (i : Nat) (e : CE) : ex C (.set (.name i) e) δ = kSet C i (ev C e δ) := rfl
def kSetT3 (r : R Env) : R Fl := r.bind fun δ3 _ => .ok .nx δ3
@[simp] theorem kSetT3_ok (δ3 δ : Env) : kSetT3 (.ok δ3 δ) = .ok .nx δ3 := rfl
def kSetT2 (C : Cfg) (is : List Nat) (r : R D) : R Fl := r.bind fun d δ => kSetT3 (optR δ (bindT C.kp (.tup is) d δ))
@[simp] theorem kSetT2_ok (C : Cfg) (is : List Nat) (d : D) (δ : Env) : kSetT2 C is (.ok d δ) = kSetT3 (optR δ (bindT C.kp (.tup is) d δ)) := rfl
def kSetT1 (C : Cfg) (is : List Nat) (r : R Val) : R Fl := r.bind fun v δ => kSetT2 C is (dem C.kp v δ)
@[simp] theorem kSetT1_ok (C : Cfg) (is : List Nat) (v : Val) (δ : Env) : kSetT1 C is (.ok v δ) = kSetT2 C is (dem C.kp v δ) := rfl
@[simp] theorem ex_setT (is : List Nat) (e : CE) : ex C (.set (.tup is) e) δ = kSetT1 C is (ev C e δ) := rfl
def kSetI4 (C : Cfg) (i : Nat) (d : D) (r : R Int) : R Fl := r.bind fun n δ => setIR i d n δ
@[simp] theorem kSetI4_ok (C : Cfg) (i : Nat) (d : D) (n : Int) (δ : Env) : kSetI4 C i d (.ok n δ) = setIR i d n δ := rfl
def kSetI3 (C : Cfg) (i : Nat) (d : D) (r : R Val) : R Fl := r.bind fun k δ => kSetI4 C i d (op1 intD k δ)
@[simp] theorem kSetI3_ok (C : Cfg) (i : Nat) (d : D) (k : Val) (δ : Env) : kSetI3 C i d (.ok k δ) = kSetI4 C i d (op1 intD k δ) := rfl
def kSetI2 (C : Cfg) (i : Nat) (e1 : CE) (r : R D) : R Fl := r.bind fun d δ => (match δ[i]? with
    | some (.ow (.lst _)) => kSetI3 C i d (ev C e1 δ)
    | _ => .no)
@[simp] theorem kSetI2_ok (C : Cfg) (i : Nat) (e1 : CE) (d : D) (δ : Env) : kSetI2 C i e1 (.ok d δ) = (match δ[i]? with
    | some (.ow (.lst _)) => kSetI3 C i d (ev C e1 δ)
    | _ => .no) := rfl
def kSetI1 (C : Cfg) (i : Nat) (e1 : CE) (r : R Val) : R Fl := r.bind fun v δ => kSetI2 C i e1 (dem C.kp v δ)
@[simp] theorem kSetI1_ok (C : Cfg) (i : Nat) (e1 : CE) (v : Val) (δ : Env) : kSetI1 C i e1 (.ok v δ) = kSetI2 C i e1 (dem C.kp v δ) := rfl
@[simp] theorem ex_setI (i : Nat) (e1 e2 : CE) : ex C (.setI i e1 e2) δ = kSetI1 C i e1 (ev C e2 δ) := rfl
def kExp (C : Cfg)  (r : R Val) : R Fl := r.bind fun v δ => .ok .nx δ
@[simp] theorem kExp_ok (C : Cfg)  (v : Val) (δ : Env) : kExp C  (.ok v δ) = .ok .nx δ := rfl
@[simp] theorem ex_exp (e : CE) : ex C (.exp e) δ = kExp C (ev C e δ) := rfl
def kRet (C : Cfg)  (r : R Val) : R Fl := r.bind fun v δ => retV C.kp v δ
@[simp] theorem kRet_ok (C : Cfg)  (v : Val) (δ : Env) : kRet C  (.ok v δ) = retV C.kp v δ := rfl
@[simp] theorem ex_ret (e : CE) : ex C (.ret e) δ = kRet C (ev C e δ) := rfl
@[simp] theorem ex_retN  : ex C .retN δ = .ok (.rt (.dat .none)) δ := rfl
def kCond (C : Cfg) (a b : CB) (r : R Bool) : R Fl := r.bind fun k δ1 => if k = true then exs C a δ1 else exs C b δ1
@[simp] theorem kCond_true (C : Cfg) (a b : CB) (δ : Env) : kCond C a b (.ok true δ) = exs C a δ := rfl
@[simp] theorem kCond_false (C : Cfg) (a b : CB) (δ : Env) : kCond C a b (.ok false δ) = exs C b δ := rfl
@[simp] theorem ex_cond (c : CT) (a b : CB) : ex C (.cond c a b) δ = kCond C a b (evT C c δ) := rfl
@[simp] theorem ex_wh (c : CT) (a : CB) : ex C (.wh c a) δ = whGo (evT C c) (exs C a) fuel δ := rfl
def kLoop (C : Cfg) (g : Tg) (a : CB) (r : R (List D)) : R Fl := r.bind fun ds δ => forGo C.kp g (exs C a) ds δ
@[simp] theorem kLoop_ok (C : Cfg) (g : Tg) (a : CB) (ds : (List D)) (δ : Env) : kLoop C g a (.ok ds δ) = forGo C.kp g (exs C a) ds δ := rfl
@[simp] theorem ex_loop (g : Tg) (it : CI) (a : CB) : ex C (.loop g it a) δ = kLoop C g a (evI C it δ) := rfl
@[simp] theorem ex_brk  : ex C .brk δ = .ok .bk δ := rfl
@[simp] theorem ex_cont  : ex C .cont δ = .ok .ct δ := rfl
@[simp] theorem exs_nil  : exs C .nil δ = .ok .nx δ := rfl
def kSeq (C : Cfg) (b : CB) (r : R Fl) : R Fl := r.bind fun f δ1 => match f with
    | .nx => exs C b δ1
    | f => .ok f δ1
@[simp] theorem kSeq_nx (C : Cfg) (b : CB) (δ : Env) : kSeq C b (.ok .nx δ) = exs C b δ := rfl
@[simp] theorem kSeq_rt (C : Cfg) (b : CB) (v : RV) (δ : Env) : kSeq C b (.ok (.rt v) δ) = .ok (.rt v) δ := rfl
@[simp] theorem kSeq_bk (C : Cfg) (b : CB) (δ : Env) : kSeq C b (.ok .bk δ) = .ok .bk δ := rfl
@[simp] theorem kSeq_ct (C : Cfg) (b : CB) (δ : Env) : kSeq C b (.ok .ct δ) = .ok .ct δ := rfl
@[simp] theorem exs_cons (s : CS) (b : CB) : exs C (.cons s b) δ = kSeq C b (ex C s δ) := rfl
@[simp] theorem backE_ow (o : Ow) (s : Slot) (a b : Env) : backE (.ow o :: a) (s :: b) = s :: backE a b := rfl
@[simp] theorem backE_im (o : D) (s : Slot) (a b : Env) : backE (.im o :: a) (s :: b) = .im o :: backE a b := rfl
@[simp] theorem backE_nil (b : Env) : backE [] b = [] := by cases b <;> rfl
/-- a def's answer from its body's -/
def outR (δ : Env) : R Fl → CR
  | .ok .nx δ' => .ret (.dat .none) (backE δ δ')
  | .ok (.rt v) δ' => .ret v (backE δ δ')
  | .ok _ _ => .no
  | .ex c fs δ' => .ex c fs (backE δ δ')
  | .no => .no
@[simp] theorem outR_nx (δ' : Env) : outR δ (.ok .nx δ') = .ret (.dat .none) (backE δ δ') := rfl
@[simp] theorem outR_rt (v : RV) (δ' : Env) : outR δ (.ok (.rt v) δ') = .ret v (backE δ δ') := rfl
theorem tbl_succ {ds : List Def} {n f : Nat} {d : Def} (hd : ds[f]? = some d) (hl : δ.length = d.kp) : tbl ds (n + 1) f δ = outR δ (exs ⟨d.kp, tbl ds n⟩ d.body (δ ++ List.replicate (d.ns - d.kp) .un)) := by
  simp only [tbl, hd]
  unfold runDef
  rw [if_pos hl]
  cases exs ⟨d.kp, tbl ds n⟩ d.body (δ ++ List.replicate (d.ns - d.kp) .un) with
  | ok f δ' => cases f <;> rfl
  | ex _ _ _ => rfl
  | no => rfl
end
end IL
end
section
set_option Elab.async false
set_option linter.all false
set_option autoImplicit false
set_option maxHeartbeats 1000000
/-! J0L: loops and comprehensions of the small language; rows of ints; keys. -/
namespace IL
open PySem
@[simp] theorem wipeE_nil (δ : Env) : wipeE δ [] = δ := rfl
@[simp] theorem wipeE_cons (δ : Env) (v : Nat) (vs : List Nat) : wipeE δ (v :: vs) = (wipeE δ vs).set v .un := rfl
theorem size_val : sizeLine = 16777216 := Eq.trans rfl (Eq.refl 16777216)
/-- two rows, item by item -/
inductive All2 {α β : Type} (P : α → β → Prop) : List α → List β → Prop where
  | nil : All2 P [] []
  | cons {a : α} {b : β} {as : List α} {bs : List β} (h : P a b) (t : All2 P as bs) : All2 P (a :: as) (b :: bs)
theorem All2.length {α β : Type} {P : α → β → Prop} {as : List α} {bs : List β} (h : All2 P as bs) : bs.length = as.length := by
  induction h with
  | nil => rfl
  | cons h t ih => simp [ih]
theorem All2.right {α β : Type} {P : α → β → Prop} {as : List α} {bs : List β} (h : All2 P as bs) : ∀ b ∈ bs, ∃ a ∈ as, P a b := by
  induction h with
  | nil => simp
  | cons h t ih =>
    intro b hb
    cases List.mem_cons.mp hb with
    | inl e => exact ⟨_, List.mem_cons_self, e ▸ h⟩
    | inr m => exact (ih b m).elim fun a q => ⟨a, List.mem_cons_of_mem _ q.1, q.2⟩
theorem All2.snd {α β : Type} {f : β → α} {as : List α} {bs : List β} (h : All2 (fun a b => f b = a) as bs) : bs.map f = as := by
  induction h with
  | nil => rfl
  | cons h t ih => simp [ih, h]
section
variable {kp : Nat} {g : Tg}
/-! ### comprehensions -/
def kLs2 (vs : List Nat) (r : R D) : R (List D) := r.bind fun y δ => .ok [y] (wipeE δ vs)
@[simp] theorem kLs2_ok (vs : List Nat) (y : D) (δ : Env) : kLs2 vs (.ok y δ) = .ok [y] (wipeE δ vs) := rfl
def kLs1 (e : Env → R D) (vs : List Nat) (r : R Bool) : R (List D) := r.bind fun b δ => if b = true then kLs2 vs (e δ) else .ok [] (wipeE δ vs)
@[simp] theorem kLs1_true (e : Env → R D) (vs : List Nat) (δ : Env) : kLs1 e vs (.ok true δ) = kLs2 vs (e δ) := rfl
@[simp] theorem kLs1_false (e : Env → R D) (vs : List Nat) (δ : Env) : kLs1 e vs (.ok false δ) = .ok [] (wipeE δ vs) := rfl
/-- one turn of a comprehension -/
def lcStep (kp : Nat) (g : Tg) (c : Env → R Bool) (e : Env → R D) (vs : List Nat) (d : D) (δ : Env) : R (List D) := match bindT kp g d δ with
  | none => .no
  | some δ1 => kLs1 e vs (c δ1)
@[simp] theorem lcStep_name (i : Nat) (c : Env → R Bool) (e : Env → R D) (vs : List Nat) (d : D) (δ : Env) : lcStep kp (.name i) c e vs d δ = if freeB kp δ i = true then kLs1 e vs (c (δ.set i (.im d))) else .no := by
  unfold lcStep
  rw [bindT_name]
  by_cases h : freeB kp δ i = true
  · rw [if_pos h, if_pos h]
  · rw [if_neg h, if_neg h]
variable {c : Env → R Bool} {e : Env → R D} {vs : List Nat}
theorem lcGo_one (d : D) (ds acc : List D) (δ δ' : Env) (y : D) (h : lcStep kp g c e vs d δ = .ok [y] δ') (hs : acc.length < sizeLine) : lcGo kp g c e vs (d :: ds) acc δ = lcGo kp g c e vs ds (acc ++ [y]) δ' := by
  unfold lcStep at h
  rw [lcGo]
  cases hb : bindT kp g d δ with
  | none =>
    rw [hb] at h
    cases h
  | some δ1 =>
    rw [hb] at h
    simp only at h ⊢
    cases hc : c δ1 with
    | no => rw [hc] at h; cases h
    | ex _ _ _ => rw [hc] at h; cases h
    | ok b δ2 =>
      rw [hc] at h
      rw [bind_ok]
      cases b with
      | false => simp at h
      | true =>
        rw [kLs1_true] at h
        rw [if_pos rfl]
        cases he : e δ2 with
        | no => rw [he] at h; cases h
        | ex _ _ _ => rw [he] at h; cases h
        | ok y' δ3 =>
          rw [he, kLs2_ok] at h
          injection h with h1 h2
          injection h1 with h1
          rw [bind_ok, if_pos hs, h1, h2]
theorem lcGo_none (d : D) (ds acc : List D) (δ δ' : Env) (h : lcStep kp g c e vs d δ = .ok [] δ') : lcGo kp g c e vs (d :: ds) acc δ = lcGo kp g c e vs ds acc δ' := by
  unfold lcStep at h
  rw [lcGo]
  cases hb : bindT kp g d δ with
  | none =>
    rw [hb] at h
    cases h
  | some δ1 =>
    rw [hb] at h
    simp only at h ⊢
    cases hc : c δ1 with
    | no => rw [hc] at h; cases h
    | ex _ _ _ => rw [hc] at h; cases h
    | ok b δ2 =>
      rw [hc] at h
      rw [bind_ok]
      cases b with
      | false =>
        rw [kLs1_false] at h
        injection h with h1 h2
        rw [if_neg (by decide), h2]
      | true =>
        rw [kLs1_true] at h
        cases he : e δ2 with
        | no => rw [he] at h; cases h
        | ex _ _ _ => rw [he] at h; cases h
        | ok y' δ3 =>
          rw [he, kLs2_ok] at h
          injection h with h1 h2
          cases h1
theorem lcGo_filter {α : Type} (H F : α → D) (p : α → Bool) (δ : Env) : ∀ (as : List α) (acc : List D), (∀ a ∈ as, lcStep kp g c e vs (H a) δ = .ok (if p a = true then [F a] else []) δ) → acc.length + as.length ≤ sizeLine →
    lcGo kp g c e vs (as.map H) acc δ = .ok (acc ++ (as.filter p).map F) δ
  | [], acc, _, _ => by simp [lcGo]
  | a :: as, acc, h, hs => by
    have ha := h a List.mem_cons_self
    rw [List.length_cons] at hs
    rw [List.map_cons]
    by_cases hp : p a = true
    · rw [if_pos hp] at ha
      rw [lcGo_one _ _ _ _ _ _ ha (by omega), lcGo_filter H F p δ as _ (fun b hb => h b (List.mem_cons_of_mem _ hb)) (by rw [List.length_append]; simp; omega), List.filter_cons_of_pos hp]
      simp
    · rw [if_neg hp] at ha
      rw [lcGo_none _ _ _ _ _ ha, lcGo_filter H F p δ as _ (fun b hb => h b (List.mem_cons_of_mem _ hb)) (by omega), List.filter_cons_of_neg hp]
theorem lcGo_map {α : Type} (H F : α → D) (δ : Env) (as : List α) (acc : List D) (h : ∀ a ∈ as, lcStep kp g c e vs (H a) δ = .ok [F a] δ) (hs : acc.length + as.length ≤ sizeLine) :
    lcGo kp g c e vs (as.map H) acc δ = .ok (acc ++ as.map F) δ := by
  rw [lcGo_filter H F (fun _ => true) δ as acc (fun a ha => by rw [h a ha]; rfl) hs, List.filter_eq_self.mpr (fun _ _ => rfl)]
theorem lcGo_rel {α β σ : Type} (H : α → D) (F : β → D) (E : σ → Env) (P : α → β → Prop) : ∀ (as : List α) (acc : List D) (s : σ), (∀ a ∈ as, ∀ s, ∃ b s', lcStep kp g c e vs (H a) (E s) = .ok [F b] (E s') ∧ P a b) → acc.length + as.length ≤ sizeLine →
    ∃ bs s', lcGo kp g c e vs (as.map H) acc (E s) = .ok (acc ++ bs.map F) (E s') ∧ All2 P as bs
  | [], acc, s, _, _ => ⟨[], s, by simp [lcGo], .nil⟩
  | a :: as, acc, s, h, hs => by
    obtain ⟨b, s1, h1, p1⟩ := h a List.mem_cons_self s
    rw [List.length_cons] at hs
    obtain ⟨bs, s2, h2, p2⟩ := lcGo_rel H F E P as (acc ++ [F b]) s1 (fun b hb => h b (List.mem_cons_of_mem _ hb)) (by rw [List.length_append]; simp; omega)
    refine ⟨b :: bs, s2, ?_, .cons p1 p2⟩
    rw [List.map_cons, lcGo_one _ _ _ _ _ _ h1 (by omega), h2]
    simp
theorem lcGo_ints (F : Int → Int) (δ : Env) (ns : List Int) (h : ∀ a ∈ ns, lcStep kp g c e vs (.int a) δ = .ok [.int (F a)] δ) (hs : ns.length ≤ 16777216) :
    lcGo kp g c e vs (intsD ns) [] δ = .ok (intsD (ns.map F)) δ := by
  have := lcGo_map PyData.int (fun a => .int (F a)) δ ns [] h (by show 0 + _ ≤ 16777216; omega)
  refine this.trans ?_
  simp [intsD, List.map_map]
theorem lcGo_bools {α : Type} (H : α → D) (F : α → Bool) (δ : Env) (ns : List α) (h : ∀ a ∈ ns, lcStep kp g c e vs (H a) δ = .ok [.bool (F a)] δ) (hs : ns.length ≤ 16777216) :
    lcGo kp g c e vs (ns.map H) [] δ = .ok (boolsD (ns.map F)) δ := by
  have := lcGo_map H (fun a => .bool (F a)) δ ns [] h (by show 0 + _ ≤ 16777216; omega)
  refine this.trans ?_
  simp [boolsD, List.map_map]
theorem lcGo_ibools (F : Int → Bool) (δ : Env) (ns : List Int) (h : ∀ a ∈ ns, lcStep kp g c e vs (.int a) δ = .ok [.bool (F a)] δ) (hs : ns.length ≤ 16777216) :
    lcGo kp g c e vs (intsD ns) [] δ = .ok (boolsD (ns.map F)) δ := lcGo_bools PyData.int F δ ns h hs
/-! ### loops -/
/-- one turn of a for -/
def forStep (kp : Nat) (g : Tg) (b : Env → R Fl) (d : D) (δ : Env) : R Fl := match bindT kp g d δ with
  | none => .no
  | some δ1 => b δ1
@[simp] theorem forStep_name (i : Nat) (b : Env → R Fl) (d : D) (δ : Env) : forStep kp (.name i) b d δ = if freeB kp δ i = true then b (δ.set i (.im d)) else .no := by
  unfold forStep
  rw [bindT_name]
  by_cases h : freeB kp δ i = true
  · rw [if_pos h, if_pos h]
  · rw [if_neg h, if_neg h]
variable {b : Env → R Fl}
theorem forGo_nx (d : D) (ds : List D) (δ δ' : Env) (h : forStep kp g b d δ = .ok .nx δ' ∨ forStep kp g b d δ = .ok .ct δ') : forGo kp g b (d :: ds) δ = forGo kp g b ds δ' := by
  unfold forStep at h
  rw [forGo]
  cases hb : bindT kp g d δ with
  | none =>
    rw [hb] at h
    cases h with
    | inl h => cases h
    | inr h => cases h
  | some δ1 =>
    rw [hb] at h
    simp only at h ⊢
    cases h with
    | inl h => rw [h, bind_ok]
    | inr h => rw [h, bind_ok]
theorem forGo_rt (d : D) (ds : List D) (δ δ' : Env) (v : RV) (h : forStep kp g b d δ = .ok (.rt v) δ') : forGo kp g b (d :: ds) δ = .ok (.rt v) δ' := by
  unfold forStep at h
  rw [forGo]
  cases hb : bindT kp g d δ with
  | none =>
    rw [hb] at h
    cases h
  | some δ1 =>
    rw [hb] at h
    simp only at h ⊢
    rw [h, bind_ok]
theorem forGo_rel {α : Type} (H : α → D) (I : List α → Env → Prop) (Q : RV → Env → Prop) (hstep : ∀ a as δ, I (a :: as) δ → (∃ δ', (forStep kp g b (H a) δ = .ok .nx δ' ∨ forStep kp g b (H a) δ = .ok .ct δ') ∧ I as δ') ∨ (∃ v δ', forStep kp g b (H a) δ = .ok (.rt v) δ' ∧ Q v δ')) :
    ∀ (as : List α) (δ : Env), I as δ → (∃ δ', forGo kp g b (as.map H) δ = .ok .nx δ' ∧ I [] δ') ∨ (∃ v δ', forGo kp g b (as.map H) δ = .ok (.rt v) δ' ∧ Q v δ')
  | [], δ, i => .inl ⟨δ, rfl, i⟩
  | a :: as, δ, i => by
    rw [List.map_cons]
    rcases hstep a as δ i with ⟨δ', h, i'⟩ | ⟨v, δ', h, q⟩
    · rw [forGo_nx _ _ _ _ h]
      exact forGo_rel H I Q hstep as δ' i'
    · exact .inr ⟨v, δ', forGo_rt _ _ _ _ _ h, q⟩
theorem forGo_all {α : Type} (H : α → D) (I : List α → Env → Prop) (hstep : ∀ a as δ, I (a :: as) δ → ∃ δ', (forStep kp g b (H a) δ = .ok .nx δ' ∨ forStep kp g b (H a) δ = .ok .ct δ') ∧ I as δ') (as : List α) (δ : Env) (i : I as δ) : ∃ δ', forGo kp g b (as.map H) δ = .ok .nx δ' ∧ I [] δ' := by
  rcases forGo_rel (kp := kp) (g := g) (b := b) H I (fun _ _ => False) (fun a as δ i => .inl (hstep a as δ i)) as δ i with h | ⟨v, δ', h, q⟩
  · exact h
  · exact q.elim
theorem forGo_alls {α : Type} (H : α → D) (I : List α → Env → Prop) {as : List α} {δ : Env} {X : R Fl} (hX : forGo kp g b (as.map H) δ = X) (i : I as δ) (hstep : ∀ a as δ, I (a :: as) δ → ∃ δ', (forStep kp g b (H a) δ = .ok .nx δ' ∨ forStep kp g b (H a) δ = .ok .ct δ') ∧ I as δ') : ∃ δ', X = .ok .nx δ' ∧ I [] δ' := hX ▸ forGo_all H I hstep as δ i
theorem forGo_rels {α : Type} (H : α → D) (I : List α → Env → Prop) (Q : RV → Env → Prop) {as : List α} {δ : Env} {X : R Fl} (hX : forGo kp g b (as.map H) δ = X) (i : I as δ) (hstep : ∀ a as δ, I (a :: as) δ → (∃ δ', (forStep kp g b (H a) δ = .ok .nx δ' ∨ forStep kp g b (H a) δ = .ok .ct δ') ∧ I as δ') ∨ (∃ v δ', forStep kp g b (H a) δ = .ok (.rt v) δ' ∧ Q v δ')) : (∃ δ', X = .ok .nx δ' ∧ I [] δ') ∨ (∃ v δ', X = .ok (.rt v) δ' ∧ Q v δ') := hX ▸ forGo_rel H I Q hstep as δ i
theorem whGo_rel (t : Env → R Bool) (b : Env → R Fl) (I : Nat → Env → Prop) (P : Env → Prop)
    (hstep : ∀ m δ, I m δ → (∃ δ', t δ = .ok false δ' ∧ P δ') ∨ (∃ δ1 δ2, t δ = .ok true δ1 ∧ (b δ1 = .ok .nx δ2 ∨ b δ1 = .ok .ct δ2) ∧ ∃ m', m' < m ∧ I m' δ2)) :
    ∀ (n m : Nat) (δ : Env), I m δ → m < n → ∃ δ', whGo t b n δ = .ok .nx δ' ∧ P δ'
  | 0, m, _, _, h => absurd h (Nat.not_lt_zero m)
  | n + 1, m, δ, i, h => by
    rcases hstep m δ i with ⟨δ', e, p⟩ | ⟨δ1, δ2, e, eb, m', hm, i'⟩
    · refine ⟨δ', ?_, p⟩
      rw [whGo, e, bind_ok, if_neg (by decide)]
    · obtain ⟨δ', e2, p⟩ := whGo_rel t b I P hstep n m' δ2 i' (by omega)
      refine ⟨δ', ?_, p⟩
      rw [whGo, e, bind_ok, if_pos rfl]
      rcases eb with eb | eb
      · rw [eb, bind_ok]
        exact e2
      · rw [eb, bind_ok]
        exact e2
theorem whGo_rels {t : Env → R Bool} {b : Env → R Fl} (I : Nat → Env → Prop) (P : Env → Prop) {δ : Env} {X : R Fl} (m : Nat) (hX : whGo t b fuel δ = X) (i : I m δ) (hm : m < 10 ^ 30)
    (hstep : ∀ m δ, I m δ → (∃ δ', t δ = .ok false δ' ∧ P δ') ∨ (∃ δ1 δ2, t δ = .ok true δ1 ∧ (b δ1 = .ok .nx δ2 ∨ b δ1 = .ok .ct δ2) ∧ ∃ m', m' < m ∧ I m' δ2)) : ∃ δ', X = .ok .nx δ' ∧ P δ' := hX ▸ whGo_rel t b I P hstep fuel m δ i (by rw [fuel_eq]; exact hm)
end
/-! ### rows of ints -/
@[simp] theorem intsD_nil : intsD [] = [] := rfl
@[simp] theorem intsD_cons (n : Int) (ns : List Int) : intsD (n :: ns) = .int n :: intsD ns := rfl
@[simp] theorem intsD_app (ns ms : List Int) : intsD (ns ++ ms) = intsD ns ++ intsD ms := by simp [intsD]
@[simp] theorem intsD_len (ns : List Int) : (intsD ns).length = ns.length := List.length_map _
@[simp] theorem plainAll_ints : ∀ ns : List Int, PyData.plainAll (intsD ns) = true
  | [] => by simp [PyData.plainAll]
  | n :: ns => by
    show PyData.plainAll (.int n :: intsD ns) = true
    rw [PyData.plainAll, plainAll_ints ns]
    rfl
@[simp] theorem depthAll_ints (ns : List Int) : PyData.depthAll (intsD ns) = 0 := PySem.W.depth_ints ns
@[simp] theorem plain_tuple (ds : List D) : PyData.plain (.tuple ds) = PyData.plainAll ds := by rw [PyData.plain]
@[simp] theorem plain_list (ds : List D) : PyData.plain (.list ds) = PyData.plainAll ds := by rw [PyData.plain]
@[simp] theorem plain_none : PyData.plain .none = true := by rw [PyData.plain]
@[simp] theorem plain_bool (b : Bool) : PyData.plain (.bool b) = true := by rw [PyData.plain]
@[simp] theorem plain_str (b : Str) : PyData.plain (.str b) = true := by rw [PyData.plain]
@[simp] theorem plainAll_nil : PyData.plainAll [] = true := by rw [PyData.plainAll]
@[simp] theorem plainAll_cons (d : D) (ds : List D) : PyData.plainAll (d :: ds) = (d.plain && PyData.plainAll ds) := by rw [PyData.plainAll]
@[simp] theorem depth_tuple (ds : List D) : PyData.depth (.tuple ds) = PyData.depthAll ds + 1 := by rw [PyData.depth]
@[simp] theorem depth_list (ds : List D) : PyData.depth (.list ds) = PyData.depthAll ds + 1 := by rw [PyData.depth]
@[simp] theorem depth_int (i : Int) : PyData.depth (.int i) = 0 := by rw [PyData.depth]
@[simp] theorem depth_none : PyData.depth .none = 0 := by rw [PyData.depth]
@[simp] theorem depth_bool (b : Bool) : PyData.depth (.bool b) = 0 := by rw [PyData.depth]
@[simp] theorem depth_str (b : Str) : PyData.depth (.str b) = 0 := by rw [PyData.depth]
@[simp] theorem depthAll_nil : PyData.depthAll [] = 0 := by rw [PyData.depthAll]
@[simp] theorem depthAll_cons (d : D) (ds : List D) : PyData.depthAll (d :: ds) = max d.depth (PyData.depthAll ds) := by rw [PyData.depthAll]
theorem plainAll_map {α : Type} (H : α → D) (h : ∀ a, (H a).plain = true) : ∀ as : List α, PyData.plainAll (as.map H) = true
  | [] => by simp
  | a :: as => by simp [h a, plainAll_map H h as]
theorem depthAll_map {α : Type} (H : α → D) (n : Nat) (h : ∀ a, (H a).depth ≤ n) : ∀ as : List α, PyData.depthAll (as.map H) ≤ n
  | [] => by simp
  | a :: as => by
    have := depthAll_map H n h as
    have := h a
    rw [List.map_cons, depthAll_cons]
    omega
@[simp] theorem mem_ints (p : Int) (ns : List Int) : mem (.int p) (intsD ns) = decide (p ∈ ns) := by
  unfold mem intsD
  rw [List.any_map]
  induction ns with
  | nil => simp
  | cons n ns ih =>
    rw [List.any_cons, ih]
    simp
    by_cases h : n = p
    · simp [h]
    · have h' : ¬ p = n := fun q => h q.symm
      simp [h, h']
@[simp] theorem memOk_ints (p : Int) (ns : List Int) : memOk (.int p) (intsD ns) = true := by simp [memOk]
theorem eqv_self (d : D) (h : d.plain = true) : PyData.eqv d d = true := PySem.SeqAt.eqv_refl_plain d h
@[simp] theorem eqvAll_nil : PyData.eqvAll [] [] = true := by rw [PyData.eqvAll]
@[simp] theorem eqvAll_cons (x y : D) (xs ys : List D) : PyData.eqvAll (x :: xs) (y :: ys) = (PyData.eqv x y && PyData.eqvAll xs ys) := by rw [PyData.eqvAll]
@[simp] theorem eqvAll_nc (x : D) (xs : List D) : PyData.eqvAll [] (x :: xs) = false := by simp [PyData.eqvAll]
@[simp] theorem eqvAll_cn (x : D) (xs : List D) : PyData.eqvAll (x :: xs) [] = false := by simp [PyData.eqvAll]
@[simp] theorem eqv_list (x y : List D) : PyData.eqv (.list x) (.list y) = PyData.eqvAll x y := by rw [PyData.eqv]
@[simp] theorem eqv_tuple (x y : List D) : PyData.eqv (.tuple x) (.tuple y) = PyData.eqvAll x y := by rw [PyData.eqv]
@[simp] theorem intD_rngD (n : Nat) : rngD 0 n = intsD ((List.range n).map fun (i : Nat) => (i : Int)) := by
  unfold rngD intsD
  rw [List.map_map]
  apply List.map_congr_left
  intro a _
  simp
theorem natAbs_mod (x m : Int) (h0 : 0 < m) (h : m.natAbs < 2 ^ 64) : (x % m).natAbs < 18446744073709551616 := by
  have := Int.emod_nonneg x (by omega : m ≠ 0)
  have := Int.emod_lt_of_pos x h0
  omega
theorem argBest_le (bt : Nat → Nat → Bool) : ∀ k, argBest bt k ≤ k
  | 0 => Nat.le_refl _
  | k + 1 => by
    rw [argBest]
    have := argBest_le bt k
    by_cases h : bt (k + 1) (argBest bt k) = true
    · rw [if_pos h]
      exact Nat.le_refl _
    · rw [if_neg h]
      omega
/-- the least of rows: none of no rows, else one of them -/
theorem minLen_rows (ds : List D) (h : rowsD ds = true) : (ds = [] ∧ fn .minLen [.list ds] = some (.dat .none)) ∨ (∃ d ∈ ds, fn .minLen [.list ds] = some (.dat d)) := by
  cases ds with
  | nil => exact .inl ⟨rfl, by simp [fn, rowsD]⟩
  | cons d ds =>
    refine .inr ⟨(d :: ds)[minLenAt (d :: ds)]'?_, ?_, ?_⟩
    · have := argBest_le (fun i j => decide ((lenD ((d :: ds).getD i .none) : Int) < (lenD ((d :: ds).getD j .none) : Int))) ((d :: ds).length - 1)
      unfold minLenAt
      simp only [List.length_cons] at this ⊢
      omega
    · exact List.getElem_mem _
    · show (if rowsD (d :: ds) = true then _ else _) = _
      rw [if_pos h]
      show ((d :: ds)[minLenAt (d :: ds)]?).map _ = _
      rw [List.getElem?_eq_getElem]
      rfl
@[simp high] theorem pop_snoc (xs : List D) (x : D) : mtop .pop (xs ++ [x]) [] = some (x, xs) := by
  rw [pop_eq]
  simp
@[simp] theorem eqvAll_snoc (xs : List D) (x : D) : PyData.eqvAll (xs ++ [x]) [] = false := by
  cases xs <;> simp
theorem plainAll_app (xs ys : List D) : PyData.plainAll (xs ++ ys) = (PyData.plainAll xs && PyData.plainAll ys) := by
  induction xs with
  | nil => simp
  | cons x xs ih => simp [ih, Bool.and_assoc]
@[simp] theorem plain2_nil (xs : List D) : plain2 (.list xs) (.list []) = PyData.plainAll xs := by
  unfold plain2
  have : min (PyData.depth (.list xs)) (PyData.depth (.list [])) ≤ 60 := by simp
  simp [this]
@[simp] theorem plain2_tnil (xs : List D) : plain2 (.tuple xs) (.tuple []) = PyData.plainAll xs := by
  unfold plain2
  have : min (PyData.depth (.tuple xs)) (PyData.depth (.tuple [])) ≤ 60 := by simp
  simp [this]
/-! ### a row, as a list or a tuple -/
def seqD (b : Bool) (ds : List D) : D := if b = true then .tuple ds else .list ds
@[simp] theorem seqD_items (b : Bool) (ds : List D) : itemsD (seqD b ds) = some ds := by cases b <;> rfl
@[simp] theorem seqD_idx (b : Bool) (ds : List D) (i : Int) : idxop (seqD b ds) (.int i) = L2.atI ds i := by cases b <;> rfl
@[simp] theorem seqD_tuple (b : Bool) (ds : List D) : fn .tuple [seqD b ds] = some (.dat (.tuple ds)) := by cases b <;> rfl
@[simp] theorem seqD_list (b : Bool) (ds : List D) : fn .list [seqD b ds] = some (.new (.lst ds)) := by cases b <;> rfl
@[simp] theorem seqD_sset (b : Bool) (ns : List Int) (h : ns.length < 60) : fn .sortedSet [seqD b (intsD ns)] = some (.new (.lst (intsD (sortI (uniqI ns))))) := by
  cases b
  · exact fn_sset_list ns h
  · exact fn_sset_tuple ns h
@[simp] theorem seqD_plain (b : Bool) (ds : List D) : (seqD b ds).plain = PyData.plainAll ds := by cases b <;> simp [seqD]
@[simp] theorem seqD_depth (b : Bool) (ds : List D) : (seqD b ds).depth = PyData.depthAll ds + 1 := by cases b <;> simp [seqD]
@[simp] theorem seqD_notNone (b : Bool) (ds : List D) : isNoneD (seqD b ds) = false := by cases b <;> rfl
theorem rowsD_map {α : Type} (H : α → D) (h : ∀ a, ∃ b ds, H a = seqD b ds) : ∀ as : List α, rowsD (as.map H) = true
  | [] => rfl
  | a :: as => by
    obtain ⟨b, ds, e⟩ := h a
    rw [List.map_cons, e]
    cases b
    · exact rowsD_map H h as
    · exact rowsD_map H h as
@[simp] theorem size_simp : sizeLine = 16777216 := size_val
end IL
end
section
set_option Elab.async false
set_option linter.all false
set_option autoImplicit false
set_option maxHeartbeats 1000000
/-! M1: least hitting tuples, in plain words. -/
namespace K38
open PySem
open IL (sortI uniqI intsD)
def Asc (n : Nat) (t : List Int) : Prop := t.Pairwise (· < ·) ∧ ∀ p ∈ t, 0 ≤ p ∧ p < n
def Hits (rows : List (List Int)) (t : List Int) : Prop := ∀ r ∈ rows, ∃ p ∈ r, p ∈ t
def wt (w : List Int) (p : Int) : Int := w.getD p.toNat 0
def wsum (w t : List Int) : Int := (t.map (wt w)).sum
def kLt (w t u : List Int) : Prop := wsum w t < wsum w u ∨ (wsum w t = wsum w u ∧ (t.length < u.length ∨ (t.length = u.length ∧ t < u)))
instance (w t u : List Int) : Decidable (kLt w t u) := by
  unfold kLt
  infer_instance
def kLe (w t u : List Int) : Prop := ¬ kLt w u t
theorem kLe_iff (w t u : List Int) : kLe w t u ↔ (wsum w t < wsum w u ∨ (wsum w t = wsum w u ∧ (t.length < u.length ∨ (t.length = u.length ∧ t ≤ u)))) := by
  unfold kLe kLt
  have e : (t ≤ u) ↔ ¬ u < t := Iff.rfl
  rw [e]
  by_cases h : u < t
  · simp only [h, not_true_eq_false, and_true, and_false, or_false]
    constructor
    · intro q
      omega
    · intro q
      omega
  · simp only [h, not_false_eq_true, and_true, and_false, or_false]
    constructor
    · intro q
      omega
    · intro q
      omega
theorem kLe_refl (w t : List Int) : kLe w t t := (kLe_iff w t t).mpr (.inr ⟨rfl, .inr ⟨rfl, List.le_refl t⟩⟩)
theorem kLe_trans {w t u v : List Int} (h1 : kLe w t u) (h2 : kLe w u v) : kLe w t v := by
  rw [kLe_iff] at *
  by_cases hl : t ≤ u ∧ u ≤ v
  · have := List.le_trans hl.1 hl.2
    simp only [hl.1, and_true] at h1
    simp only [hl.2, and_true] at h2
    simp only [this, and_true]
    omega
  · by_cases a : t ≤ u
    · have b : ¬ u ≤ v := fun b => hl ⟨a, b⟩
      simp only [b, and_false, or_false] at h2
      omega
    · simp only [a, and_false, or_false] at h1
      omega
theorem kLe_antisymm {w t u : List Int} (h1 : kLe w t u) (h2 : kLe w u t) : t = u := by
  rw [kLe_iff] at *
  have a : t ≤ u := by
    by_cases a : t ≤ u
    · exact a
    · simp only [a, and_false, or_false] at h1
      omega
  have b : u ≤ t := by
    by_cases a : u ≤ t
    · exact a
    · simp only [a, and_false, or_false] at h2
      omega
  exact List.le_antisymm a b
theorem kLe_total (w t u : List Int) : kLe w t u ∨ kLe w u t := by
  rw [kLe_iff, kLe_iff]
  rcases List.le_total t u with h | h
  · simp only [h, and_true]
    omega
  · simp only [h, and_true]
    omega
def keyD (w t : List Int) : PyData := .tuple [.int (wsum w t), .int t.length, .tuple (intsD t)]
open PySem.W PySem.SeqAt PyProof.Rows in
theorem keyD_lt (w t u : List Int) : dataLt (keyD w t) (keyD w u) = decide (kLt w t u) := by
  unfold keyD
  rw [dataLt_tuple, dataLt_cons (by simp [alike]), dataLt_cons (by simp [alike]), dataLt_cons (by simp [alike]; exact alike_ints t u), dataLt_int, dataLt_int, IL.eqv_int, IL.eqv_int]
  have e : dataLt (.tuple (intsD t)) (.tuple (intsD u)) = decide (t < u) := by
    rw [dataLt_tuple]
    exact dataLt_ints t u
  rw [e]
  have e2 : PyProof.Rows.lexLt itemOrd (keyToksAll []) (keyToksAll []) = false := lex_irrefl _
  rw [e2]
  unfold kLt
  by_cases h1 : wsum w t = wsum w u
  · by_cases h2 : (t.length : Int) = u.length
    · have h2' : t.length = u.length := by omega
      simp only [h1, h2, decide_true, if_true, h2', Int.lt_irrefl, Nat.lt_irrefl, false_or, true_and]
      by_cases h3 : PyData.eqv (.tuple (intsD t)) (.tuple (intsD u)) = true
      · rw [if_pos h3]
        have h4 : t = u := by
          rw [IL.eqv_tuple] at h3
          clear h1 h2 h2' e e2
          induction t generalizing u with
          | nil =>
            cases u with
            | nil => rfl
            | cons b u => simp [intsD, PyData.eqvAll] at h3
          | cons a t ih =>
            cases u with
            | nil => simp [intsD, PyData.eqvAll] at h3
            | cons b u =>
              have h5 : PyData.eqvAll (.int a :: intsD t) (.int b :: intsD u) = true := h3
              rw [IL.eqvAll_cons, IL.eqv_int, Bool.and_eq_true, decide_eq_true_eq] at h5
              rw [h5.1, ih u h5.2]
        subst h4
        simp [List.lt_irrefl]
      · rw [if_neg h3]
    · have h2' : ¬ t.length = u.length := by omega
      simp [h1, h2, h2']
  · simp [h1]
theorem keyD_ord (w t u : List Int) : IL.orderd (keyD w t) (keyD w u) = true := by
  unfold keyD IL.orderd
  have := PySem.W.alike_ints t u
  simp [PySem.W.alike, PySem.W.alikeAll]
  exact this
/-! ### strictly ascending rows -/
theorem asc_ext : ∀ (s t : List Int), s.Pairwise (· < ·) → t.Pairwise (· < ·) → (∀ x, x ∈ s ↔ x ∈ t) → s = t
  | [], [], _, _, _ => rfl
  | [], b :: t, _, _, h => absurd ((h b).mpr List.mem_cons_self) (by simp)
  | a :: s, [], _, _, h => absurd ((h a).mp List.mem_cons_self) (by simp)
  | a :: s, b :: t, hs, ht, h => by
    rw [List.pairwise_cons] at hs ht
    have e : a = b := by
      rcases List.mem_cons.mp ((h a).mp List.mem_cons_self) with q | q
      · exact q
      · rcases List.mem_cons.mp ((h b).mpr List.mem_cons_self) with q' | q'
        · exact q'.symm
        · have := ht.1 a q
          have := hs.1 b q'
          omega
    subst e
    have e2 : s = t := by
      refine asc_ext s t hs.2 ht.2 fun x => ⟨fun q => ?_, fun q => ?_⟩
      · rcases List.mem_cons.mp ((h x).mp (List.mem_cons_of_mem _ q)) with q' | q'
        · have := hs.1 x q
          omega
        · exact q'
      · rcases List.mem_cons.mp ((h x).mpr (List.mem_cons_of_mem _ q)) with q' | q'
        · have := ht.1 x q
          omega
        · exact q'
    rw [e2]
theorem wsum_split (w : List Int) (p : Int → Bool) : ∀ t : List Int, wsum w t = wsum w (t.filter p) + wsum w (t.filter fun x => !p x)
  | [] => rfl
  | a :: t => by
    have ih := wsum_split w p t
    unfold wsum at ih ⊢
    by_cases h : p a = true
    · rw [List.filter_cons_of_pos h, List.filter_cons_of_neg (by simp [h])]
      simp only [List.map_cons, List.sum_cons]
      omega
    · rw [List.filter_cons_of_neg h, List.filter_cons_of_pos (by simp [h])]
      simp only [List.map_cons, List.sum_cons]
      omega
theorem wsum_nonneg (w : List Int) : ∀ t : List Int, (∀ p ∈ t, 0 < wt w p) → 0 ≤ wsum w t
  | [], _ => Int.le_refl 0
  | a :: t, h => by
    have ih := wsum_nonneg w t fun p q => h p (List.mem_cons_of_mem _ q)
    have ha := h a List.mem_cons_self
    unfold wsum at ih ⊢
    rw [List.map_cons, List.sum_cons]
    omega
theorem wsum_pos (w t : List Int) (h : ∀ p ∈ t, 0 < wt w p) (hne : t ≠ []) : 0 < wsum w t := by
  cases t with
  | nil => exact absurd rfl hne
  | cons a t =>
    have ih := wsum_nonneg w t fun p q => h p (List.mem_cons_of_mem _ q)
    have ha := h a List.mem_cons_self
    unfold wsum at ih ⊢
    rw [List.map_cons, List.sum_cons]
    omega
theorem mem_sortI (c : List Int) (x : Int) : x ∈ sortI c ↔ x ∈ c := List.mem_mergeSort
theorem len_sortI (c : List Int) : (sortI c).length = c.length := List.length_mergeSort _
theorem sortI_asc (c : List Int) (h : c.Nodup) : (sortI c).Pairwise (· < ·) := by
  have h1 : (sortI c).Pairwise (fun a b => decide (a ≤ b) = true) := List.pairwise_mergeSort (fun a b c h1 h2 => by simp at *; omega) (fun a b => by simp; omega) c
  have h2 : (sortI c).Nodup := (List.mergeSort_perm c _).nodup_iff.mpr h
  refine (h1.and h2).imp fun {a b} q => ?_
  have := of_decide_eq_true q.1
  have := q.2
  omega
theorem mem_uniqI : ∀ (c : List Int) (x : Int), x ∈ uniqI c ↔ x ∈ c
  | [], _ => Iff.rfl
  | a :: c, x => by
    rw [uniqI]
    by_cases h : a ∈ c
    · rw [if_pos h, mem_uniqI c x, List.mem_cons]
      exact ⟨.inr, fun q => q.elim (fun e => e ▸ h) id⟩
    · rw [if_neg h, List.mem_cons, List.mem_cons, mem_uniqI c x]
theorem len_uniqI : ∀ (c : List Int), (uniqI c).length ≤ c.length
  | [] => Nat.le_refl _
  | a :: c => by
    have := len_uniqI c
    rw [uniqI]
    by_cases h : a ∈ c
    · rw [if_pos h, List.length_cons]
      omega
    · rw [if_neg h, List.length_cons, List.length_cons]
      omega
/-- a part's key is not above the whole's -/
theorem sub_le (w : List Int) (n : Nat) (hw : ∀ p : Int, 0 ≤ p → p < n → 0 < wt w p) (c t : List Int) (hc : c.Nodup) (ht : Asc n t) (h : ∀ x ∈ c, x ∈ t) : kLe w (sortI c) t := by
  have e : t.filter (fun x => decide (x ∈ c)) = sortI c := by
    refine asc_ext _ _ (ht.1.filter _) (sortI_asc c hc) fun x => ?_
    rw [List.mem_filter, mem_sortI]
    exact ⟨fun q => of_decide_eq_true q.2, fun q => ⟨h x q, decide_eq_true q⟩⟩
  have s := wsum_split w (fun x => decide (x ∈ c)) t
  rw [e] at s
  by_cases q : t.filter (fun x => !decide (x ∈ c)) = []
  · have e2 : t = sortI c := by
      rw [← e]
      refine (List.filter_eq_self.mpr fun a ha => ?_).symm
      have := List.filter_eq_nil_iff.mp q a ha
      simpa using this
    rw [← e2]
    exact kLe_refl w t
  · have := wsum_pos w (t.filter fun x => !decide (x ∈ c)) (fun p hp => hw p (ht.2 p (List.mem_filter.mp hp).1).1 (ht.2 p (List.mem_filter.mp hp).1).2) q
    rw [kLe_iff]
    omega
theorem nodup_len : ∀ (n : Nat) (c : List Int), c.Nodup → (∀ p ∈ c, 0 ≤ p ∧ p < n) → c.length ≤ n
  | 0, [], _, _ => Nat.le_refl _
  | 0, a :: c, _, h => by
    have := h a List.mem_cons_self
    omega
  | n + 1, c, hc, h => by
    by_cases m : (n : Int) ∈ c
    · have := nodup_len n (c.erase n) (hc.erase _) fun p hp => by
        rw [hc.mem_erase_iff] at hp
        have := h p hp.2
        have := hp.1
        omega
      rw [List.length_erase_of_mem m] at this
      omega
    · have := nodup_len n c hc fun p hp => by
        have := h p hp
        have : p ≠ n := fun q => m (q ▸ hp)
        omega
      omega
/-! ### the search -/
abbrev E := List Int × List Int
def Good (n : Nat) (e : E) : Prop := e.1.Nodup ∧ (∀ p ∈ e.1, 0 ≤ p ∧ p < n) ∧ e.2.Nodup ∧ ∀ p ∈ e.2, 0 ≤ p ∧ p < n
def Cand (e : E) (t : List Int) : Prop := (∀ x ∈ e.1, x ∈ t) ∧ ∀ x ∈ e.2, x ∉ t
def brs : List Int → List Int → List Int → List E
  | [], _, _ => []
  | p :: s, c, b => if p ∈ b then brs s c b else (c ++ [p], b) :: brs s c (b ++ [p])
theorem brs_len : ∀ (s c b : List Int), (brs s c b).length ≤ s.length
  | [], _, _ => Nat.le_refl _
  | p :: s, c, b => by
    rw [brs]
    by_cases h : p ∈ b
    · have := brs_len s c b
      rw [if_pos h, List.length_cons]
      omega
    · have := brs_len s c (b ++ [p])
      rw [if_neg h, List.length_cons, List.length_cons]
      omega
theorem nodup_snoc {c : List Int} {p : Int} (h : c.Nodup) (hp : p ∉ c) : (c ++ [p]).Nodup := by
  rw [List.nodup_append]
  refine ⟨h, by simp, fun a ha b hb => ?_⟩
  rw [List.mem_singleton] at hb
  rintro rfl
  exact hp (hb ▸ ha)
theorem all_snoc {c : List Int} {p : Int} {P : Int → Prop} (h : ∀ x ∈ c, P x) (hp : P p) : ∀ x ∈ c ++ [p], P x := by
  intro x hx
  rcases List.mem_append.mp hx with q | q
  · exact h x q
  · rw [List.mem_singleton] at q
    exact q ▸ hp
theorem brs_ok (n : Nat) : ∀ (s c b : List Int), Good n (c, b) → (∀ p ∈ s, p ∉ c ∧ 0 ≤ p ∧ p < n) → ∀ e ∈ brs s c b, e.1.length = c.length + 1 ∧ Good n e
  | [], _, _, _, _ => by simp [brs]
  | p :: s, c, b, g, h => by
    rw [brs]
    have hp := h p List.mem_cons_self
    have hs := fun q hq => h q (List.mem_cons_of_mem p hq)
    by_cases m : p ∈ b
    · rw [if_pos m]
      exact brs_ok n s c b g hs
    · rw [if_neg m]
      intro e he
      rcases List.mem_cons.mp he with q | q
      · subst q
        exact ⟨by simp, nodup_snoc g.1 hp.1, all_snoc g.2.1 hp.2, g.2.2.1, g.2.2.2⟩
      · exact brs_ok n s c (b ++ [p]) ⟨g.1, g.2.1, nodup_snoc g.2.2.1 m, all_snoc g.2.2.2 hp.2⟩ hs e q
theorem brs_cand (t : List Int) : ∀ (s c b : List Int), Cand (c, b) t → (∃ p ∈ s, p ∈ t) → ∃ e ∈ brs s c b, Cand e t
  | [], _, _, _, ⟨p, hp, _⟩ => absurd hp (by simp)
  | p :: s, c, b, g, h => by
    rw [brs]
    by_cases hp : p ∈ t
    · have m : p ∉ b := fun m => g.2 p m hp
      rw [if_neg m]
      exact ⟨_, List.mem_cons_self, all_snoc g.1 hp, g.2⟩
    · have h' : ∃ p ∈ s, p ∈ t := by
        obtain ⟨q, hq, hqt⟩ := h
        rcases List.mem_cons.mp hq with e | e
        · exact absurd (e ▸ hqt) hp
        · exact ⟨q, e, hqt⟩
      by_cases m : p ∈ b
      · rw [if_pos m]
        exact brs_cand t s c b g h'
      · rw [if_neg m]
        obtain ⟨e, he, hc⟩ := brs_cand t s c (b ++ [p]) ⟨g.1, all_snoc g.2 hp⟩ h'
        exact ⟨e, List.mem_cons_of_mem _ he, hc⟩
def lev : List E → Prop
  | [] => True
  | e :: st => st.length ≤ 11 * e.1.length ∧ lev st
def meas (n : Nat) : List E → Nat
  | [] => 0
  | e :: st => 13 ^ (n + 1 - e.1.length) + meas n st
theorem lev_app (k : Nat) (st : List E) (hs : st.length ≤ 11 * k) (hl : lev st) : ∀ bs : List E, (∀ e ∈ bs, e.1.length = k + 1) → bs.length ≤ 12 → lev (bs ++ st)
  | [], _, _ => hl
  | e :: bs, h, hb => by
    rw [List.length_cons] at hb
    refine ⟨?_, lev_app k st hs hl bs (fun e he => h e (List.mem_cons_of_mem _ he)) (by omega)⟩
    show (bs ++ st).length ≤ _
    rw [h e List.mem_cons_self, List.length_append]
    omega
theorem meas_app (n k : Nat) (st : List E) : ∀ bs : List E, (∀ e ∈ bs, e.1.length = k + 1) → meas n (bs ++ st) = bs.length * 13 ^ (n - k) + meas n st
  | [], _ => by simp
  | e :: bs, h => by
    rw [List.cons_append, meas, meas_app n k st bs (fun e he => h e (List.mem_cons_of_mem _ he)), h e List.mem_cons_self, List.length_cons, Nat.add_sub_add_right, Nat.succ_mul]
    omega
theorem len_of_lev (n : Nat) (st : List E) (hl : lev st) (hg : ∀ e ∈ st, Good n e) : st.length ≤ 1 + 11 * n := by
  cases st with
  | nil => simp
  | cons e st =>
    have := nodup_len n e.1 (hg e List.mem_cons_self).1 (hg e List.mem_cons_self).2.1
    have := hl.1
    rw [List.length_cons]
    omega
structure Inv (rows : List (List Int)) (w : List Int) (st : List E) (o : Option (List Int)) : Prop where
  best : ∀ t, o = some t → Asc w.length t ∧ Hits rows t
  all : ∀ t, Asc w.length t → Hits rows t → (∃ u, o = some u ∧ kLe w u t) ∨ ∃ e ∈ st, Cand e t
  good : ∀ e ∈ st, Good w.length e
  lev : lev st
def BestO (rows : List (List Int)) (w : List Int) (o : Option (List Int)) : Prop := (∀ t, o = some t → Asc w.length t ∧ Hits rows t) ∧ ∀ t, Asc w.length t → Hits rows t → ∃ u, o = some u ∧ kLe w u t
theorem best_one {rows : List (List Int)} {w : List Int} {o o' : Option (List Int)} (h : BestO rows w o) (h' : BestO rows w o') : o = o' := by
  cases o with
  | none =>
    cases o' with
    | none => rfl
    | some t =>
      obtain ⟨u, e, _⟩ := h.2 t (h'.1 t rfl).1 (h'.1 t rfl).2
      cases e
  | some s =>
    obtain ⟨u, e, l⟩ := h'.2 s (h.1 s rfl).1 (h.1 s rfl).2
    subst e
    obtain ⟨v, e, l'⟩ := h.2 u (h'.1 u rfl).1 (h'.1 u rfl).2
    injection e with e
    subst e
    rw [kLe_antisymm l' l]
section
variable {rows : List (List Int)} {w : List Int} {e : E} {st : List E} {o : Option (List Int)}
theorem inv_init : Inv rows w [([], [])] none := ⟨fun t h => (nomatch h), fun t _ _ => .inr ⟨_, List.mem_cons_self, by simp [Cand]⟩, fun e he => by
  rw [List.mem_singleton] at he
  subst he
  simp [Good], by simp [lev]⟩
theorem inv_done (i : Inv rows w [] o) : BestO rows w o := ⟨i.best, fun t ha hh => (i.all t ha hh).elim id fun ⟨e, he, _⟩ => absurd he (by simp)⟩
variable (hw : ∀ p : Int, 0 ≤ p → p < w.length → 0 < wt w p)
include hw
theorem inv_skip {u : List Int} (i : Inv rows w (e :: st) (some u)) (h : kLe w u (sortI e.1)) : Inv rows w st (some u) := by
  refine ⟨i.best, fun t ha hh => ?_, fun x hx => i.good x (List.mem_cons_of_mem _ hx), i.lev.2⟩
  rcases i.all t ha hh with q | ⟨x, hx, c⟩
  · exact .inl q
  · rcases List.mem_cons.mp hx with q | q
    · subst q
      exact .inl ⟨u, rfl, kLe_trans h (sub_le w _ hw x.1 t (i.good x List.mem_cons_self).1 ha c.1)⟩
    · exact .inr ⟨x, q, c⟩
theorem inv_best (i : Inv rows w (e :: st) o) (h : ∀ u, o = some u → kLe w (sortI e.1) u) (hh : Hits rows e.1) : Inv rows w st (some (sortI e.1)) := by
  have g := i.good e List.mem_cons_self
  refine ⟨?_, fun t ha hh => ?_, fun x hx => i.good x (List.mem_cons_of_mem _ hx), i.lev.2⟩
  · intro t e1
    injection e1 with e1
    subst e1
    refine ⟨⟨sortI_asc _ g.1, fun p hp => g.2.1 p ((mem_sortI _ _).mp hp)⟩, fun r hr => ?_⟩
    obtain ⟨p, hp, hp'⟩ := hh r hr
    exact ⟨p, hp, (mem_sortI _ _).mpr hp'⟩
  · rcases i.all t ha hh with ⟨u, e1, l⟩ | ⟨x, hx, c⟩
    · exact .inl ⟨_, rfl, kLe_trans (h u e1) l⟩
    · rcases List.mem_cons.mp hx with q | q
      · subst q
        exact .inl ⟨_, rfl, sub_le w _ hw x.1 t g.1 ha c.1⟩
      · exact .inr ⟨x, q, c⟩
omit hw in
theorem inv_br {r : List Int} (hr : r ∈ rows) (hb : ∀ p ∈ r, 0 ≤ p ∧ p < w.length) (hl : r.length ≤ 12) (hn : ∀ p ∈ r, p ∉ e.1) (i : Inv rows w (e :: st) o) :
    Inv rows w (brs (sortI (uniqI r)) e.1 e.2 ++ st) o ∧ meas w.length (brs (sortI (uniqI r)) e.1 e.2 ++ st) < meas w.length (e :: st) := by
  have g := i.good e List.mem_cons_self
  have ok := brs_ok w.length (sortI (uniqI r)) e.1 e.2 g fun p hp => by
    have := (mem_uniqI r p).mp ((mem_sortI _ _).mp hp)
    exact ⟨hn p this, hb p this⟩
  have ln : (brs (sortI (uniqI r)) e.1 e.2).length ≤ 12 := by
    have := brs_len (sortI (uniqI r)) e.1 e.2
    rw [len_sortI] at this
    have := len_uniqI r
    omega
  refine ⟨⟨i.best, fun t ha hh => ?_, fun x hx => ?_, lev_app e.1.length st i.lev.1 i.lev.2 _ (fun x hx => (ok x hx).1) ln⟩, ?_⟩
  · rcases i.all t ha hh with q | ⟨x, hx, c⟩
    · exact .inl q
    · rcases List.mem_cons.mp hx with q | q
      · subst q
        obtain ⟨p, hp, hpt⟩ := hh r hr
        obtain ⟨y, hy, cy⟩ := brs_cand t (sortI (uniqI r)) x.1 x.2 c ⟨p, (mem_sortI _ _).mpr ((mem_uniqI _ _).mpr hp), hpt⟩
        exact .inr ⟨y, List.mem_append_left _ hy, cy⟩
      · exact .inr ⟨x, List.mem_append_right _ q, c⟩
  · rcases List.mem_append.mp hx with q | q
    · exact (ok x q).2
    · exact i.good x (List.mem_cons_of_mem _ q)
  · rw [meas_app w.length e.1.length st _ fun x hx => (ok x hx).1]
    show _ < 13 ^ (w.length + 1 - e.1.length) + meas w.length st
    have hk := nodup_len w.length e.1 g.1 g.2.1
    have e1 : w.length + 1 - e.1.length = (w.length - e.1.length) + 1 := by omega
    rw [e1, Nat.pow_succ]
    have : 0 < 13 ^ (w.length - e.1.length) := Nat.pow_pos (by decide)
    have := Nat.mul_le_mul_right (13 ^ (w.length - e.1.length)) ln
    omega
omit hw in
theorem inv_meas (i : Inv rows w (e :: st) o) : meas w.length st < meas w.length (e :: st) := by
  have : 0 < 13 ^ (w.length + 1 - e.1.length) := Nat.pow_pos (by decide)
  show _ < 13 ^ (w.length + 1 - e.1.length) + meas w.length st
  omega
end
/-! ### what the law does with the best -/
theorem best_same {rows rows' : List (List Int)} {w : List Int} {o : Option (List Int)} (h : ∀ t, Hits rows t ↔ Hits rows' t) (b : BestO rows w o) : BestO rows' w o :=
  ⟨fun t e => ⟨(b.1 t e).1, (h t).mp (b.1 t e).2⟩, fun t ha hh => b.2 t ha ((h t).mpr hh)⟩
theorem best_empty {rows : List (List Int)} {w : List Int} (h : [] ∈ rows) : BestO rows w none :=
  ⟨fun t e => (nomatch e), fun t _ hh => (hh [] h).elim fun p q => absurd q.1 (by simp)⟩
theorem best_nil {w : List Int} (hw : ∀ p : Int, 0 ≤ p → p < w.length → 0 < wt w p) : BestO [] w (some []) := by
  refine ⟨fun t e => ?_, fun t ha hh => ⟨[], rfl, ?_⟩⟩
  · injection e with e
    subst e
    simp [Asc, Hits]
  · have e : sortI [] = [] := by simp [sortI]
    have := sub_le w w.length hw [] t (by simp) ha (by simp)
    rw [e] at this
    exact this
theorem best_more {rows rows' : List (List Int)} {w t : List Int} (b : BestO rows w (some t)) (h1 : ∀ r ∈ rows, r ∈ rows') (h2 : Hits rows' t) : BestO rows' w (some t) :=
  ⟨fun u e => ⟨(b.1 u e).1, by injection e with e; exact e ▸ h2⟩, fun u ha hh => b.2 u ha fun r hr => hh r (h1 r hr)⟩
end K38
end
section
set_option Elab.async false
set_option linter.all false
set_option autoImplicit false
set_option maxRecDepth 100000
set_option maxHeartbeats 1000000
/-! M2: what the program's functions give. -/
namespace K38
open PySem
open IL (Slot Ow Env seqD intsD sortI uniqI)
abbrev T (n f : Nat) (δ : IL.Env) : IL.CR := IL.tbl (defs.map J.DefR.il) n f δ
def rowD (r : Bool × List Int) : PyData := seqD r.1 (intsD r.2)
theorem wt_at (w : List Int) (p : Int) (h0 : 0 ≤ p) (h1 : p < w.length) : L2.atI (intsD w) p = some (.int (wt w p)) := by
  obtain ⟨i, rfl⟩ := Int.eq_ofNat_of_zero_le h0
  rw [IL.atI_ofNat]
  unfold intsD wt
  rw [List.getElem?_map, List.getElem?_eq_getElem (by omega)]
  show some _ = some _
  congr 2
  rw [Int.toNat_natCast, List.getD_eq_getElem?_getD, List.getElem?_eq_getElem (by omega)]
  rfl
theorem T_key (n : Nat) (b : Bool) (w t : List Int) (h : ∀ p ∈ t, 0 ≤ p ∧ p < w.length) (hl : t.length ≤ 100) : T (n + 1) f_hitting_key [.im (.list (intsD t)), .im (seqD b (intsD w))] = .ret (.dat (keyD w t)) [.im (.list (intsD t)), .im (seqD b (intsD w))] := by
  refine (IL.tbl_succ (d := d_hitting_key.il) rfl rfl).trans ?_
  simp [d_hitting_key, c_hitting_key]
  rw [IL.lcGo_ints (wt w)]
  · simp [IL.size_val, keyD, wsum]
  · intro p hp
    simp [wt_at w p (h p hp).1 (h p hp).2]
  · omega
theorem T_missed (n : Nat) (b : Bool) (rs : List (Bool × List Int)) (c : List Int) (hr : rs.length ≤ 100) (hl : ∀ r ∈ rs, r.2.length ≤ 100) :
    ((∀ r ∈ rs, ∃ p ∈ r.2, p ∈ c) ∧ T (n + 1) f_smallest_missed [.im (seqD b (rs.map rowD)), .im (.tuple (intsD c))] = .ret (.dat .none) [.im (seqD b (rs.map rowD)), .im (.tuple (intsD c))]) ∨
    (∃ r ∈ rs, (∀ p ∈ r.2, p ∉ c) ∧ T (n + 1) f_smallest_missed [.im (seqD b (rs.map rowD)), .im (.tuple (intsD c))] = .ret (.dat (rowD r)) [.im (seqD b (rs.map rowD)), .im (.tuple (intsD c))]) := by
  have key : ∀ d, IL.fn .minLen [.list ((rs.filter fun r => !r.2.any fun p => decide (p ∈ c)).map rowD)] = some (.dat d) → T (n + 1) f_smallest_missed [.im (seqD b (rs.map rowD)), .im (.tuple (intsD c))] = .ret (.dat d) [.im (seqD b (rs.map rowD)), .im (.tuple (intsD c))] := by
    intro d hd
    refine (IL.tbl_succ (d := d_smallest_missed.il) rfl rfl).trans ?_
    simp [d_smallest_missed, c_smallest_missed]
    rw [IL.lcGo_filter rowD rowD (fun r => !r.2.any fun p => decide (p ∈ c))]
    · simp [hd]
    · intro r hr
      cases hq : r.2.any fun p => decide (p ∈ c)
      · simp [rowD]
        rw [IL.lcGo_ibools (fun p => decide (p ∈ c))]
        · simp [hq]
        · intro p hp
          simp
        · have := hl r hr
          omega
      · simp [rowD]
        rw [IL.lcGo_ibools (fun p => decide (p ∈ c))]
        · simp [hq]
        · intro p hp
          simp
        · have := hl r hr
          omega
    · rw [IL.size_val]
      simp
      omega
  rcases IL.minLen_rows ((rs.filter fun r => !r.2.any fun p => decide (p ∈ c)).map rowD) (IL.rowsD_map rowD (fun r => ⟨r.1, intsD r.2, rfl⟩) _) with ⟨h1, h2⟩ | ⟨d, h1, h2⟩
  · refine .inl ⟨fun r hr => ?_, key _ h2⟩
    rw [List.map_eq_nil_iff, List.filter_eq_nil_iff] at h1
    have := h1 r hr
    simpa using this
  · obtain ⟨r, hr, rfl⟩ := List.mem_map.mp h1
    rw [List.mem_filter] at hr
    refine .inr ⟨r, hr.1, ?_, key _ h2⟩
    simpa using hr.2
def pairD (e : E) : PyData := .tuple [.tuple (intsD e.1), .tuple (intsD e.2)]
def IBr (rd : PyData) (c : List Int) (full : List E) (as : List Int) (δ : IL.Env) : Prop := ∃ (bs : List E) (b : List Int) (s4 : Slot), δ = [.im rd, .im (.tuple (intsD c)), .im (.tuple (intsD b)), .ow (.lst (bs.map pairD)), s4] ∧ bs ++ brs as c b = full ∧ b.length + as.length ≤ 1000 ∧ bs.length + as.length ≤ 1000 ∧ s4 ≠ .ow (.lst [])
theorem T_branches (n : Nat) (r : Bool × List Int) (c b : List Int) (hr : r.2.length ≤ 50) (hc : c.length ≤ 100) (hb : b.length ≤ 100) :
    T (n + 1) f_branches [.im (rowD r), .im (.tuple (intsD c)), .im (.tuple (intsD b))] = .ret (.new (.lst ((brs (sortI (uniqI r.2)) c b).map pairD))) [.im (rowD r), .im (.tuple (intsD c)), .im (.tuple (intsD b))] := by
  refine (IL.tbl_succ (d := d_branches.il) rfl rfl).trans ?_
  have hs : r.2.length < 60 := by omega
  simp [d_branches, c_branches, rowD, hs]
  generalize hX : IL.forGo _ _ _ _ _ = X
  obtain ⟨δ', rfl, bs, b', s4, rfl, h1, -⟩ : ∃ δ', X = .ok .nx δ' ∧ IBr (rowD r) c (brs (sortI (uniqI r.2)) c b) [] δ' := by
    refine IL.forGo_alls PyData.int _ hX ⟨[], b, .un, rfl, rfl, ?_, ?_, by simp⟩ ?_
    · have := len_uniqI r.2
      rw [len_sortI]
      omega
    · have := len_uniqI r.2
      rw [len_sortI]
      simp
      omega
    · rintro p as _ ⟨bs, b', s4, rfl, h1, h2, h3, h4⟩
      rw [List.length_cons] at h2 h3
      by_cases m : p ∈ b'
      · refine ⟨[.im (rowD r), .im (.tuple (intsD c)), .im (.tuple (intsD b')), .ow (.lst (bs.map pairD)), .im (.int p)], .inl ?_, bs, b', _, rfl, ?_, by omega, by omega, by simp⟩
        · simp [m]
        · rw [brs, if_pos m] at h1
          exact h1
      · refine ⟨[.im (rowD r), .im (.tuple (intsD c)), .im (.tuple (intsD (b' ++ [p]))), .ow (.lst ((bs ++ [(c ++ [p], b')]).map pairD)), .im (.int p)], .inl ?_, bs ++ [(c ++ [p], b')], b' ++ [p], _, rfl, ?_, by simp; omega, by simp; omega, by simp⟩
        · have e1 : c.length ≤ 16777215 := by omega
          have e2 : b'.length ≤ 16777215 := by omega
          have e3 : bs.length < 16777216 := by omega
          simp [m, IL.size_val, e1, e2, e3, pairD]
        · rw [brs, if_neg m] at h1
          rw [← h1]
          simp
  simp [brs] at h1
  simp [h1, rowD]
end K38
end
section
set_option Elab.async false
set_option linter.all false
set_option autoImplicit false
set_option maxRecDepth 100000
set_option maxHeartbeats 1000000
/-! M3: the search. -/
namespace K38
open PySem
open IL (Slot Ow seqD intsD sortI uniqI)
def stD (st : List E) : List PyData := st.reverse.map pairD
@[simp] theorem stD_nil : stD [] = [] := rfl
@[simp] theorem stD_cons (e : E) (st : List E) : stD (e :: st) = stD st ++ [pairD e] := by simp [stD]
@[simp] theorem stD_len (st : List E) : (stD st).length = st.length := by simp [stD]
theorem stD_app (bs st : List E) : stD (bs ++ st) = stD st ++ (bs.map pairD).reverse := by simp [stD]
@[simp] theorem stD_plain (st : List E) : PyData.plainAll (stD st) = true := IL.plainAll_map pairD (fun e => by simp [pairD]) _
@[simp] theorem pairD_plain (e : E) : PyData.plain (pairD e) = true := by simp [pairD]
def bestD (w : List Int) : Option (List Int) → PyData
  | none => .none
  | some t => keyD w t
def optD : Option (List Int) → PyData
  | none => .none
  | some t => .tuple (intsD t)
@[simp] theorem keyD_notNone (w t : List Int) : IL.isNoneD (keyD w t) = false := rfl
@[simp] theorem rowD_notNone (r : Bool × List Int) : IL.isNoneD (rowD r) = false := IL.seqD_notNone _ _
theorem ge_key (w t u : List Int) : IL.cmpop .ge (keyD w t) (keyD w u) = some (!decide (kLt w t u)) := by
  refine (if_pos (e := none) (keyD_ord w t u)).trans ?_
  rw [keyD_lt]
theorem lt_key (w t u : List Int) : IL.cmpop .lt (keyD w t) (keyD w u) = some (decide (kLt w t u)) := by
  refine (if_pos (e := none) (keyD_ord w t u)).trans ?_
  rw [keyD_lt]
def IWh (hd wd : PyData) (rows : List (List Int)) (w : List Int) (m : Nat) (δ : IL.Env) : Prop := ∃ (st : List E) (o : Option (List Int)) (s4 s5 s6 s7 : Slot), δ = [.im hd, .im wd, .im (bestD w o), .ow (.lst (stD st)), s4, s5, s6, s7] ∧ Inv rows w st o ∧ meas w.length st = m
def PWh (hd wd : PyData) (rows : List (List Int)) (w : List Int) (δ : IL.Env) : Prop := ∃ (o : Option (List Int)) (s3 s4 s5 s6 s7 : Slot), δ = [.im hd, .im wd, .im (bestD w o), s3, s4, s5, s6, s7] ∧ BestO rows w o
def c_least_body : IL.CB := (IL.CB.cons (IL.CS.set (IL.Tg.tup [6, 7]) (IL.CE.mt IL.Mt.pop 3 IL.CEs.nil))
          (IL.CB.cons
            (IL.CS.set (IL.Tg.name 4)
              (IL.CE.call 0
                (IL.CEs.cons (IL.CE.bi IL.Fn.sorted (IL.CEs.cons (IL.CE.var 6) IL.CEs.nil)).fz
                  (IL.CEs.cons (IL.CE.var 1).fz IL.CEs.nil))))
            (IL.CB.cons
              (IL.CS.cond ((IL.CT.notN (IL.CE.var 2)).and (IL.CT.cmp IL.Cop.ge (IL.CE.var 4) (IL.CE.var 2)))
                (IL.CB.cons IL.CS.cont IL.CB.nil) IL.CB.nil)
              (IL.CB.cons
                (IL.CS.set (IL.Tg.name 5)
                  (IL.CE.call 1 (IL.CEs.cons (IL.CE.var 0).fz (IL.CEs.cons (IL.CE.var 6).fz IL.CEs.nil))))
                (IL.CB.cons
                  (IL.CS.cond (IL.CT.isN (IL.CE.var 5)) (IL.CB.cons (IL.CS.set (IL.Tg.name 2) (IL.CE.var 4)) IL.CB.nil)
                    (IL.CB.cons
                      (IL.CS.exp
                        (IL.CE.ext 3
                          (IL.CE.call 2
                              (IL.CEs.cons (IL.CE.var 5).fz
                                (IL.CEs.cons (IL.CE.var 6).fz (IL.CEs.cons (IL.CE.var 7).fz IL.CEs.nil)))).rev))
                      IL.CB.nil))
                  IL.CB.nil)))))
theorem T_least (n : Nat) (hb wb : Bool) (rs : List (Bool × List Int)) (w : List Int) (hr : rs.length ≤ 100) (hl : ∀ r ∈ rs, r.2.length ≤ 12 ∧ ∀ p ∈ r.2, 0 ≤ p ∧ p < w.length) (hw : ∀ p : Int, 0 ≤ p → p < w.length → 0 < wt w p) (hn : w.length ≤ 12) :
    ∃ o, BestO (rs.map Prod.snd) w o ∧ T (n + 2) f_least_hitting [.im (seqD hb (rs.map rowD)), .im (seqD wb (intsD w))] = .ret (.dat (optD o)) [.im (seqD hb (rs.map rowD)), .im (seqD wb (intsD w))] := by
  have run := (IL.tbl_succ (ds := defs.map J.DefR.il) (n := n + 1) (f := f_least_hitting) (δ := [.im (seqD hb (rs.map rowD)), .im (seqD wb (intsD w))]) (d := d_least_hitting.il) rfl rfl)
  simp [d_least_hitting, c_least_hitting] at run
  generalize hX : IL.whGo _ _ _ _ = X at run
  obtain ⟨δ', rfl, o, s3, s4, s5, s6, s7, rfl, b⟩ : ∃ δ', X = .ok .nx δ' ∧ PWh (seqD hb (rs.map rowD)) (seqD wb (intsD w)) (rs.map Prod.snd) w δ' := by
    refine IL.whGo_rels (IWh (seqD hb (rs.map rowD)) (seqD wb (intsD w)) (rs.map Prod.snd) w) _ (meas w.length [([], [])]) hX ⟨[([], [])], none, .un, .un, .un, .un, ?_, inv_init, rfl⟩ ?_ ?_
    · simp [bestD, pairD]
    · show 13 ^ (w.length + 1) + 0 < _
      have : 13 ^ (w.length + 1) ≤ 13 ^ 13 := Nat.pow_le_pow_right (by decide) (by omega)
      omega
    · rintro m δ ⟨st, o, s4, s5, s6, s7, rfl, inv, hm⟩
      cases st with
      | nil =>
        refine .inl ⟨[.im (seqD hb (rs.map rowD)), .im (seqD wb (intsD w)), .im (bestD w o), .ow (.lst []), s4, s5, s6, s7], ?_, o, _, s4, s5, s6, s7, rfl, inv_done inv⟩
        simp
      | cons e st =>
        refine .inr ⟨[.im (seqD hb (rs.map rowD)), .im (seqD wb (intsD w)), .im (bestD w o), .ow (.lst (stD (e :: st))), s4, s5, s6, s7], ?_⟩
        have g := inv.good e List.mem_cons_self
        have l1 := nodup_len _ _ g.1 g.2.1
        have l2 := nodup_len _ _ g.2.2.1 g.2.2.2
        have hk := T_key n wb w (sortI e.1) (fun p hp => g.2.1 p ((mem_sortI _ _).mp hp)) (by rw [len_sortI]; omega)
        have hmm := inv_meas inv
        have hll := len_of_lev _ _ inv.lev inv.good
        rw [List.length_cons] at hll
        have h0 : ∃ h0 : IL.evT { kp := 2, call := IL.tbl (List.map J.DefR.il defs) (n + 1) } (IL.CT.cmp IL.Cop.ne (IL.CE.var 3) (IL.CE.lst IL.CEs.nil)) [.im (seqD hb (rs.map rowD)), .im (seqD wb (intsD w)), .im (bestD w o), .ow (.lst (stD (e :: st))), s4, s5, s6, s7] = .ok true [.im (seqD hb (rs.map rowD)), .im (seqD wb (intsD w)), .im (bestD w o), .ow (.lst (stD (e :: st))), s4, s5, s6, s7], True := ⟨by simp [IL.plainAll_app], trivial⟩
        obtain ⟨h0, -⟩ := h0
        by_cases hp : ∃ u, o = some u ∧ kLe w u (sortI e.1)
        · obtain ⟨u, rfl, hle⟩ := hp
          have hle' : ¬ kLt w (sortI e.1) u := hle
          refine ⟨[.im (seqD hb (rs.map rowD)), .im (seqD wb (intsD w)), .im (keyD w u), .ow (.lst (stD st)), .im (keyD w (sortI e.1)), s5, .im (.tuple (intsD e.1)), .im (.tuple (intsD e.2))], h0, .inr ?_, meas w.length st, by omega, st, some u, _, _, _, _, rfl, inv_skip hw inv hle, rfl⟩
          simp [pairD, hk, bestD, ge_key, hle']
        · have hp' : ∀ u, o = some u → kLt w (sortI e.1) u := by
            intro u hu
            by_cases q : kLt w (sortI e.1) u
            · exact q
            · exact absurd ⟨u, hu, q⟩ hp
          have hp2 : ∀ u, o = some u → kLe w (sortI e.1) u := by
            intro u hu
            rcases kLe_total w (sortI e.1) u with q | q
            · exact q
            · exact absurd ⟨u, hu, q⟩ hp
          have step : ∀ d δ5, IL.tbl (List.map J.DefR.il defs) (n + 1) f_smallest_missed [.im (seqD hb (rs.map rowD)), .im (.tuple (intsD e.1))] = .ret (.dat d) [.im (seqD hb (rs.map rowD)), .im (.tuple (intsD e.1))] → 
              IL.exs { kp := 2, call := IL.tbl (List.map J.DefR.il defs) (n + 1) }
                  (IL.CB.cons (IL.CS.cond (IL.CT.isN (IL.CE.var 5)) (IL.CB.cons (IL.CS.set (IL.Tg.name 2) (IL.CE.var 4)) IL.CB.nil)
                    (IL.CB.cons (IL.CS.exp (IL.CE.ext 3 (IL.CE.call 2 (IL.CEs.cons (IL.CE.var 5).fz (IL.CEs.cons (IL.CE.var 6).fz (IL.CEs.cons (IL.CE.var 7).fz IL.CEs.nil)))).rev)) IL.CB.nil)) IL.CB.nil)
                  [.im (seqD hb (rs.map rowD)), .im (seqD wb (intsD w)), .im (bestD w o), .ow (.lst (stD st)), .im (keyD w (sortI e.1)), .im d, .im (.tuple (intsD e.1)), .im (.tuple (intsD e.2))] = .ok .nx δ5 →
              IL.exs { kp := 2, call := IL.tbl (List.map J.DefR.il defs) (n + 1) } c_least_body [.im (seqD hb (rs.map rowD)), .im (seqD wb (intsD w)), .im (bestD w o), .ow (.lst (stD (e :: st))), s4, s5, s6, s7] = .ok .nx δ5 := by
            intro d δ5 hc h5
            simp at h5
            cases o with
            | none => 
              simp [c_least_body, pairD, hk, bestD, hc]
              simp [bestD] at h5
              exact h5
            | some u =>
              simp [c_least_body, pairD, hk, bestD, hc, ge_key, hp' u rfl]
              simp [bestD] at h5
              exact h5
          rcases T_missed n hb rs e.1 hr (fun r hr => by have := (hl r hr).1; omega) with ⟨hh, hc⟩ | ⟨r, hrm, hh, hc⟩
          · refine ⟨[.im (seqD hb (rs.map rowD)), .im (seqD wb (intsD w)), .im (keyD w (sortI e.1)), .ow (.lst (stD st)), .im (keyD w (sortI e.1)), .im .none, .im (.tuple (intsD e.1)), .im (.tuple (intsD e.2))], h0, .inl (step _ _ hc ?_), meas w.length st, by omega, ⟨st, some (sortI e.1), _, _, _, _, rfl, inv_best hw inv hp2 ?_, rfl⟩⟩
            · simp
            · intro r hr
              obtain ⟨r', hr', rfl⟩ := List.mem_map.mp hr
              exact hh r' hr'
          · have hbr := T_branches n r e.1 e.2 (by have := (hl r hrm).1; omega) (by omega) (by omega)
            have hi := inv_br (List.mem_map_of_mem hrm) (hl r hrm).2 (hl r hrm).1 hh inv
            refine ⟨[.im (seqD hb (rs.map rowD)), .im (seqD wb (intsD w)), .im (bestD w o), .ow (.lst (stD (brs (sortI (uniqI r.2)) e.1 e.2 ++ st))), .im (keyD w (sortI e.1)), .im (rowD r), .im (.tuple (intsD e.1)), .im (.tuple (intsD e.2))], h0, .inl (step _ _ hc ?_), _, by rw [← hm]; exact hi.2, ⟨_, o, _, _, _, _, rfl, hi.1, rfl⟩⟩
            have lb := brs_len (sortI (uniqI r.2)) e.1 e.2
            rw [len_sortI] at lb
            have lb2 := len_uniqI r.2
            have lb3 := (hl r hrm).1
            have lb4 : st.length + (brs (sortI (uniqI r.2)) e.1 e.2).length ≤ 16777216 := by omega
            simp [hbr, lb4, stD_app]
  refine ⟨o, b, run.trans ?_⟩
  cases o with
  | none => simp [bestD, optD]
  | some t => simp [bestD, optD, keyD]
end K38
end
section
set_option Elab.async false
set_option linter.all false
set_option autoImplicit false
set_option maxRecDepth 100000
set_option maxHeartbeats 1000000
/-! M4: the law's draws. -/
namespace K38
open PySem
open IL (Slot Ow seqD intsD sortI uniqI)
structure Bag where
  r : Int
  a : Int
  b : Int
  k : Int
def Bag.ds (B : Bag) : List PyData := [.int B.r, .int B.a, .int B.b, .int B.k]
def Bag.s (B : Bag) : Slot := .ow (.lst B.ds)
theorem T_take_ex (m : Int) (h0 : 0 < m) (h1 : m.natAbs < 2 ^ 64) (B : Bag) : ∃ x : Int × Bag, (0 ≤ x.1 ∧ x.1 < m) ∧ ∀ n, T (n + 1) f_l_take [.ow (.lst B.ds), .im (.int m)] = .ret (.dat (.int x.1)) [.ow (.lst x.2.ds), .im (.int m)] := by
  by_cases hr : 0 < B.r
  · refine ⟨(B.r % m, ⟨B.r / m, B.a, B.b, B.k⟩), ⟨Int.emod_nonneg _ (by omega), Int.emod_lt_of_pos _ h0⟩, fun n => ?_⟩
    refine (IL.tbl_succ (d := d_l_take.il) rfl rfl).trans ?_
    simp [d_l_take, c_l_take, hr, h0, h1, Bag.ds]
  · refine ⟨(((((B.a + (B.k + 1) * 1000003) * 48271 % 2147483647 * ((B.a + (B.k + 1) * 1000003) * 48271 % 2147483647) + B.b + (B.k + 1) * 9973) % 2147483399 / 5 + (B.a + (B.k + 1) * 1000003) * 48271 % 2147483647) * 40692 % 2147483563 / 7) % m, ⟨B.r, B.a, B.b, B.k + 1⟩), ⟨Int.emod_nonneg _ (by omega), Int.emod_lt_of_pos _ h0⟩, fun n => ?_⟩
    refine (IL.tbl_succ (d := d_l_take.il) rfl rfl).trans ?_
    simp [d_l_take, c_l_take, hr, h0, h1, Bag.ds, IL.natAbs_mod]
noncomputable def tk (m : Int) (B : Bag) : Int × Bag := if h : 0 < m ∧ m.natAbs < 2 ^ 64 then (T_take_ex m h.1 h.2 B).choose else (0, B)
theorem T_take (n : Nat) (m : Int) (B : Bag) (h0 : 0 < m) (h1 : m.natAbs < 18446744073709551616) : T (n + 1) f_l_take [.ow (.lst B.ds), .im (.int m)] = .ret (.dat (.int (tk m B).1)) [.ow (.lst (tk m B).2.ds), .im (.int m)] := by
  unfold tk
  rw [dif_pos ⟨h0, h1⟩]
  exact (T_take_ex m h0 h1 B).choose_spec.2 n
theorem tk_rng (m : Int) (B : Bag) (h0 : 0 < m) (h1 : m.natAbs < 18446744073709551616) : 0 ≤ (tk m B).1 ∧ (tk m B).1 < m := by
  unfold tk
  rw [dif_pos ⟨h0, h1⟩]
  exact (T_take_ex m h0 h1 B).choose_spec.1
theorem cut_ints (ns : List Int) (lo hi : Option Int) : IL.cutD (intsD ns) lo hi = intsD (IL.cutD ns lo hi) := by
  simp [IL.cutD, intsD, List.map_take, List.map_drop]
theorem T_bag (ns : List Int) (p : Nat) (hp : p < 1000) : ∃ B : Bag, ∀ n, T (n + 1) f_l_bag [.im (.list (intsD ns)), .im (.int p)] = .ret (.new (.lst B.ds)) [.im (.list (intsD ns)), .im (.int p)] := by
  have hp2 : ((p : Int)).natAbs < 18446744073709551616 := by omega
  have hat : ∀ hl : p < ns.length, L2.atI (intsD ns) p = some (.int ns[p]) := by
    intro hl
    rw [IL.atI_ofNat]
    unfold intsD
    rw [List.getElem?_map, List.getElem?_eq_getElem hl]
    rfl
  by_cases hl : p < ns.length
  · by_cases hc : ns[p] < 0
    · by_cases hg : 1000000000000000000 ≤ 1 - 2 * ns[p]
      · refine ⟨⟨1 - 2 * ns[p], (1 - 2 * ns[p]) % 2147483647, ((1 - 2 * ns[p]) / 2147483647) % 2147483629, 131 * p⟩, fun n => (IL.tbl_succ (d := d_l_bag.il) rfl rfl).trans ?_⟩
        simp [d_l_bag, c_l_bag, hp2, hl, hc, hg, hat hl, cut_ints, Bag.ds]
      · refine ⟨⟨0, (1 - 2 * ns[p]) % 2147483647, ((1 - 2 * ns[p]) / 2147483647) % 2147483629, 131 * p⟩, fun n => (IL.tbl_succ (d := d_l_bag.il) rfl rfl).trans ?_⟩
        simp [d_l_bag, c_l_bag, hp2, hl, hc, hg, hat hl, cut_ints, Bag.ds]
    · by_cases hg : 1000000000000000000 ≤ ns[p]
      · refine ⟨⟨ns[p], (ns[p]) % 2147483647, ((ns[p]) / 2147483647) % 2147483629, 131 * p⟩, fun n => (IL.tbl_succ (d := d_l_bag.il) rfl rfl).trans ?_⟩
        simp [d_l_bag, c_l_bag, hp2, hl, hc, hg, hat hl, cut_ints, Bag.ds]
      · refine ⟨⟨0, (ns[p]) % 2147483647, ((ns[p]) / 2147483647) % 2147483629, 131 * p⟩, fun n => (IL.tbl_succ (d := d_l_bag.il) rfl rfl).trans ?_⟩
        simp [d_l_bag, c_l_bag, hp2, hl, hc, hg, hat hl, cut_ints, Bag.ds]
  · have v1 : 0 ≤ (IL.cutD ns none (some 1)).sum % 1000003 := Int.emod_nonneg _ (by decide)
    have v2 : (IL.cutD ns none (some 1)).sum % 1000003 < 1000003 := Int.emod_lt_of_pos _ (by decide)
    have hc : ¬ 16 + 1009 * (p : Int) + (IL.cutD ns none (some 1)).sum % 1000003 < 0 := by omega
    have hg : ¬ 1000000000000000000 ≤ 16 + 1009 * (p : Int) + (IL.cutD ns none (some 1)).sum % 1000003 := by omega
    refine ⟨⟨0, (16 + 1009 * (p : Int) + (IL.cutD ns none (some 1)).sum % 1000003) % 2147483647, ((16 + 1009 * (p : Int) + (IL.cutD ns none (some 1)).sum % 1000003) / 2147483647) % 2147483629, 131 * p⟩, fun n => (IL.tbl_succ (d := d_l_bag.il) rfl rfl).trans ?_⟩
    simp [d_l_bag, c_l_bag, hp2, hl, hc, hg, cut_ints, Bag.ds]
@[simp] theorem rng_int (j : Int) (h1 : -4611686018427387904 ≤ j) (h2 : j < 4611686018427387904) : IL.rng1D (.int j) = some (intsD ((List.range j.toNat).map fun (i : Nat) => (i : Int))) := by
  rw [IL.rng1D_int j h1 h2, IL.intD_rngD]
theorem T_prices (n : Nat) (B : Bag) : ∃ (w : List Int) (B' : Bag), T (n + 2) f_l_prices [.ow (.lst B.ds)] = .ret (.new (.lst (intsD w))) [.ow (.lst B'.ds)] ∧ w.length ≤ 12 ∧ ∀ x ∈ w, 0 < x := by
  have tail : ∀ (B : Bag) (c far : Int), 0 ≤ c → c ≤ 12 → 0 ≤ far → ∃ (w : List Int) (B' : Bag), (IL.lcGo 1 (.name 3) IL.cTT (IL.evDm ⟨1, IL.tbl (List.map J.DefR.il defs) (n + 1)⟩ (.bin .add (.var 2) (.idx (.lst (.cons (.int 1) (.cons (.int 2) (.cons (.int 1) (.cons (.int 3) (.cons (.int 2) (.cons (.int 4) .nil))))))) (.call 5 (.cons (.var 0) (.cons (.int 6) .nil)))))) [3] (intsD ((List.range c.toNat).map fun (i : Nat) => (i : Int))) [] [.ow (.lst B.ds), .im (.int c), .im (.int far), .un]) = .ok (intsD w) [.ow (.lst B'.ds), .im (.int c), .im (.int far), .un] ∧ w.length ≤ 12 ∧ ∀ x ∈ w, 0 < x := by
    intro B c far c0 c1 f0
    obtain ⟨w, B', e, q⟩ := IL.lcGo_rel (kp := 1) (g := .name 3) (c := IL.cTT) (e := IL.evDm ⟨1, IL.tbl (List.map J.DefR.il defs) (n + 1)⟩ (.bin .add (.var 2) (.idx (.lst (.cons (.int 1) (.cons (.int 2) (.cons (.int 1) (.cons (.int 3) (.cons (.int 2) (.cons (.int 4) .nil))))))) (.call 5 (.cons (.var 0) (.cons (.int 6) .nil)))))) (vs := [3]) PyData.int PyData.int (fun (B : Bag) => [.ow (.lst B.ds), .im (.int c), .im (.int far), .un]) (fun _ x => 0 < x) ((List.range c.toNat).map fun (i : Nat) => (i : Int)) [] B (fun a ha B => by
        have hr := tk_rng 6 B (by decide) (by decide)
        have h6 : (tk 6 B).1 = 0 ∨ (tk 6 B).1 = 1 ∨ (tk 6 B).1 = 2 ∨ (tk 6 B).1 = 3 ∨ (tk 6 B).1 = 4 ∨ (tk 6 B).1 = 5 := by omega
        have hT := T_take n 6 B (by decide) (by decide)
        rcases h6 with h | h | h | h | h | h
        · exact ⟨far + 1, (tk 6 B).2, by simp [hT, h], by omega⟩
        · exact ⟨far + 2, (tk 6 B).2, by simp [hT, h], by omega⟩
        · exact ⟨far + 1, (tk 6 B).2, by simp [hT, h], by omega⟩
        · exact ⟨far + 3, (tk 6 B).2, by simp [hT, h], by omega⟩
        · exact ⟨far + 2, (tk 6 B).2, by simp [hT, h], by omega⟩
        · exact ⟨far + 4, (tk 6 B).2, by simp [hT, h], by omega⟩) (by simp; omega)
    refine ⟨w, B', e, ?_, fun x hx => (q.right x hx).elim fun _ z => z.2⟩
    have := q.length
    rw [List.length_map, List.length_range] at this
    omega
  have t1 := T_take n 8 B (by decide) (by decide)
  have t2 := T_take n 16 (tk 8 B).2 (by decide) (by decide)
  have t3 := T_take n 20 (tk 16 (tk 8 B).2).2 (by decide) (by decide)
  have t4 := T_take n 12 (tk 20 (tk 16 (tk 8 B).2).2).2 (by decide) (by decide)
  have r1 := tk_rng 8 B (by decide) (by decide)
  have run := IL.tbl_succ (ds := defs.map J.DefR.il) (n := n + 1) (f := f_l_prices) (d := d_l_prices.il) (δ := [.ow (.lst B.ds)]) rfl rfl
  obtain ⟨w, B', e, h1, h2⟩ := tail (tk 12 (tk 20 (tk 16 (tk 8 B).2).2).2).2 (if (tk 20 (tk 16 (tk 8 B).2).2).1 = 19 then 0 else if (tk 16 (tk 8 B).2).1 = 15 then 12 else 1 + (tk 8 B).1) (if (tk 12 (tk 20 (tk 16 (tk 8 B).2).2).2).1 = 11 then 1000000000000000000000000000000 else 0) (by split; omega; split <;> omega) (by split; omega; split <;> omega) (by split <;> omega)
  refine ⟨w, B', ?_, h1, h2⟩
  refine run.trans ?_
  clear run
  by_cases q1 : (tk 16 (tk 8 B).2).1 = 15
  · by_cases q2 : (tk 20 (tk 16 (tk 8 B).2).2).1 = 19
    · by_cases q3 : (tk 12 (tk 20 (tk 16 (tk 8 B).2).2).2).1 = 11
      · simp [q1, q2, q3] at e
        simp [d_l_prices, c_l_prices, t1, t2, t3, t4, q1, q2, q3, e]
      · simp [q1, q2, q3] at e
        simp [d_l_prices, c_l_prices, t1, t2, t3, t4, q1, q2, q3, e]
    · by_cases q3 : (tk 12 (tk 20 (tk 16 (tk 8 B).2).2).2).1 = 11
      · simp [q1, q2, q3] at e
        simp [d_l_prices, c_l_prices, t1, t2, t3, t4, q1, q2, q3, e]
      · simp [q1, q2, q3] at e
        simp [d_l_prices, c_l_prices, t1, t2, t3, t4, q1, q2, q3, e]
  · by_cases q2 : (tk 20 (tk 16 (tk 8 B).2).2).1 = 19
    · by_cases q3 : (tk 12 (tk 20 (tk 16 (tk 8 B).2).2).2).1 = 11
      · simp [q1, q2, q3] at e
        simp [d_l_prices, c_l_prices, t1, t2, t3, t4, q1, q2, q3, e]
      · simp [q1, q2, q3] at e
        simp [d_l_prices, c_l_prices, t1, t2, t3, t4, q1, q2, q3, e]
    · by_cases q3 : (tk 12 (tk 20 (tk 16 (tk 8 B).2).2).2).1 = 11
      · simp [q1, q2, q3] at e
        have r2 : -4611686018427387904 ≤ 1 + (tk 8 B).1 := by omega
        have r3 : 1 + (tk 8 B).1 < 4611686018427387904 := by omega
        simp [d_l_prices, c_l_prices, t1, t2, t3, t4, q1, q2, q3, e, r2, r3]
      · simp [q1, q2, q3] at e
        have r2 : -4611686018427387904 ≤ 1 + (tk 8 B).1 := by omega
        have r3 : 1 + (tk 8 B).1 < 4611686018427387904 := by omega
        simp [d_l_prices, c_l_prices, t1, t2, t3, t4, q1, q2, q3, e, r2, r3]
end K38
end
section
set_option Elab.async false
set_option linter.all false
set_option autoImplicit false
set_option maxRecDepth 100000
set_option maxHeartbeats 1000000
/-! M5: the law's rows, its tuples, its best. -/
namespace K38
open PySem
open IL (Slot Ow seqD intsD sortI uniqI)
def lstD (r : List Int) : PyData := .list (intsD r)
def tupD (r : List Int) : PyData := .tuple (intsD r)
theorem T_kind (n : Nat) (B : Bag) (ds : List PyData) : T (n + 2) f_l_kind [.ow (.lst B.ds), .im (.list ds)] = .ret (if (tk 2 B).1 = 1 then .dat (.tuple ds) else .new (.lst ds)) [.ow (.lst (tk 2 B).2.ds), .im (.list ds)] := by
  refine (IL.tbl_succ (d := d_l_kind.il) rfl rfl).trans ?_
  have t := T_take n 2 B (by decide) (by decide)
  by_cases q : (tk 2 B).1 = 1
  · simp -implicitDefEqProofs [d_l_kind, c_l_kind, t, q]
  · simp -implicitDefEqProofs [d_l_kind, c_l_kind, t, q]
def RowsIn (c : Int) (rows : List (List Int)) : Prop := ∀ r ∈ rows, r.length ≤ 12 ∧ ∀ p ∈ r, 0 ≤ p ∧ p < c
def ISet (c : Int) (as : List Int) (δ : IL.Env) : Prop := ∃ (B : Bag) (rows : List (List Int)) (s3 s4 : Slot), δ = [.ow (.lst B.ds), .im (.int c), .ow (.lst (rows.map lstD)), s3, s4, .un] ∧ RowsIn c rows ∧ rows.length + as.length ≤ 7
theorem T_sets (n : Nat) (B : Bag) (c : Int) (hc0 : 0 ≤ c) (hc1 : c ≤ 12) : ∃ (rows : List (List Int)) (B' : Bag), T (n + 2) f_l_sets [.ow (.lst B.ds), .im (.int c)] = .ret (.new (.lst (rows.map lstD))) [.ow (.lst B'.ds), .im (.int c)] ∧ rows.length ≤ 8 ∧ RowsIn c rows := by
  have run := IL.tbl_succ (ds := defs.map J.DefR.il) (n := n + 1) (f := f_l_sets) (d := d_l_sets.il) (δ := [.ow (.lst B.ds), .im (.int c)]) rfl rfl
  have t1 := T_take n 7 B (by decide) (by decide)
  have r1 := tk_rng 7 B (by decide) (by decide)
  have r2 : -4611686018427387904 ≤ (tk 7 B).1 := by omega
  have r3 : (tk 7 B).1 < 4611686018427387904 := by omega
  simp -implicitDefEqProofs [d_l_sets, c_l_sets, t1, r2, r3] at run
  generalize hX : IL.forGo _ _ _ _ _ = X at run
  obtain ⟨δ', rfl, B1, rows, s3, s4, rfl, h1, h2⟩ : ∃ δ', X = .ok .nx δ' ∧ ISet c [] δ' := by
    refine IL.forGo_alls PyData.int _ hX ⟨(tk 7 B).2, [], .un, .un, rfl, by simp [RowsIn], ?_⟩ ?_
    · simp
      omega
    · rintro p as _ ⟨B1, rows, s3, s4, rfl, h1, h2⟩
      rw [List.length_cons] at h2
      have t2 := T_take n 4 B1 (by decide) (by decide)
      have q1 := tk_rng 4 B1 (by decide) (by decide)
      have q2 : -4611686018427387904 ≤ 1 + (tk 4 B1).1 := by omega
      have q3 : 1 + (tk 4 B1).1 < 4611686018427387904 := by omega
      by_cases hc : 0 < c
      · have hcn : c.natAbs < 18446744073709551616 := by omega
        obtain ⟨r, B2, e, q⟩ := IL.lcGo_rel (kp := 2) (g := .name 5) (c := IL.cTT) (e := IL.evDm ⟨2, IL.tbl (List.map J.DefR.il defs) (n + 1)⟩ (.call 5 (.cons (.var 0) (.cons (.fz (.var 1)) .nil)))) (vs := [5]) PyData.int PyData.int (fun (B : Bag) => [.ow (.lst B.ds), .im (.int c), .ow (.lst (rows.map lstD)), .im (.int p), .im (.int (1 + (tk 4 B1).1)), .un]) (fun _ x => 0 ≤ x ∧ x < c) ((List.range (1 + (tk 4 B1).1).toNat).map fun (i : Nat) => (i : Int)) [] (tk 4 B1).2 (fun a ha B => by
          have hT := T_take n c B hc hcn
          exact ⟨(tk c B).1, (tk c B).2, by simp [hT], tk_rng c B hc hcn⟩) (by simp; omega)
        have hl := q.length
        rw [List.length_map, List.length_range] at hl
        refine ⟨_, .inl ?_, B2, rows ++ [r], .im (.int p), .im (.int (1 + (tk 4 B1).1)), rfl, ?_, ?_⟩
        · have e' : IL.lcGo 2 (.name 5) IL.cTT (IL.evDm ⟨2, IL.tbl (List.map J.DefR.il defs) (n + 1)⟩ (.call 5 (.cons (.var 0) (.cons (.fz (.var 1)) .nil)))) [5] (intsD ((List.range (1 + (tk 4 B1).1).toNat).map fun (i : Nat) => (i : Int))) [] [.ow (.lst (tk 4 B1).2.ds), .im (.int c), .ow (.lst (rows.map lstD)), .im (.int p), .im (.int (1 + (tk 4 B1).1)), .un] = .ok (intsD r) [.ow (.lst B2.ds), .im (.int c), .ow (.lst (rows.map lstD)), .im (.int p), .im (.int (1 + (tk 4 B1).1)), .un] := e
          have hl2 : rows.length < 16777216 := by omega
          simp [t2, q2, q3, hc, e', hl2, lstD]
        · intro x hx
          rcases List.mem_append.mp hx with m | m
          · exact h1 x m
          · rw [List.mem_singleton] at m
            subst m
            exact ⟨by omega, fun p hp => (q.right p hp).elim fun _ z => z.2⟩
        · rw [List.length_append]
          simp
          omega
      · refine ⟨_, .inl ?_, (tk 4 B1).2, rows, .im (.int p), .im (.int (1 + (tk 4 B1).1)), rfl, h1, by omega⟩
        simp [t2, q2, q3, hc]
  have t3 := T_take n 8 B1 (by decide) (by decide)
  simp [t3] at run
  by_cases q : (tk 8 B1).1 = 7
  · have m1 : (0 : Int) < rows.length + 1 := by omega
    have m2 : ((rows.length : Int) + 1).natAbs < 18446744073709551616 := by
      simp at h2
      omega
    have t4 := T_take n ((rows.length : Int) + 1) (tk 8 B1).2 m1 m2
    have q4 := tk_rng ((rows.length : Int) + 1) (tk 8 B1).2 m1 m2
    have q5 : (tk ((rows.length : Int) + 1) (tk 8 B1).2).1 < 9223372036854775808 := by
      simp at h2
      omega
    have q6 : rows.length < 16777216 := by
      simp at h2
      omega
    refine ⟨rows.take (tk ((rows.length : Int) + 1) (tk 8 B1).2).1.toNat ++ [[]] ++ rows.drop (tk ((rows.length : Int) + 1) (tk 8 B1).2).1.toNat, (tk ((rows.length : Int) + 1) (tk 8 B1).2).2, run.trans ?_, ?_, ?_⟩
    · simp [q, m1, m2, t4, q4.1, q5, q6]
      simp [lstD]
    · simp at h2
      simp
      omega
    · intro x hx
      rcases List.mem_append.mp hx with m | m
      · rcases List.mem_append.mp m with m | m
        · exact h1 x (List.mem_of_mem_take m)
        · rw [List.mem_singleton] at m
          subst m
          simp
      · exact h1 x (List.mem_of_mem_drop m)
  · exact ⟨rows, (tk 8 B1).2, run.trans (by simp [q]), by simp at h2; omega, h1⟩
/-! ### tuples -/
def tupsF : List (List Int) → List Int → List (List Int)
  | ts, [] => ts
  | ts, p :: as => tupsF (ts ++ ts.map fun t => t ++ [p]) as
theorem tupsF_mem : ∀ (as : List Int) (ts : List (List Int)) (t : List Int), t ∈ tupsF ts as → ∃ t0 ∈ ts, ∃ s, s.Sublist as ∧ t = t0 ++ s
  | [], ts, t, h => ⟨t, h, [], List.Sublist.refl _, by simp⟩
  | p :: as, ts, t, h => by
    obtain ⟨t0, h0, s, hs, e⟩ := tupsF_mem as _ t h
    rcases List.mem_append.mp h0 with m | m
    · exact ⟨t0, m, s, hs.cons p, e⟩
    · obtain ⟨t1, m1, rfl⟩ := List.mem_map.mp m
      exact ⟨t1, m1, p :: s, hs.cons_cons p, by rw [e]; simp⟩
theorem mem_tupsF : ∀ (as : List Int) (ts : List (List Int)) (t0 s : List Int), t0 ∈ ts → s.Sublist as → t0 ++ s ∈ tupsF ts as
  | [], ts, t0, s, h, hs => by
    have : s = [] := List.eq_nil_of_sublist_nil hs
    subst this
    simpa [tupsF] using h
  | p :: as, ts, t0, s, h, hs => by
    rw [tupsF]
    cases hs with
    | cons _ hs => exact mem_tupsF as _ t0 s (List.mem_append_left _ h) hs
    | cons_cons _ hs =>
      rename_i s
      have := mem_tupsF as (ts ++ ts.map fun t => t ++ [p]) (t0 ++ [p]) s (List.mem_append_right _ (List.mem_map_of_mem h)) hs
      simpa using this
def rngI (n : Nat) : List Int := (List.range n).map fun (i : Nat) => (i : Int)
theorem mem_rngI (n : Nat) (p : Int) : p ∈ rngI n ↔ 0 ≤ p ∧ p < n := by
  unfold rngI
  rw [List.mem_map]
  constructor
  · rintro ⟨i, hi, rfl⟩
    rw [List.mem_range] at hi
    omega
  · rintro ⟨h0, h1⟩
    exact ⟨p.toNat, List.mem_range.mpr (by omega), by omega⟩
theorem rngI_asc (n : Nat) : (rngI n).Pairwise (· < ·) := by
  unfold rngI
  rw [List.pairwise_map]
  exact List.pairwise_lt_range.imp fun h => by omega
theorem tups_asc (n : Nat) (t : List Int) : t ∈ tupsF [[]] (rngI n) ↔ Asc n t := by
  constructor
  · intro h
    obtain ⟨t0, h0, s, hs, e⟩ := tupsF_mem _ _ _ h
    rw [List.mem_singleton] at h0
    subst h0
    rw [List.nil_append] at e
    subst e
    exact ⟨(rngI_asc n).sublist hs, fun p hp => (mem_rngI n p).mp (hs.subset hp)⟩
  · intro h
    have e : (rngI n).filter (fun x => decide (x ∈ t)) = t := by
      refine asc_ext _ _ ((rngI_asc n).filter _) h.1 fun x => ?_
      rw [List.mem_filter, mem_rngI]
      exact ⟨fun q => of_decide_eq_true q.2, fun q => ⟨h.2 x q, decide_eq_true q⟩⟩
    have := mem_tupsF (rngI n) [[]] [] t (by simp) (by
      have := List.filter_sublist (l := rngI n) (p := fun x => decide (x ∈ t))
      rw [e] at this
      exact this)
    simpa using this
def ITup (n : Int) (full : List (List Int)) (as : List Int) (δ : IL.Env) : Prop := ∃ (ts : List (List Int)) (s2 : Slot), δ = [.im (.int n), .ow (.lst (ts.map tupD)), s2, .un] ∧ tupsF ts as = full ∧ ts.length * 2 ^ as.length ≤ 4096 ∧ ∀ t ∈ ts, t.length + as.length ≤ 12
theorem T_tuples (n : Nat) (c : Int) (m : Nat) (hc : c = m) (hm : m ≤ 12) : T (n + 1) f_l_tuples [.im (.int c)] = .ret (.new (.lst ((tupsF [[]] (rngI m)).map tupD))) [.im (.int c)] := by
  have run := IL.tbl_succ (ds := defs.map J.DefR.il) (n := n) (f := f_l_tuples) (d := d_l_tuples.il) (δ := [.im (.int c)]) rfl rfl
  have r2 : -4611686018427387904 ≤ c := by omega
  have r3 : c < 4611686018427387904 := by omega
  have r4 : c.toNat = m := by omega
  simp -implicitDefEqProofs [d_l_tuples, c_l_tuples, r2, r3] at run
  generalize hX : IL.forGo _ _ _ _ _ = X at run
  obtain ⟨δ', rfl, ts, s2, rfl, h1, h2, -⟩ : ∃ δ', X = .ok .nx δ' ∧ ITup c (tupsF [[]] (rngI m)) [] δ' := by
    refine IL.forGo_alls PyData.int _ hX ⟨[[]], .un, by simp [tupD], by rw [r4]; rfl, ?_, ?_⟩ ?_
    · have : 2 ^ m ≤ 2 ^ 12 := Nat.pow_le_pow_right (by decide) hm
      rw [r4, List.length_map, List.length_range]
      simp
      omega
    · rw [r4, List.length_map, List.length_range]
      simp
      omega
    · rintro p as _ ⟨ts, s2, rfl, h1, h2, h9⟩
      rw [List.length_cons, Nat.pow_succ] at h2
      rw [List.length_cons] at h9
      have h3 : 0 < 2 ^ as.length := Nat.pow_pos (by decide)
      have h4 : ts.length ≤ ts.length * 2 ^ as.length := Nat.le_mul_of_pos_right _ h3
      have h5 : ts.length * 2 ^ as.length * 2 = ts.length * (2 ^ as.length * 2) := Nat.mul_assoc _ _ _
      have h6 : ts.length + ts.length ≤ 16777216 := by omega
      refine ⟨[.im (.int c), .ow (.lst ((ts ++ ts.map fun t => t ++ [p]).map tupD)), .im (.int p), .un], .inl ?_, ts ++ ts.map fun t => t ++ [p], _, rfl, h1, ?_, ?_⟩
      · simp
        rw [IL.lcGo_map tupD (fun t => tupD (t ++ [p]))]
        · simp [h6]
        · intro t ht
          have h10 : t.length ≤ 16777215 := by
            have := h9 t ht
            omega
          simp [tupD, h10]
        · simp
          omega
      · rw [List.length_append, List.length_map]
        have : (ts.length + ts.length) * 2 ^ as.length = ts.length * 2 ^ as.length + ts.length * 2 ^ as.length := Nat.add_mul _ _ _
        omega
      · intro t ht
        rcases List.mem_append.mp ht with q | q
        · have := h9 t q
          omega
        · obtain ⟨t1, m1, rfl⟩ := List.mem_map.mp q
          have := h9 t1 m1
          rw [List.length_append]
          simp
          omega
  simp [tupsF] at h1
  refine run.trans ?_
  simp [h1]
/-! ### the best -/
def hitsB (rows : List (List Int)) (t : List Int) : Bool := rows.all fun r => r.any fun p => decide (p ∈ t)
theorem hitsB_iff (rows : List (List Int)) (t : List Int) : hitsB rows t = true ↔ Hits rows t := by
  unfold hitsB Hits
  simp
def IHit (rows : List (List Int)) (t : List Int) (full : List (List Int)) (as : List (List Int)) (δ : IL.Env) : Prop := ∃ (s2 : Slot), δ = [.im (tupD t), .im (.list (full.map lstD)), s2, .un] ∧ hitsB full t = hitsB as t
theorem T_hits (n : Nat) (rows : List (List Int)) (t : List Int) (hl : ∀ r ∈ rows, r.length ≤ 100) : T (n + 1) f_l_hits [.im (tupD t), .im (.list (rows.map lstD))] = .ret (.dat (.bool (hitsB rows t))) [.im (tupD t), .im (.list (rows.map lstD))] := by
  have run := IL.tbl_succ (ds := defs.map J.DefR.il) (n := n) (f := f_l_hits) (d := d_l_hits.il) (δ := [.im (tupD t), .im (.list (rows.map lstD))]) rfl rfl
  simp -implicitDefEqProofs [d_l_hits, c_l_hits] at run
  generalize hX : IL.forGo _ _ _ _ _ = X at run
  have H := IL.forGo_rels lstD (fun as δ => (∃ (s2 : Slot), δ = [.im (tupD t), .im (.list (rows.map lstD)), s2, .un] ∧ hitsB rows t = hitsB as t) ∧ ∀ r ∈ as, r.length ≤ 100) (fun v δ => v = .dat (.bool false) ∧ hitsB rows t = false ∧ ∃ (s2 : Slot), δ = [.im (tupD t), .im (.list (rows.map lstD)), s2, .un]) hX ⟨⟨.un, rfl, rfl⟩, hl⟩ (by
    rintro r as _ ⟨⟨s2, rfl, h1⟩, h2⟩
    have hr := h2 r List.mem_cons_self
    have e : IL.lcGo 2 (.name 3) IL.cTT (IL.evDm ⟨2, IL.tbl (List.map J.DefR.il defs) n⟩ (.cmp .isin (.var 3) (.var 0))) [3] (intsD r) [] [.im (tupD t), .im (.list (rows.map lstD)), .im (lstD r), .un] = .ok (IL.boolsD (r.map fun p => decide (p ∈ t))) [.im (tupD t), .im (.list (rows.map lstD)), .im (lstD r), .un] := by
      refine IL.lcGo_ibools (fun p => decide (p ∈ t)) _ r (fun p hp => ?_) (by omega)
      simp [tupD]
    cases q : r.any fun p => decide (p ∈ t) with
    | true =>
      refine .inl ⟨[.im (tupD t), .im (.list (rows.map lstD)), .im (lstD r), .un], .inl ?_, ⟨.im (lstD r), rfl, ?_⟩, fun x hx => h2 x (List.mem_cons_of_mem _ hx)⟩
      · simp [lstD] at e ⊢
        simp [e, q]
      · rw [h1]
        show ((r.any fun p => decide (p ∈ t)) && _) = _
        rw [q]
        rfl
    | false =>
      refine .inr ⟨.dat (.bool false), [.im (tupD t), .im (.list (rows.map lstD)), .im (lstD r), .un], ?_, rfl, ?_, .im (lstD r), rfl⟩
      · simp [lstD] at e ⊢
        simp [e, q]
      · rw [h1]
        show ((r.any fun p => decide (p ∈ t)) && _) = _
        rw [q]
        rfl)
  refine run.trans ?_
  rcases H with ⟨δ', rfl, ⟨s2, rfl, h1⟩, -⟩ | ⟨v, δ', rfl, rfl, h1, s2, rfl⟩
  · have h2 : hitsB rows t = true := h1
    simp [h2]
  · simp [h1]
theorem T_best (n : Nat) (rows : List (List Int)) (w : List Int) (hl : RowsIn w.length rows) (hn : w.length ≤ 12) : ∃ o, BestO rows w o ∧ T (n + 2) f_l_best [.im (.list (rows.map lstD)), .im (.list (intsD w))] = .ret (.dat (optD o)) [.im (.list (rows.map lstD)), .im (.list (intsD w))] := by
  have run := IL.tbl_succ (ds := defs.map J.DefR.il) (n := n + 1) (f := f_l_best) (d := d_l_best.il) (δ := [.im (.list (rows.map lstD)), .im (.list (intsD w))]) rfl rfl
  have tt := T_tuples n (w.length : Int) w.length rfl hn
  simp -implicitDefEqProofs [d_l_best, c_l_best, tt] at run
  generalize hX : IL.forGo _ _ _ _ _ = X at run
  obtain ⟨δ', rfl, o, s3, s4, rfl, h1, h2, -⟩ := IL.forGo_alls tupD (fun as δ => ∃ (o : Option (List Int)) (s3 s4 : Slot), δ = [.im (.list (rows.map lstD)), .im (.list (intsD w)), .im (bestD w o), s3, s4, .un] ∧ (∀ t, o = some t → Asc w.length t ∧ Hits rows t) ∧ (∀ t, Asc w.length t → Hits rows t → t ∈ as ∨ ∃ u, o = some u ∧ kLe w u t) ∧ ∀ t ∈ as, Asc w.length t) hX ⟨none, .un, .un, rfl, by simp, fun t ha _ => .inl ((tups_asc _ _).mpr ha), fun t ht => (tups_asc _ _).mp ht⟩ (by
    rintro t as _ ⟨o, s3, s4, rfl, h1, h2, h3⟩
    have ha := h3 t List.mem_cons_self
    have h3' := fun x hx => h3 x (List.mem_cons_of_mem t hx)
    have hT := T_hits n rows t (fun r hr => by have := (hl r hr).1; omega)
    by_cases hh : hitsB rows t = true
    · have hh' := (hitsB_iff _ _).mp hh
      have e : IL.lcGo 2 (.name 5) IL.cTT (IL.evDm ⟨2, IL.tbl (List.map J.DefR.il defs) (n + 1)⟩ (.idx (.var 1) (.var 5))) [5] (intsD t) [] [.im (.list (rows.map lstD)), .im (.list (intsD w)), .im (bestD w o), .im (tupD t), s4, .un] = .ok (intsD (t.map (wt w))) [.im (.list (rows.map lstD)), .im (.list (intsD w)), .im (bestD w o), .im (tupD t), s4, .un] := by
        refine IL.lcGo_ints (wt w) _ t (fun p hp => ?_) (by have := nodup_len _ t (ha.1.imp fun h => by omega) ha.2; omega)
        simp [wt_at w p (ha.2 p hp).1 (ha.2 p hp).2]
      have ek : PyData.tuple [.int (t.map (wt w)).sum, .int t.length, .tuple (intsD t)] = keyD w t := rfl
      by_cases hq : ∀ u, o = some u → kLt w t u
      · refine ⟨[.im (.list (rows.map lstD)), .im (.list (intsD w)), .im (keyD w t), .im (tupD t), .im (keyD w t), .un], .inl ?_, some t, _, _, rfl, ?_, ?_, h3'⟩
        · cases o with
          | none =>
            simp -implicitDefEqProofs [bestD, tupD] at e hT ⊢
            simp -implicitDefEqProofs [e, hT, hh, ek]
          | some u =>
            have := hq u rfl
            simp -implicitDefEqProofs [bestD, tupD] at e hT ⊢
            simp -implicitDefEqProofs [e, hT, hh, ek, lt_key, this]
        · intro u hu
          injection hu with hu
          subst hu
          exact ⟨ha, hh'⟩
        · intro x hx hxx
          rcases h2 x hx hxx with q | ⟨u, hu, l⟩
          · rcases List.mem_cons.mp q with q | q
            · exact .inr ⟨t, rfl, q ▸ kLe_refl w t⟩
            · exact .inl q
          · refine .inr ⟨t, rfl, ?_⟩
            rcases kLe_total w t u with z | z
            · exact kLe_trans z l
            · exact absurd (hq u hu) z
      · have : ∃ u, o = some u ∧ ¬ kLt w t u := by
          rcases o with _ | u
          · exact absurd (fun u hu => nomatch hu) hq
          · refine ⟨u, rfl, fun z => hq fun v hv => ?_⟩
            injection hv with hv
            exact hv ▸ z
        obtain ⟨u, rfl, hlt⟩ := this
        refine ⟨[.im (.list (rows.map lstD)), .im (.list (intsD w)), .im (keyD w u), .im (tupD t), .im (keyD w t), .un], .inl ?_, some u, _, _, rfl, h1, ?_, h3'⟩
        · simp -implicitDefEqProofs [bestD, tupD] at e hT ⊢
          simp -implicitDefEqProofs [e, hT, hh, ek, lt_key, hlt]
        · intro x hx hxx
          rcases h2 x hx hxx with q | q
          · rcases List.mem_cons.mp q with q | q
            · exact .inr ⟨u, rfl, q ▸ hlt⟩
            · exact .inl q
          · exact .inr q
    · have hh' : hitsB rows t = false := by
        cases q : hitsB rows t with
        | false => rfl
        | true => exact absurd q hh
      refine ⟨[.im (.list (rows.map lstD)), .im (.list (intsD w)), .im (bestD w o), .im (tupD t), s4, .un], .inl ?_, o, _, _, rfl, h1, ?_, h3'⟩
      · simp -implicitDefEqProofs [tupD] at hT ⊢
        simp -implicitDefEqProofs [hT, hh']
      · intro x hx hxx
        rcases h2 x hx hxx with q | q
        · rcases List.mem_cons.mp q with q | q
          · subst q
            exact absurd ((hitsB_iff _ _).mpr hxx) hh
          · exact .inl q
        · exact .inr q)
  refine ⟨o, ⟨h1, fun t ha hh => (h2 t ha hh).elim (fun q => absurd q (by simp)) id⟩, run.trans ?_⟩
  cases o with
  | none => simp -implicitDefEqProofs [bestD, optD]
  | some t => simp -implicitDefEqProofs [bestD, optD, keyD]
end K38
end
section
set_option Elab.async false
set_option linter.all false
set_option autoImplicit false
set_option maxRecDepth 100000
set_option maxHeartbeats 1000000
/-! M6: the law's questions. -/
namespace K38
open PySem
open IL (Slot Ow seqD intsD sortI uniqI)
def Show (d : PyData) : Prop := (d.showable = true ∧ d.depth ≤ 60 ∧ d.shown.length ≤ sizeLine) ∧ d.plain = true ∧ PyData.eqv d d = true ∧ IL.plain2 d d = true
theorem fn_repr (d : PyData) (h : Show d) : IL.fn .repr [d] = some (.dat (.str d.shown)) := if_pos h.1
theorem plain2_str (a : Str) : IL.plain2 (.str a) (.str a) = true := by simp [IL.plain2]
theorem eqv_str (a : Str) : PyData.eqv (.str a) (.str a) = true := IL.eqv_self _ (by simp)
theorem T_same (n : Nat) (d : PyData) (h : Show d) : T (n + 1) f_l_same [.im d, .im d] = .ret (.dat (.bool true)) [.im d, .im d] := by
  refine (IL.tbl_succ (d := d_l_same.il) rfl rfl).trans ?_
  simp -implicitDefEqProofs [d_l_same, c_l_same, fn_repr d h, plain2_str, eqv_str, h.2.1, h.2.2.1, h.2.2.2]
theorem showable_ints : ∀ t : List Int, (∀ p ∈ t, 0 ≤ p ∧ p < 100) → PyData.showableAll (intsD t) = true
  | [], _ => by simp [PyData.showableAll]
  | p :: t, h => by
    have hp := h p List.mem_cons_self
    have : p.natAbs.log2 < 1920 := by
      by_cases q : p.natAbs = 0
      · rw [q]
        decide
      · exact Nat.lt_of_lt_of_le ((Nat.log2_lt q).mpr (by omega : p.natAbs < 2 ^ 7)) (by decide)
    simp [PyData.showableAll, PyData.showable, this, showable_ints t fun x hx => h x (List.mem_cons_of_mem _ hx)]
theorem weight_ints : ∀ t : List Int, (∀ p ∈ t, 0 ≤ p ∧ p < 100) → PyData.weightAll (intsD t) ≤ 10 * t.length
  | [], _ => by simp [PyData.weightAll]
  | p :: t, h => by
    have hp := h p List.mem_cons_self
    have ih := weight_ints t fun x hx => h x (List.mem_cons_of_mem _ hx)
    have : PyData.weight (.int p) ≤ 8 := by
      rw [PyData.weight]
      split
      · omega
      · rename_i q
        have q' : p.natAbs ≠ 0 := by
          intro z
          apply q
          have : p = 0 := by omega
          subst this
          rfl
        have := (Nat.log2_lt q').mpr (by omega : p.natAbs < 2 ^ 7)
        omega
    rw [IL.intsD_cons, PyData.weightAll, List.length_cons]
    omega
theorem short_ints : ∀ t : List Int, (∀ p ∈ t, 0 ≤ p ∧ p < 100) → PyData.leavesShortAll 13 (intsD t) = true
  | [], _ => by simp [PyData.leavesShortAll]
  | p :: t, h => by
    have hp := h p List.mem_cons_self
    have := PyData.shown_int_le (i := p) (by omega)
    simp [PyData.leavesShortAll, PyData.leavesShort, this, short_ints t fun x hx => h x (List.mem_cons_of_mem _ hx)]
theorem show_opt (w : List Int) (o : Option (List Int)) (hn : w.length ≤ 12) (h : ∀ t, o = some t → Asc w.length t) : Show (optD o) := by
  cases o with
  | none =>
    refine ⟨⟨rfl, by simp [optD], ?_⟩, by simp [optD], IL.eqv_self _ (by simp [optD]), by simp [IL.plain2, optD]⟩
    exact PyData.shown_fits (B := 13) (by decide) (by decide) rfl (by simp [optD, PyData.weight])
  | some t =>
    have ha := h t rfl
    have hp : ∀ p ∈ t, 0 ≤ p ∧ p < 100 := fun p hp => ⟨(ha.2 p hp).1, by have := (ha.2 p hp).2; omega⟩
    have hl := nodup_len _ t (ha.1.imp fun h => by omega) ha.2
    have hw := weight_ints t hp
    refine ⟨⟨?_, by simp [optD], ?_⟩, by simp [optD], IL.eqv_self _ (by simp [optD]), by simp [IL.plain2, optD]⟩
    · show PyData.showable (.tuple (intsD t)) = true
      rw [PyData.showable]
      exact showable_ints t hp
    · refine PyData.shown_fits (B := 13) (by decide) (by decide) ?_ ?_
      · show PyData.leavesShort 13 (.tuple (intsD t)) = true
        rw [PyData.leavesShort]
        exact short_ints t hp
      · show PyData.weight (.tuple (intsD t)) ≤ _
        rw [PyData.weight]
        omega
def keptD (r : Bool × List Int) : PyData := .tuple (intsD r.2)
theorem T_asked (n : Nat) (B : Bag) (rows : List (List Int)) (w : List Int) (o : Option (List Int)) (du : PyData) (hdu : optD o = du) (hr : rows.length ≤ 100) (hl : RowsIn w.length rows) (hw : ∀ p : Int, 0 ≤ p → p < w.length → 0 < wt w p) (hn : w.length ≤ 12) (hb : BestO rows w o) :
    ∃ B' : Bag, T (n + 3) f_l_asked [.ow (.lst B.ds), .im (.list (rows.map lstD)), .im (.list (intsD w)), .im du] = .ret (.dat (.bool true)) [.ow (.lst B'.ds), .im (.list (rows.map lstD)), .im (.list (intsD w)), .im du] := by
  obtain ⟨rs, B1, e, q⟩ := IL.lcGo_rel (kp := 4) (g := .name 8) (c := IL.cTT) (e := IL.evDm ⟨4, IL.tbl (List.map J.DefR.il defs) (n + 2)⟩ (.call 10 (.cons (.var 0) (.cons (.fz (.var 8)) .nil)))) (vs := [8]) lstD rowD (fun (B : Bag) => [.ow (.lst B.ds), .im (.list (rows.map lstD)), .im (.list (intsD w)), .im du, .un, .un, .un, .un, .un]) (fun a b => b.2 = a) rows [] B (fun r hr B => by
    have hT := T_kind n B (intsD r)
    by_cases h : (tk 2 B).1 = 1
    · exact ⟨(true, r), (tk 2 B).2, by simp -implicitDefEqProofs [hT, h, lstD, rowD, seqD], rfl⟩
    · exact ⟨(false, r), (tk 2 B).2, by simp -implicitDefEqProofs [hT, h, lstD, rowD, seqD], rfl⟩) (by simp; omega)
  have hrs := q.snd
  have hln := q.length
  have hrl : ∀ r ∈ rs, r.2.length ≤ 12 ∧ ∀ p ∈ r.2, 0 ≤ p ∧ p < w.length := fun r hm => hl r.2 (hrs ▸ List.mem_map_of_mem hm)
  have k1 := T_kind n B1 (rs.map rowD)
  have k2 := T_kind n (tk 2 B1).2 (intsD w)
  have least := fun hb wb => T_least n hb wb rs w (by omega) hrl hw hn
  have due : ∀ hb wb, T (n + 2) f_least_hitting [.im (seqD hb (rs.map rowD)), .im (seqD wb (intsD w))] = .ret (.dat du) [.im (seqD hb (rs.map rowD)), .im (seqD wb (intsD w))] := by
    intro hb' wb
    obtain ⟨o', b', e'⟩ := least hb' wb
    rw [hrs] at b'
    rw [e', best_one b' hb, hdu]
  have hs := T_same (n + 1) du (hdu ▸ show_opt w o hn fun t ht => (hb.1 t ht).1)
  have kk : ∀ (l : Bool) (δ : IL.Env), δ[8]? = some .un → True := fun _ _ _ => trivial
  have p1 : IL.plain2 (.list (rs.map keptD)) (.list (rs.map keptD)) = true := by
    have a := IL.plainAll_map keptD (fun r => by simp [keptD]) rs
    have b := IL.depthAll_map keptD 1 (fun r => by simp [keptD]) rs
    simp [IL.plain2, a]
    omega
  have p2 : PyData.eqv (.list (rs.map keptD)) (.list (rs.map keptD)) = true := IL.eqv_self _ (by simp [IL.plainAll_map keptD (fun r => by simp [keptD]) rs])
  have p3 : IL.plain2 (.list (intsD w)) (.list (intsD w)) = true := by simp [IL.plain2]
  have p4 : PyData.eqv (.list (intsD w)) (.list (intsD w)) = true := IL.eqv_self _ (by simp)
  have run := IL.tbl_succ (ds := defs.map J.DefR.il) (n := n + 2) (f := f_l_asked) (d := d_l_asked.il) (δ := [.ow (.lst B.ds), .im (.list (rows.map lstD)), .im (.list (intsD w)), .im du]) rfl rfl
  simp -implicitDefEqProofs [d_l_asked, c_l_asked, e] at run
  have kept : ∀ (δ : IL.Env) (l : List PyData), δ.length = 9 → IL.lcGo 4 (.name 8) IL.cTT (IL.evDm ⟨4, IL.tbl (List.map J.DefR.il defs) (n + 2)⟩ (.bi .tuple (.cons (.var 8) .nil))) [8] (rs.map rowD) [] (δ.set 8 .un) = .ok (rs.map keptD) (δ.set 8 .un) := by
    intro δ l hδ
    obtain ⟨a0, a1, a2, a3, a4, a5, a6, a7, a8, rfl⟩ : ∃ a0 a1 a2 a3 a4 a5 a6 a7 a8, δ = [a0, a1, a2, a3, a4, a5, a6, a7, a8] := by
      match δ, hδ with
      | [a0, a1, a2, a3, a4, a5, a6, a7, a8], _ => exact ⟨a0, a1, a2, a3, a4, a5, a6, a7, a8, rfl⟩
    rw [IL.lcGo_map rowD keptD]
    · rfl
    · intro r hr
      simp -implicitDefEqProofs [rowD, keptD]
    · simp
      omega
  have kept2 : ∀ (a0 a1 a2 a3 a4 a5 a6 a7 : Slot), IL.lcGo 4 (.name 8) IL.cTT (IL.evDm ⟨4, IL.tbl (List.map J.DefR.il defs) (n + 2)⟩ (.bi .tuple (.cons (.var 8) .nil))) [8] (rs.map rowD) [] [a0, a1, a2, a3, a4, a5, a6, a7, .un] = .ok (rs.map keptD) [a0, a1, a2, a3, a4, a5, a6, a7, .un] := fun a0 a1 a2 a3 a4 a5 a6 a7 => kept [a0, a1, a2, a3, a4, a5, a6, a7, .un] [] rfl
  refine ⟨(tk 2 (tk 2 B1).2).2, run.trans ?_⟩
  have due1 := due true true
  have due2 := due true false
  have due3 := due false true
  have due4 := due false false
  simp [seqD] at due1 due2 due3 due4
  by_cases h1 : (tk 2 B1).1 = 1
  · by_cases h2 : (tk 2 (tk 2 B1).2).1 = 1
    · simp -implicitDefEqProofs [kept2, k1, k2, h1, h2, due1, hs, p1, p2, p3, p4]
    · simp -implicitDefEqProofs [kept2, k1, k2, h1, h2, due2, hs, p1, p2, p3, p4]
  · by_cases h2 : (tk 2 (tk 2 B1).2).1 = 1
    · simp -implicitDefEqProofs [kept2, k1, k2, h1, h2, due3, hs, p1, p2, p3, p4]
    · simp -implicitDefEqProofs [kept2, k1, k2, h1, h2, due4, hs, p1, p2, p3, p4]
end K38
end
section
set_option Elab.async false
set_option linter.all false
set_option autoImplicit false
set_option maxRecDepth 100000
set_option maxHeartbeats 1000000
/-! M7: the law. -/
namespace K38
open PySem
open IL (Slot Ow seqD intsD sortI uniqI)
theorem cut_to {α : Type} (ds : List α) (i : Int) (h0 : 0 ≤ i) (h1 : i ≤ ds.length) : IL.cutD ds none (some i) = ds.take i.toNat := by
  obtain ⟨k, rfl⟩ := Int.eq_ofNat_of_zero_le h0
  unfold IL.cutD
  rw [HT.sIx_none, HT.sIx_nat, List.drop_zero, Int.toNat_natCast, Nat.min_eq_left (by omega), Nat.sub_zero]
theorem cut_from {α : Type} (ds : List α) (i : Int) (h0 : 0 ≤ i) (h1 : i ≤ ds.length) : IL.cutD ds (some i) none = ds.drop i.toNat := by
  obtain ⟨k, rfl⟩ := Int.eq_ofNat_of_zero_le h0
  unfold IL.cutD
  rw [HT.sIx_none, HT.sIx_nat, Int.toNat_natCast, Nat.min_eq_left (by omega), List.take_of_length_le (by rw [List.length_drop]; omega)]
theorem ints_rev (t : List Int) : (intsD t).reverse = intsD t.reverse := by simp [intsD]
theorem ints_drop (t : List Int) (k : Nat) : (intsD t).drop k = intsD (t.drop k) := by simp [intsD, List.map_drop]
theorem ints_at (t : List Int) (i : Int) (h0 : 0 ≤ i) (h1 : i < t.length) : ∃ p ∈ t, L2.atI (intsD t) i = some (.int p) := by
  obtain ⟨k, rfl⟩ := Int.eq_ofNat_of_zero_le h0
  refine ⟨t[k]'(by omega), List.getElem_mem _, ?_⟩
  rw [IL.atI_ofNat]
  unfold intsD
  rw [List.getElem?_map, List.getElem?_eq_getElem (by omega)]
  rfl
theorem rows_mid {rows : List (List Int)} {c : Int} {r : List Int} (k : Nat) (h : RowsIn c rows) (hr : r.length ≤ 12 ∧ ∀ p ∈ r, 0 ≤ p ∧ p < c) : RowsIn c (rows.take k ++ [r] ++ rows.drop k) := by
  intro x hx
  rcases List.mem_append.mp hx with m | m
  · rcases List.mem_append.mp m with m | m
    · exact h x (List.mem_of_mem_take m)
    · rw [List.mem_singleton] at m
      exact m ▸ hr
  · exact h x (List.mem_of_mem_drop m)
theorem mid_mem {rows : List (List Int)} {r : List Int} (k : Nat) (x : List Int) : x ∈ rows.take k ++ [r] ++ rows.drop k ↔ x ∈ rows ∨ x = r := by
  constructor
  · intro hx
    rcases List.mem_append.mp hx with m | m
    · rcases List.mem_append.mp m with m | m
      · exact .inl (List.mem_of_mem_take m)
      · rw [List.mem_singleton] at m
        exact .inr m
    · exact .inl (List.mem_of_mem_drop m)
  · rintro (m | rfl)
    · rw [← List.take_append_drop k rows] at m
      rcases List.mem_append.mp m with m | m
      · exact List.mem_append_left _ (List.mem_append_left _ m)
      · exact List.mem_append_right _ m
    · simp
theorem mid_len {rows : List (List Int)} {r : List Int} (k : Nat) : (rows.take k ++ [r] ++ rows.drop k).length = rows.length + 1 := by
  have := congrArg List.length (List.take_append_drop k rows)
  simp only [List.length_append, List.length_cons, List.length_nil] at this ⊢
  omega
def rrev (rows : List (List Int)) : List (List Int) := rows.reverse.map List.reverse
theorem law_run (n : Nat) (ns : List Int) : IL.tbl (defs.map J.DefR.il) (n + 4) f_law [.im (.list (IL.intsD ns))] = .ret (.dat (.bool true)) [.im (.list (IL.intsD ns))] := by
  obtain ⟨B0, hb0⟩ := T_bag ns 0 (by decide)
  obtain ⟨B1, hb1⟩ := T_bag ns 1 (by decide)
  obtain ⟨B2, hb2⟩ := T_bag ns 2 (by decide)
  have hb0 : T (n + 2 + 1) f_l_bag [.im (.list (intsD ns)), .im (.int 0)] = .ret (.new (.lst B0.ds)) [.im (.list (intsD ns)), .im (.int 0)] := hb0 (n + 2)
  have hb1 : T (n + 2 + 1) f_l_bag [.im (.list (intsD ns)), .im (.int 1)] = .ret (.new (.lst B1.ds)) [.im (.list (intsD ns)), .im (.int 1)] := hb1 (n + 2)
  have hb2 : T (n + 2 + 1) f_l_bag [.im (.list (intsD ns)), .im (.int 2)] = .ret (.new (.lst B2.ds)) [.im (.list (intsD ns)), .im (.int 2)] := hb2 (n + 2)
  obtain ⟨w, B0', hp, hn, hpos⟩ := T_prices (n + 1) B0
  have hw : ∀ p : Int, 0 ≤ p → p < w.length → 0 < wt w p := by
    intro p p0 p1
    unfold wt
    rw [List.getD_eq_getElem?_getD, List.getElem?_eq_getElem (by omega)]
    exact hpos _ (List.getElem_mem _)
  obtain ⟨rows, B1', hs, hrl, hrows⟩ := T_sets (n + 1) B1 w.length (by omega) (by omega)
  obtain ⟨o, hb, hbest⟩ := T_best (n + 1) rows w hrows hn
  obtain ⟨A1, q1⟩ := T_asked n B2 rows w o _ rfl (by omega) hrows hw hn hb
  have hrows2 : RowsIn w.length (rrev rows) := by
    intro r hr
    obtain ⟨x, hx, rfl⟩ := List.mem_map.mp hr
    have := hrows x (List.mem_reverse.mp hx)
    exact ⟨by rw [List.length_reverse]; exact this.1, fun p hp => this.2 p (List.mem_reverse.mp hp)⟩
  have hb2' : BestO (rrev rows) w o := by
    refine best_same (fun t => ⟨fun hh r hr => ?_, fun hh r hr => ?_⟩) hb
    · obtain ⟨x, hx, rfl⟩ := List.mem_map.mp hr
      obtain ⟨p, hp, hpt⟩ := hh x (List.mem_reverse.mp hx)
      exact ⟨p, List.mem_reverse.mpr hp, hpt⟩
    · obtain ⟨p, hp, hpt⟩ := hh r.reverse (List.mem_map_of_mem (List.mem_reverse.mpr hr) : _ ∈ rows.reverse.map List.reverse)
      exact ⟨p, List.mem_reverse.mp hp, hpt⟩
  obtain ⟨A2, q2⟩ := T_asked n A1 (rrev rows) w o _ rfl (by unfold rrev; rw [List.length_map, List.length_reverse]; omega) hrows2 hw hn hb2'
  have m1 : (0 : Int) < rows.length + 1 := by omega
  have m2 : ((rows.length : Int) + 1).natAbs < 18446744073709551616 := by omega
  have t1 := T_take (n + 2) ((rows.length : Int) + 1) A2 m1 m2
  have r1 := tk_rng ((rows.length : Int) + 1) A2 m1 m2
  generalize (tk ((rows.length : Int) + 1) A2).1 = k at t1 r1
  generalize (tk ((rows.length : Int) + 1) A2).2 = A3 at t1
  have r0 : (k : Int) ≤ rows.length := by omega
  obtain ⟨A4, q3⟩ := T_asked n A3 (rows.take k.toNat ++ [[]] ++ rows.drop k.toNat) w none _ rfl (by rw [mid_len]; omega) (rows_mid _ hrows (by simp)) hw hn (best_empty ((mid_mem _ _).mpr (.inr rfl)))
  obtain ⟨A5, q4⟩ := T_asked n A4 [] w (some []) _ rfl (by simp) (by simp [RowsIn]) hw hn (best_nil hw)
  have run := IL.tbl_succ (ds := defs.map J.DefR.il) (n := n + 3) (f := f_law) (d := d_law.il) (δ := [.im (.list (IL.intsD ns))]) rfl rfl
  have el : lstD [] = .list [] := rfl
  have rev : ∀ (a0 a1 a2 a3 a4 a5 a6 a7 a8 a9 : Slot), IL.lcGo 1 (.name 10) IL.cTT (IL.evDm ⟨1, IL.tbl (List.map J.DefR.il defs) (n + 3)⟩ (.rev (.var 10))) [10] (List.map lstD rows).reverse [] [a0, a1, a2, a3, a4, a5, a6, a7, a8, a9, .un] = .ok ((rrev rows).map lstD) [a0, a1, a2, a3, a4, a5, a6, a7, a8, a9, .un] := by
    intro a0 a1 a2 a3 a4 a5 a6 a7 a8 a9
    unfold rrev
    rw [← List.map_reverse, IL.lcGo_map lstD (fun r => lstD r.reverse)]
    · rw [List.map_map]
      rfl
    · intro r hr
      simp -implicitDefEqProofs [lstD, ints_rev]
    · simp
      omega
  simp -implicitDefEqProofs [d_law, c_law, hb0, hb1, hb2, hp, hs, hbest, q1, rev, q2, t1, m1, m2] at run
  have c1 := cut_to (rows.map lstD) k r1.1 (by rw [List.length_map]; exact r0)
  have c2 := cut_from (rows.map lstD) k r1.1 (by rw [List.length_map]; exact r0)
  simp -implicitDefEqProofs [lstD] at q3 q4
  have l1 : (List.take k.toNat (rows.map lstD)).length ≤ 100 := by rw [List.length_take, List.length_map]; omega
  have l2 : (List.drop k.toNat (rows.map lstD)).length ≤ 100 := by rw [List.length_drop, List.length_map]; omega
  have a1 : ∀ r : PyData, IL.binop .add (.list (List.take k.toNat (rows.map lstD))) (.list [r]) = some (.new (.lst (List.take k.toNat (rows.map lstD) ++ [r]))) := fun r => IL.add_list _ _ (by rw [IL.size_val, List.length_cons, List.length_nil]; omega)
  have a2 : ∀ r : PyData, IL.binop .add (.list (List.take k.toNat (rows.map lstD) ++ [r])) (.list (List.drop k.toNat (rows.map lstD))) = some (.new (.lst (List.take k.toNat (rows.map lstD) ++ r :: List.drop k.toNat (rows.map lstD)))) := fun r => by
    rw [IL.add_list _ _ (by rw [IL.size_val, List.length_append, List.length_cons, List.length_nil]; omega)]
    simp
  simp -implicitDefEqProofs [optD] at q3 q4
  simp -implicitDefEqProofs [c1, c2, q3, a1, a2, q4] at run
  refine run.trans ?_
  clear run
  cases o with
  | none => simp -implicitDefEqProofs [optD]
  | some t =>
    have ha := (hb.1 t rfl).1
    have hh := (hb.1 t rfl).2
    have hln := nodup_len _ t (ha.1.imp fun h => by omega) ha.2
    have rest : ∀ (a0 a1 a2 a3 a5 a6 a7 a8 a9 : Slot), IL.lcGo 1 (.name 9) (IL.evT ⟨1, IL.tbl (List.map J.DefR.il defs) (n + 3)⟩ (.cmp .notin (.var 9) (.var 4))) (IL.evDm ⟨1, IL.tbl (List.map J.DefR.il defs) (n + 3)⟩ (.var 9)) [9] (intsD (List.map (fun (i : Nat) => (i : Int)) (List.range w.length))) [] [a0, a1, a2, a3, .im (.tuple (intsD t)), a5, a6, a7, a8, .un, a9] = .ok (intsD ((rngI w.length).filter fun p => !decide (p ∈ t))) [a0, a1, a2, a3, .im (.tuple (intsD t)), a5, a6, a7, a8, .un, a9] := by
      intro a0 a1 a2 a3 a5 a6 a7 a8 a9
      refine (IL.lcGo_filter PyData.int PyData.int (fun p => !decide (p ∈ t)) _ (rngI w.length) [] (fun p hp => ?_) ?_).trans ?_
      · by_cases z : p ∈ t
        · simp -implicitDefEqProofs [z]
        · simp -implicitDefEqProofs [z]
      · simp [rngI]
        omega
      · rw [List.nil_append]
        rfl
    have hrest : ∀ p ∈ (rngI w.length).filter (fun p => !decide (p ∈ t)), 0 ≤ p ∧ p < w.length := fun p hp => (mem_rngI _ _).mp (List.mem_filter.mp hp).1
    have hrl2 : ((rngI w.length).filter fun p => !decide (p ∈ t)).length ≤ 12 := by
      have := List.length_filter_le (fun p => !decide (p ∈ t)) (rngI w.length)
      simp only [rngI, List.length_map, List.length_range] at this ⊢
      omega
    have j1 : -4611686018427387904 ≤ (w.length : Int) := by omega
    have j2 : (w.length : Int) < 4611686018427387904 := by omega
    have rng := rng_int (w.length : Int) j1 j2
    rw [Int.toNat_natCast] at rng
    generalize hR : (rngI w.length).filter (fun p => !decide (p ∈ t)) = R at rest hrest hrl2
    have fin : ∀ C : Bag, R ≠ [] → ∃ (k2 : Int) (C1 C2 : Bag) (o2 : Option (List Int)),
        T (n + 2 + 1) f_l_take [.ow (.lst C.ds), .im (.int R.length)] = .ret (.dat (.int k2)) [.ow (.lst C1.ds), .im (.int R.length)] ∧
        IL.cutD (intsD R) (some k2) none = intsD (R.drop k2.toNat) ∧
        T (n + 1 + 2) f_l_best [.im (.list (List.take k.toNat (rows.map lstD) ++ .list (intsD (R.drop k2.toNat)) :: List.drop k.toNat (rows.map lstD))), .im (.list (intsD w))] = .ret (.dat (optD o2)) [.im (.list (List.take k.toNat (rows.map lstD) ++ .list (intsD (R.drop k2.toNat)) :: List.drop k.toNat (rows.map lstD))), .im (.list (intsD w))] ∧
        T (n + 3) f_l_asked [.ow (.lst C1.ds), .im (.list (List.take k.toNat (rows.map lstD) ++ .list (intsD (R.drop k2.toNat)) :: List.drop k.toNat (rows.map lstD))), .im (.list (intsD w)), .im (optD o2)] = .ret (.dat (.bool true)) [.ow (.lst C2.ds), .im (.list (List.take k.toNat (rows.map lstD) ++ .list (intsD (R.drop k2.toNat)) :: List.drop k.toNat (rows.map lstD))), .im (.list (intsD w)), .im (optD o2)] := by
      intro C hne
      have hpos : 0 < R.length := List.length_pos_iff.mpr hne
      have z1 : (0 : Int) < R.length := by omega
      have z2 : (R.length : Int).natAbs < 18446744073709551616 := by omega
      have zr := tk_rng (R.length : Int) C z1 z2
      have hlr := rows_mid (r := R.drop (tk (R.length : Int) C).1.toNat) k.toNat hrows ⟨by rw [List.length_drop]; omega, fun p hp => hrest p (List.mem_of_mem_drop hp)⟩
      obtain ⟨o2, b2, e2⟩ := T_best (n + 1) _ w hlr hn
      obtain ⟨C2, e3⟩ := T_asked n (tk (R.length : Int) C).2 _ w o2 _ rfl (by rw [mid_len]; omega) hlr hw hn b2
      refine ⟨(tk (R.length : Int) C).1, (tk (R.length : Int) C).2, C2, o2, T_take (n + 2) _ C z1 z2, ?_, ?_, ?_⟩
      · rw [cut_from _ _ zr.1 (by rw [IL.intsD_len]; omega), ints_drop]
      · have el2 : lstD (R.drop (tk (R.length : Int) C).1.toNat) = .list (intsD (R.drop (tk (R.length : Int) C).1.toNat)) := rfl
        simp -implicitDefEqProofs [el2] at e2
        exact e2
      · have el2 : lstD (R.drop (tk (R.length : Int) C).1.toNat) = .list (intsD (R.drop (tk (R.length : Int) C).1.toNat)) := rfl
        simp -implicitDefEqProofs [el2] at e3
        exact e3
    have hRn : ∀ hne : R ≠ [], (intsD R).isEmpty = false := by
      intro hne
      cases R with
      | nil => exact absurd rfl hne
      | cons _ _ => rfl
    by_cases ht : t = []
    · subst ht
      by_cases hR0 : R = []
      · subst hR0
        simp -implicitDefEqProofs [optD] at rest ⊢
        simp -implicitDefEqProofs [j1, j2, rest]
      · obtain ⟨k2, C1, C2, o2, f1, f2, f3, f4⟩ := fin A5 hR0
        have zz : (0 : Int) < R.length := by
          have := List.length_pos_iff.mpr hR0
          omega
        have z2 : (R.length : Int).natAbs < 18446744073709551616 := by omega
        have hRn := hRn hR0
        simp -implicitDefEqProofs [optD] at rest ⊢
        simp -implicitDefEqProofs [j1, j2, rest, hRn, f1, f2, f3, f4, c1, c2, a1, a2, zz, z2]
    · have hpos : 0 < t.length := List.length_pos_iff.mpr ht
      have z1 : (0 : Int) < t.length := by omega
      have z2 : (t.length : Int).natAbs < 18446744073709551616 := by omega
      have zr := tk_rng (t.length : Int) A5 z1 z2
      have t2 := T_take (n + 2) (t.length : Int) A5 z1 z2
      obtain ⟨p, hpt, hat⟩ := ints_at t (tk (t.length : Int) A5).1 zr.1 zr.2
      generalize (tk (t.length : Int) A5).1 = k3 at t2 zr hat
      generalize (tk (t.length : Int) A5).2 = A6 at t2
      have hlr := rows_mid (r := [p]) k.toNat hrows ⟨by simp, fun q hq => by rw [List.mem_singleton] at hq; exact hq ▸ ha.2 p hpt⟩
      have hb5 : BestO (rows.take k.toNat ++ [[p]] ++ rows.drop k.toNat) w (some t) := by
        refine best_more hb (fun r hr => (mid_mem _ _).mpr (.inl hr)) fun r hr => ?_
        rcases (mid_mem _ _).mp hr with m | m
        · exact hh r m
        · exact ⟨p, m ▸ List.mem_singleton_self p, hpt⟩
      obtain ⟨A7, q5⟩ := T_asked n A6 _ w (some t) _ rfl (by rw [mid_len]; omega) hlr hw hn hb5
      have el2 : lstD [p] = .list [.int p] := rfl
      simp -implicitDefEqProofs [el2, optD] at q5
      have tn : PyData.eqvAll (intsD t) [] = false := by
        cases t with
        | nil => exact absurd rfl ht
        | cons _ _ => exact IL.eqvAll_cn _ _
      by_cases hR0 : R = []
      · subst hR0
        simp -implicitDefEqProofs [optD] at rest ⊢
        simp -implicitDefEqProofs [j1, j2, rest, tn, z1, z2, t2, hat, c1, c2, a1, a2, q5]
      · obtain ⟨k2, C1, C2, o2, f1, f2, f3, f4⟩ := fin A7 hR0
        have zz : (0 : Int) < R.length := by
          have := List.length_pos_iff.mpr hR0
          omega
        have z3 : (R.length : Int).natAbs < 18446744073709551616 := by omega
        have hRn := hRn hR0
        simp -implicitDefEqProofs [optD] at rest ⊢
        simp -implicitDefEqProofs [j1, j2, rest, hRn, f1, f2, f3, f4, c1, c2, a1, a2, zz, z2, z3, tn, z1, t2, hat, q5]
theorem law_true (ns : List Int) (h : ns.length ≤ 63) : IL.tbl (defs.map J.DefR.il) 20 f_law [.im (.list (IL.intsD ns))] = .ret (.dat (.bool true)) [.im (.list (IL.intsD ns))] := law_run 16 ns
end K38
end
section
set_option Elab.async false
set_option linter.all false
set_option maxRecDepth 100000
set_option maxHeartbeats 4000000
namespace K38
open PySem PySem.Spec PyProof.Rows L2
/-- what the top has written -/
theorem all_mk {l : PySem.W.OpenLaw} {w : World} {K : PySem.W.Frag} {h : Heap} {mg : Str → Option Value} {fa : Addr} (X : K.In h) (G : h.Ns mainGlobals mg) (hfa : mg "law" = some (.ref fa))
    {f0 f1 f2 f3 f4 f5 f6 f7 f8 f9 f10 f11 f12 f13 f14 : Addr} {od0 an0 od1 an1 od2 an2 od3 an3 od4 an4 od5 an5 od6 an6 od7 an7 od8 an8 od9 an9 od10 an10 od11 an11 od12 an12 od13 an13 od14 an14 : Option Addr} {sl0 sl1 sl2 sl3 sl4 sl5 sl6 sl7 sl8 sl9 sl10 sl11 sl12 sl13 sl14 : Array (Option Value)}
    {oc0 kV0 dc0 pm0 cd0 ct0 oc1 kV1 dc1 pm1 cd1 ct1 oc2 kV2 dc2 pm2 cd2 ct2 oc3 kV3 dc3 pm3 cd3 ct3 oc4 kV4 dc4 pm4 cd4 ct4 oc5 kV5 dc5 pm5 cd5 ct5 oc6 kV6 dc6 pm6 cd6 ct6 oc7 kV7 dc7 pm7 cd7 ct7 oc8 kV8 dc8 pm8 cd8 ct8 oc9 kV9 dc9 pm9 cd9 ct9 oc10 kV10 dc10 pm10 cd10 ct10 oc11 kV11 dc11 pm11 cd11 ct11 oc12 kV12 dc12 pm12 cd12 ct12 oc13 kV13 dc13 pm13 cd13 ct13 oc14 kV14 dc14 pm14 cd14 ct14 : Value}
    (a0 : PySem.W.nsIn K mainGlobals "hitting_key" = some (some (.ref f0))) (l0 : K.lookup f0 = some ⟨oc0, od0, .func (PySem.W.fnOf "hitting_key" "hitting_key" (defArgs (topS 1)) (defBody (topS 1)) (defScope (topS 1)) .none kV0 dc0 pm0 an0 cd0 ct0), sl0⟩) (c0 : PySem.W.codeIn K cd0 "hitting_key" = true) (k0 : PySem.W.keepIn K (.ref f0) = true)
    (a1 : PySem.W.nsIn K mainGlobals "_smallest_missed" = some (some (.ref f1))) (l1 : K.lookup f1 = some ⟨oc1, od1, .func (PySem.W.fnOf "_smallest_missed" "_smallest_missed" (defArgs (topS 2)) (defBody (topS 2)) (defScope (topS 2)) .none kV1 dc1 pm1 an1 cd1 ct1), sl1⟩) (c1 : PySem.W.codeIn K cd1 "_smallest_missed" = true) (k1 : PySem.W.keepIn K (.ref f1) = true)
    (a2 : PySem.W.nsIn K mainGlobals "_branches" = some (some (.ref f2))) (l2 : K.lookup f2 = some ⟨oc2, od2, .func (PySem.W.fnOf "_branches" "_branches" (defArgs (topS 3)) (defBody (topS 3)) (defScope (topS 3)) .none kV2 dc2 pm2 an2 cd2 ct2), sl2⟩) (c2 : PySem.W.codeIn K cd2 "_branches" = true) (k2 : PySem.W.keepIn K (.ref f2) = true)
    (a3 : PySem.W.nsIn K mainGlobals "least_hitting" = some (some (.ref f3))) (l3 : K.lookup f3 = some ⟨oc3, od3, .func (PySem.W.fnOf "least_hitting" "least_hitting" (defArgs (topS 4)) (defBody (topS 4)) (defScope (topS 4)) .none kV3 dc3 pm3 an3 cd3 ct3), sl3⟩) (c3 : PySem.W.codeIn K cd3 "least_hitting" = true) (k3 : PySem.W.keepIn K (.ref f3) = true)
    (a4 : PySem.W.nsIn K mainGlobals "_law_bag" = some (some (.ref f4))) (l4 : K.lookup f4 = some ⟨oc4, od4, .func (PySem.W.fnOf "_law_bag" "_law_bag" (defArgs (topS 6)) (defBody (topS 6)) (defScope (topS 6)) .none kV4 dc4 pm4 an4 cd4 ct4), sl4⟩) (c4 : PySem.W.codeIn K cd4 "_law_bag" = true) (k4 : PySem.W.keepIn K (.ref f4) = true)
    (a5 : PySem.W.nsIn K mainGlobals "_law_take" = some (some (.ref f5))) (l5 : K.lookup f5 = some ⟨oc5, od5, .func (PySem.W.fnOf "_law_take" "_law_take" (defArgs (topS 7)) (defBody (topS 7)) (defScope (topS 7)) .none kV5 dc5 pm5 an5 cd5 ct5), sl5⟩) (c5 : PySem.W.codeIn K cd5 "_law_take" = true) (k5 : PySem.W.keepIn K (.ref f5) = true)
    (a6 : PySem.W.nsIn K mainGlobals "_law_tuples" = some (some (.ref f6))) (l6 : K.lookup f6 = some ⟨oc6, od6, .func (PySem.W.fnOf "_law_tuples" "_law_tuples" (defArgs (topS 8)) (defBody (topS 8)) (defScope (topS 8)) .none kV6 dc6 pm6 an6 cd6 ct6), sl6⟩) (c6 : PySem.W.codeIn K cd6 "_law_tuples" = true) (k6 : PySem.W.keepIn K (.ref f6) = true)
    (a7 : PySem.W.nsIn K mainGlobals "_law_hits" = some (some (.ref f7))) (l7 : K.lookup f7 = some ⟨oc7, od7, .func (PySem.W.fnOf "_law_hits" "_law_hits" (defArgs (topS 9)) (defBody (topS 9)) (defScope (topS 9)) .none kV7 dc7 pm7 an7 cd7 ct7), sl7⟩) (c7 : PySem.W.codeIn K cd7 "_law_hits" = true) (k7 : PySem.W.keepIn K (.ref f7) = true)
    (a8 : PySem.W.nsIn K mainGlobals "_law_best" = some (some (.ref f8))) (l8 : K.lookup f8 = some ⟨oc8, od8, .func (PySem.W.fnOf "_law_best" "_law_best" (defArgs (topS 10)) (defBody (topS 10)) (defScope (topS 10)) .none kV8 dc8 pm8 an8 cd8 ct8), sl8⟩) (c8 : PySem.W.codeIn K cd8 "_law_best" = true) (k8 : PySem.W.keepIn K (.ref f8) = true)
    (a9 : PySem.W.nsIn K mainGlobals "_law_same" = some (some (.ref f9))) (l9 : K.lookup f9 = some ⟨oc9, od9, .func (PySem.W.fnOf "_law_same" "_law_same" (defArgs (topS 11)) (defBody (topS 11)) (defScope (topS 11)) .none kV9 dc9 pm9 an9 cd9 ct9), sl9⟩) (c9 : PySem.W.codeIn K cd9 "_law_same" = true) (k9 : PySem.W.keepIn K (.ref f9) = true)
    (a10 : PySem.W.nsIn K mainGlobals "_law_kind" = some (some (.ref f10))) (l10 : K.lookup f10 = some ⟨oc10, od10, .func (PySem.W.fnOf "_law_kind" "_law_kind" (defArgs (topS 12)) (defBody (topS 12)) (defScope (topS 12)) .none kV10 dc10 pm10 an10 cd10 ct10), sl10⟩) (c10 : PySem.W.codeIn K cd10 "_law_kind" = true) (k10 : PySem.W.keepIn K (.ref f10) = true)
    (a11 : PySem.W.nsIn K mainGlobals "_law_prices" = some (some (.ref f11))) (l11 : K.lookup f11 = some ⟨oc11, od11, .func (PySem.W.fnOf "_law_prices" "_law_prices" (defArgs (topS 13)) (defBody (topS 13)) (defScope (topS 13)) .none kV11 dc11 pm11 an11 cd11 ct11), sl11⟩) (c11 : PySem.W.codeIn K cd11 "_law_prices" = true) (k11 : PySem.W.keepIn K (.ref f11) = true)
    (a12 : PySem.W.nsIn K mainGlobals "_law_sets" = some (some (.ref f12))) (l12 : K.lookup f12 = some ⟨oc12, od12, .func (PySem.W.fnOf "_law_sets" "_law_sets" (defArgs (topS 14)) (defBody (topS 14)) (defScope (topS 14)) .none kV12 dc12 pm12 an12 cd12 ct12), sl12⟩) (c12 : PySem.W.codeIn K cd12 "_law_sets" = true) (k12 : PySem.W.keepIn K (.ref f12) = true)
    (a13 : PySem.W.nsIn K mainGlobals "_law_asked" = some (some (.ref f13))) (l13 : K.lookup f13 = some ⟨oc13, od13, .func (PySem.W.fnOf "_law_asked" "_law_asked" (defArgs (topS 15)) (defBody (topS 15)) (defScope (topS 15)) .none kV13 dc13 pm13 an13 cd13 ct13), sl13⟩) (c13 : PySem.W.codeIn K cd13 "_law_asked" = true) (k13 : PySem.W.keepIn K (.ref f13) = true)
    (a14 : PySem.W.nsIn K mainGlobals "law" = some (some (.ref f14))) (l14 : K.lookup f14 = some ⟨oc14, od14, .func (PySem.W.fnOf "law" "law" (defArgs (topS 16)) (defBody (topS 16)) (defScope (topS 16)) .none kV14 dc14 pm14 an14 cd14 ct14), sl14⟩) (c14 : PySem.W.codeIn K cd14 "law" = true) (k14 : PySem.W.keepIn K (.ref f14) = true)
    (z0 : PySem.W.nsIn K mainGlobals "len" = some none)
    (z1 : PySem.W.nsIn K mainGlobals "int" = some none)
    (z2 : PySem.W.nsIn K mainGlobals "abs" = some none)
    (z3 : PySem.W.nsIn K mainGlobals "sum" = some none)
    (z4 : PySem.W.nsIn K mainGlobals "min" = some none)
    (z5 : PySem.W.nsIn K mainGlobals "max" = some none)
    (z6 : PySem.W.nsIn K mainGlobals "any" = some none)
    (z7 : PySem.W.nsIn K mainGlobals "all" = some none)
    (z8 : PySem.W.nsIn K mainGlobals "tuple" = some none)
    (z9 : PySem.W.nsIn K mainGlobals "list" = some none)
    (z10 : PySem.W.nsIn K mainGlobals "repr" = some none)
    (z11 : PySem.W.nsIn K mainGlobals "sorted" = some none)
    (z12 : PySem.W.nsIn K mainGlobals "set" = some none)
    (z13 : PySem.W.nsIn K mainGlobals "range" = some none)
    : ∃ fd : FuncData, (∀ (s : Shared) (v : Value), BindsTo s fd ⟨[v], []⟩ [("_law_script", v)]) ∧ ∀ base : Heap, K.In base → base.Ns mainGlobals mg → DG.FnG l.prog w K mg base CX0 20 fa fd ["_law_script"] (J.spF K 1 (IL.tbl (defs.map J.DefR.il) 20 f_law)) := by
  have hst : ∀ d ∈ defs, J.Stands K mg d := (J.all_cons (J.stands_mk X G a0 l0 c0 k0 fun _ _ _ _ _ _ us hl => match us, hl with | [_, _], _ => rfl)
      (J.all_cons (J.stands_mk X G a1 l1 c1 k1 fun _ _ _ _ _ _ us hl => match us, hl with | [_, _], _ => rfl)
      (J.all_cons (J.stands_mk X G a2 l2 c2 k2 fun _ _ _ _ _ _ us hl => match us, hl with | [_, _, _], _ => rfl)
      (J.all_cons (J.stands_mk X G a3 l3 c3 k3 fun _ _ _ _ _ _ us hl => match us, hl with | [_, _], _ => rfl)
      (J.all_cons (J.stands_mk X G a4 l4 c4 k4 fun _ _ _ _ _ _ us hl => match us, hl with | [_, _], _ => rfl)
      (J.all_cons (J.stands_mk X G a5 l5 c5 k5 fun _ _ _ _ _ _ us hl => match us, hl with | [_, _], _ => rfl)
      (J.all_cons (J.stands_mk X G a6 l6 c6 k6 fun _ _ _ _ _ _ us hl => match us, hl with | [_], _ => rfl)
      (J.all_cons (J.stands_mk X G a7 l7 c7 k7 fun _ _ _ _ _ _ us hl => match us, hl with | [_, _], _ => rfl)
      (J.all_cons (J.stands_mk X G a8 l8 c8 k8 fun _ _ _ _ _ _ us hl => match us, hl with | [_, _], _ => rfl)
      (J.all_cons (J.stands_mk X G a9 l9 c9 k9 fun _ _ _ _ _ _ us hl => match us, hl with | [_, _], _ => rfl)
      (J.all_cons (J.stands_mk X G a10 l10 c10 k10 fun _ _ _ _ _ _ us hl => match us, hl with | [_, _], _ => rfl)
      (J.all_cons (J.stands_mk X G a11 l11 c11 k11 fun _ _ _ _ _ _ us hl => match us, hl with | [_], _ => rfl)
      (J.all_cons (J.stands_mk X G a12 l12 c12 k12 fun _ _ _ _ _ _ us hl => match us, hl with | [_, _], _ => rfl)
      (J.all_cons (J.stands_mk X G a13 l13 c13 k13 fun _ _ _ _ _ _ us hl => match us, hl with | [_, _, _, _], _ => rfl)
      (J.all_cons (J.stands_mk X G a14 l14 c14 k14 fun _ _ _ _ _ _ us hl => match us, hl with | [_], _ => rfl)
      J.all_nil)))))))))))))))
  have hb : ∀ b ∈ J.blts, mg b = none := (J.all_cons (PySem.W.mg_none_of X G z0) (J.all_cons (PySem.W.mg_none_of X G z1) (J.all_cons (PySem.W.mg_none_of X G z2) (J.all_cons (PySem.W.mg_none_of X G z3) (J.all_cons (PySem.W.mg_none_of X G z4) (J.all_cons (PySem.W.mg_none_of X G z5) (J.all_cons (PySem.W.mg_none_of X G z6) (J.all_cons (PySem.W.mg_none_of X G z7) (J.all_cons (PySem.W.mg_none_of X G z8) (J.all_cons (PySem.W.mg_none_of X G z9) (J.all_cons (PySem.W.mg_none_of X G z10) (J.all_cons (PySem.W.mg_none_of X G z11) (J.all_cons (PySem.W.mg_none_of X G z12) (J.all_cons (PySem.W.mg_none_of X G z13) J.all_nil))))))))))))))
  obtain ⟨fd, q1, q2⟩ := J.law_F (P := l.prog) (w := w) (n := 20) (fl := f_law) (x := "_law_script") chk hst hb rfl rfl hfa
  exact ⟨fd, q1, fun base _ _ => q2 base⟩
end K38
open PySem PySem.W PyProof.Rows
set_option maxHeartbeats 0 in
theorem PySem.Challenge.cw_ringclause_k38_least_hitting_holds : PySem.Challenge.rw_ringclause_k38_least_hitting.Holds := by
  w_on; o_law; k_head; (case hw => w_witness2)
  k_fill
  refine DG.walkG_of (l := PySem.Challenge.rw_ringclause_k38_least_hitting) (n := 63) (k := 20) (x := "_law_script") (CX := fun _ => L2.CX0) (sp := fun w => J.spF _ 1 (IL.tbl (K38.defs.map J.DefR.il) 20 K38.f_law)) rfl (by decide) rfl ⟨rfl, by decide, by decide⟩ (fun w h Y => PySem.W.kIn_of Y) ?F (fun w H a ns hl _ hS => J.law_sp hS (K38.law_true ns hl)) (fun _ _ _ _ _ h => h)
  case F =>
    intro w mg fa h KX G hmg
    refine' K38.all_mk KX G hmg ?a0 ?l0 ?c0 ?k0 ?a1 ?l1 ?c1 ?k1 ?a2 ?l2 ?c2 ?k2 ?a3 ?l3 ?c3 ?k3 ?a4 ?l4 ?c4 ?k4 ?a5 ?l5 ?c5 ?k5 ?a6 ?l6 ?c6 ?k6 ?a7 ?l7 ?c7 ?k7 ?a8 ?l8 ?c8 ?k8 ?a9 ?l9 ?c9 ?k9 ?a10 ?l10 ?c10 ?k10 ?a11 ?l11 ?c11 ?k11 ?a12 ?l12 ?c12 ?k12 ?a13 ?l13 ?c13 ?k13 ?a14 ?l14 ?c14 ?k14 ?z0 ?z1 ?z2 ?z3 ?z4 ?z5 ?z6 ?z7 ?z8 ?z9 ?z10 ?z11 ?z12 ?z13
    (case a0 => k_is); (case l0 => k_is); (case c0 => k_is); (case k0 => k_is); (case a1 => k_is); (case l1 => k_is); (case c1 => k_is); (case k1 => k_is); (case a2 => k_is); (case l2 => k_is); (case c2 => k_is); (case k2 => k_is); (case a3 => k_is); (case l3 => k_is); (case c3 => k_is); (case k3 => k_is); (case a4 => k_is); (case l4 => k_is); (case c4 => k_is); (case k4 => k_is); (case a5 => k_is); (case l5 => k_is); (case c5 => k_is); (case k5 => k_is); (case a6 => k_is); (case l6 => k_is); (case c6 => k_is); (case k6 => k_is); (case a7 => k_is); (case l7 => k_is); (case c7 => k_is); (case k7 => k_is); (case a8 => k_is); (case l8 => k_is); (case c8 => k_is); (case k8 => k_is); (case a9 => k_is); (case l9 => k_is); (case c9 => k_is); (case k9 => k_is); (case a10 => k_is); (case l10 => k_is); (case c10 => k_is); (case k10 => k_is); (case a11 => k_is); (case l11 => k_is); (case c11 => k_is); (case k11 => k_is); (case a12 => k_is); (case l12 => k_is); (case c12 => k_is); (case k12 => k_is); (case a13 => k_is); (case l13 => k_is); (case c13 => k_is); (case k13 => k_is); (case a14 => k_is); (case l14 => k_is); (case c14 => k_is); (case k14 => k_is); (case z0 => k_is); (case z1 => k_is); (case z2 => k_is); (case z3 => k_is); (case z4 => k_is); (case z5 => k_is); (case z6 => k_is); (case z7 => k_is); (case z8 => k_is); (case z9 => k_is); (case z10 => k_is); (case z11 => k_is); (case z12 => k_is); (case z13 => k_is)
end
