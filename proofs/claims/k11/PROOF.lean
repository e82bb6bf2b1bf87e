import PyProof.Rows.All
import Wide.All
import OpenK.AllK
import Wide.FinOn
import HandS.ForMost
import HandS.IsInst
import HandS.Flow
import HandS.Style
import HandS.TupLe
import HandS.TupAny
import HandS.Deep
import HandS.Conv
import HandS.Evl
import HandS.Walk
import HandS.ExcInit
import KE.KSuper
import KE.KExcSuper
import HandS.Exc
import HandS.ExcSuper
import KE.KExcIs
import HandS.ExcField
import HandS.DeepEq
import HandS.Iter
import HandS.BoundList
import HandS.Small
import PySem.Challenge.RW_landedback_k11_errors_kept
set_option Elab.async false
set_option linter.all false
set_option maxRecDepth 100000
set_option maxHeartbeats 4000000
/-! LbA: promises of defs that are called while no guarded call (repr) runs around them. -/
namespace Lb
open PySem PySem.Spec PyProof.Rows L2

/-- FnOk, where no guarded call stands on the stack -/
structure FnG (P : Program) (w : World) (K : PySem.W.Frag) (mg : Str → Option Value) (base : Heap) (CX : CXT) (k : Nat)
    (f : Addr) (fd : FuncData) (ps : List Str) (sp : Sp) : Prop where
  len : ∀ vs H Q E, sp vs H Q E → vs.length = ps.length
  run : ∀ (A : Around) (outer : List Env) (s : Shared) (H : Hp) (args : Args) (us : List Value) (vs : List V) (Q : VK) (E : XK),
    A.guards = some [] → Room k A → Env0 P w K mg base A outer s H → BindsTo s fd args (ps.zip us) → Vals vs us → sp vs H Q E →
      codeAny (model P w) A (.call (.ref f) args) (CR CX outer P w H s Q E) s

section
variable {P : Program} {w : World} {K : PySem.W.Frag} {mg : Str → Option Value} {base : Heap} {CX : CXT}
theorem fg_of_ok {k : Nat} {f : Addr} {fd : FuncData} {ps : List Str} {sp : Sp} (F : FnOk P w K mg base CX k f fd ps sp) :
    FnG P w K mg base CX k f fd ps sp :=
  ⟨F.len, fun A o s H args us vs Q E _ hr e0 hb hv hs => F.run A o s H args us vs Q E hr e0 hb hv hs⟩

/-- a def by its body, no guarded call around -/
theorem fg_of {k : Nat} {f : Addr} {name qual : Str} {params : Arguments} {body : List Stmt} {scope : Scope}
    {dV kV doc pm cdv ct oc : Value} {an od : Option Addr} {osl : Array (Option Value)} {N ps : List Str} {sp : Sp}
    (lk : K.lookup f = some ⟨oc, od, .func (PySem.W.fnOf name qual params body scope dV kV doc pm an cdv ct), osl⟩)
    (hcd : PySem.W.codeIn K cdv qual = true) (S : FnScope N ps scope) (len : ∀ vs H Q E, sp vs H Q E → vs.length = ps.length)
    (hbody : ∀ (A : Around) (outer : List Env) (s : Shared) (H : Hp) (vs : List V) (Q : VK) (E : XK), A.guards = some [] →
      Room k (A.deeper (envOfC qual scope s.heap.objs.size f cdv)) → sp vs H Q E →
      ∃ t, PSs (cxOf CX P w K mg base N qual scope f cdv A outer s H E) body t ∧
        t { nx := fun _ H' => Q .non H', rt := Q } (start N vs) H) :
    FnG P w K mg base CX (k + 1) f (PySem.W.fnOf name qual params body scope dV kV doc pm an cdv ct) ps sp := by
  refine ⟨len, fun A outer s H args us vs Q E hG hr e0 hb r hsp => ?_⟩
  have old : ∀ b o, base.get? b = some o → s.heap.get? b = some o := fun b o e => (e0.bs b o e).1
  have KX : K.In s.heap := e0.mod.kin.keeps old
  have lim : s.heap.NoLimit := e0.mod.nolimit.keeps old
  refine codeAny_call_function hr.depth (KX _ _ lk) rfl S.co S.gen rfl (PySem.W.codeRec_of KX hcd) (hb _ _ _ _ ?_)
  refine wpAny_newFunctionEnv_cells S.kind (fun y hy => ?_) fun env he s1 x => ?_
  · rcases S.par y.1 (List.of_mem_zip (a := y.1) (b := y.2) hy).1 with q | q
    · exact Or.inl q
    · exact Or.inr ⟨q, PySem.W.cellsFrom_some _ _ _ (Or.inl q)⟩
  · subst he
    refine ⟨lim.keeps x.toInCall.keep, codeAny_func ?_⟩
    obtain ⟨t, ht, hq⟩ := hbody A outer s H vs Q E hG (hr.deeper _) hsp
    have I := inv_start (CX := CX) (E := E) S hr.hd e0 (len _ _ _ _ hsp) r x
    refine wpAny_mono (ht.run [] s1 (start N vs) H _ I hq) (fun fl s' hs => ?_) fun e s' hs => hs
    cases fl with
    | ret u =>
      obtain ⟨v, σ', H', J, rv, q⟩ := hs
      exact ⟨v, H', J.os, J.bare, J.base, J.hok, rv, q⟩
    | next =>
      obtain ⟨σ', H', J, q⟩ := hs
      exact ⟨V.non, H', J.os, J.bare, J.base, J.hok, rfl, q⟩
    | brk =>
      obtain ⟨_, _, _, q⟩ := hs
      exact False.elim q
    | cont =>
      obtain ⟨_, _, _, q⟩ := hs
      exact False.elim q

/-- the rule for a def of the text; nothing is raised out of it -/
theorem okG {x qual : Str} {st : Stmt} {f : Addr} {fd : FuncData} {N ps : List Str} {k : Nat} {sp : Sp}
    (F : Fun K x qual st f fd) (S : FnScope N ps (defScope st)) (len : ∀ vs H Q E, sp vs H Q E → vs.length = ps.length)
    (hbody : ∀ (cdv : Value) (A : Around) (outer : List Env) (s : Shared) (H : Hp) (vs : List V) (Q : VK) (E : XK), A.guards = some [] →
      Room k (A.deeper (envOfC qual (defScope st) s.heap.objs.size f cdv)) → sp vs H Q E →
      ∃ t, PSs (cxOf CX0 P w K mg base N qual (defScope st) f cdv A outer s H E).nox (defBody st) t ∧
        t { nx := fun _ H' => Q .non H', rt := Q } (start N vs) H) :
    FnG P w K mg base CX0 (k + 1) f fd ps sp := by
  obtain ⟨oc, od, kV, doc, pm, an, cdv, ct, osl, rfl, lk, hcd⟩ := F.ex
  refine fg_of lk hcd S len fun A outer s H vs Q E hG hr hsp => ?_
  obtain ⟨t, h, q⟩ := hbody cdv A outer s H vs Q E hG hr hsp
  exact ⟨t, h.nox, q⟩
end

/-! ### calls of such defs -/
section
variable {X : Cx} {CX : CXT} {k : Nat} {f : Addr} {fd : FuncData} {ps : List Str} {sp : Sp} {dvs : List V} {ds : List Value} {E : XK}
  {x : Str} {p pos : Pos} {e : Expr} {es : List Expr} {t : TA}
theorem runG {pins : List (Addr × Obj)} {σ : L2.St} {H : Hp} {s : Shared} {Q : VK} {us : List Value} {vs : List V}
    (F : FnG X.prog X.w X.K X.mg X.base CX k f fd ps sp) (hG : X.A.guards = some []) (hr : Room k X.A) (hb : Binds X.K fd ps ds)
    (hd : Vals dvs ds) (hx : Passes CX X E) (I : Inv X pins σ H s) (r : Vals vs us) (h : sp (vs ++ dvs) H Q E) :
    wpAny (model X.prog X.w) X.A (call (.ref f) us) (EP X pins σ Q) X.xe s := by
  have r2 : Vals (vs ++ dvs) (us ++ ds) := r.append hd
  have hl : (us ++ ds).length = ps.length := r2.length.symm.trans (F.len _ _ _ _ h)
  refine wpAny_call (codeAny_mono (F.run X.A X.stack s H ⟨us, []⟩ _ _ Q E hG hr I.env0 (hb s us I.kIn hl) r2 h) fun res s' hq => ?_)
  cases res with
  | error er => exact hx pins σ H s er s' I hq
  | ok fl =>
    cases fl with
    | ret u => exact I.after hq
    | next => exact False.elim hq
    | brk => exact False.elim hq
    | cont => exact False.elim hq

theorem pe_callG (F : FnG X.prog X.w X.K X.mg X.base CX k f fd ps sp) (hG : X.A.guards = some []) (hr : Room k X.A) (hg : Gl X x)
    (hm : X.mg x = some (.ref f)) (hk : PySem.W.keepIn X.K (.ref f) = true) (hb : Binds X.K fd ps ds) (hd : Vals dvs ds) (hx : Passes CX X E)
    (ha : PA X (e :: es) t) (hdb : (x == ("__debug__" : Str)) = false := by decide)
    (he : starEach (e :: es) X.env = (false, eval e X.env) :: starEach es X.env := by rfl)
    (hpl : (backTo pos (starEach es X.env)).any (·.1) = false := by rfl) :
    PE X (.Call (.Name x p) (e :: es) [] pos) (tCall sp dvs E t) := by
  refine ⟨fun pins s σ H Q I h => wpAny_Call_Name_kw (ld_glob I hg hm ?_ hdb)⟩
  refine PySem.W.callWith_K (h₀ := X.base) I.ok.mod.kin hk (thn (ha.run pos pins s σ H _ I h) fun us s1 hh => ?_) he hpl
  obtain ⟨vs, H1, I1, r, q⟩ := hh
  exact ⟨I1.kIn, runG F hG hr hb hd hx I1 r q⟩
end

/-! ### the end: the law's def at the heap behind the top -/
section
variable {P : Program} {w : World} {K : PySem.W.Frag} {mg mb : Str → Option Value} {k : Nat} {fa a : Addr} {fd : FuncData} {x : Str} {sp : Sp}
  {s₁ : Shared} {vs : List Value} {ns : List Int}
/-- what is wanted of the law's call -/
def LawEnd (s₁ : Shared) (r : Result) (s' : Shared) : Prop :=
  r = .ok (.ret (.bool true)) ∧ OldK s₁.heap s'.heap ∧ s'.os = s₁.os ∧ AllBare s'.gens

/-- from an abstract heap that knows the script alone -/
theorem law_at {H : Hp} (KX : K.In s₁.heap) (hns : s₁.heap.Ns mainGlobals mg) (hb : s₁.heap.Ns builtinsNs mb)
    (hbb : ∀ x : Str, x ≠ "__name__" → mb x = bootBuiltins x) (hlim : s₁.heap.NoLimit) (hg : s₁.gens = #[])
    (ha : s₁.heap.get? a = some { cls := .type "list", data := .seq vs.toArray }) (hr : Room k callerA)
    (F : ∀ base : Heap, K.In base → base.Ns mainGlobals mg → FnG P w K mg base CX0 k fa fd [x] sp)
    (hbind : ∀ (s : Shared) (u : Value), BindsTo s fd ⟨[u], []⟩ [(x, u)]) (hO : Only H) (hok : HOk P w H s₁.heap)
    (hA : ∀ b, H b ≠ none → b = a) (hK : H a ≠ none → K.lookup a = none) (hs : sp [.ref a] H (fun v _ => v = .bl true) fun _ _ _ => False) :
    codeAny (model P w) callerA (.call (.ref fa) ⟨[.ref a], []⟩) (LawEnd s₁) s₁ := by
  -- a dict is not the script
  have free : ∀ {b : Addr} {o : Obj} {es : Array DictEntry} {ep : Nat}, s₁.heap.get? b = some o → o.data = .dict es ep → H b = none := by
    intro b o es ep e d
    cases q : H b with
    | none => rfl
    | some u =>
      have e' : b = a := hA b (by rw [q]; simp)
      subst e'
      rw [ha] at e
      cases e
      exact nomatch (show Data.seq vs.toArray _ = Data.dict es ep from d)
  have nsK : ∀ {b : Addr} {m : Str → Option Value}, s₁.heap.Ns b m → (hidT s₁.heap H).Ns b m := by
    rintro b m ⟨o, es, ep, e, d, r⟩
    exact ⟨o, es, ep, hidT_get e (free e d), d, r⟩
  have hKb : K.In (hidT s₁.heap H) := by
    intro b o e
    refine hidT_get (KX b o e) ?_
    cases q : H b with
    | none => rfl
    | some u =>
      have e' : b = a := hA b (by rw [q]; simp)
      subst e'
      rw [hK (by rw [q]; simp)] at e
      cases e
  have lim : (hidT s₁.heap H).NoLimit := by
    obtain ⟨mc, h1, h2⟩ := hlim
    exact ⟨mc, nsK h1, h2⟩
  have e0 : Env0 P w K mg (hidT s₁.heap H) callerA [] s₁ H :=
    { frames := rfl, mod := ⟨hKb, nsK hns, ⟨mb, nsK hb, hbb⟩, lim⟩, bs := fun b o e => of_hidT e, bsz := Nat.le_of_eq (hidT_size _ _),
      funs := trivial, frf := fun b z => absurd (show b ∈ ([] : List Addr) from z) (by simp), hok := hok, bare := AllBare.of_eq hg }
  refine codeAny_mono ((F _ hKb (nsK hns)).run callerA [] s₁ H ⟨[.ref a], []⟩ [.ref a] [.ref a] _ _ rfl hr e0 (hbind s₁ (.ref a)) (.cons rfl .nil) hs) fun r s' h => ?_
  cases r with
  | error e => exact (show False from h).elim
  | ok fl =>
    cases fl with
    | next => exact (show False from h).elim
    | brk => exact (show False from h).elim
    | cont => exact (show False from h).elim
    | ret u =>
      obtain ⟨v, H', os, bare, un, hok', r', q⟩ := h
      obtain rfl : v = .bl true := q
      obtain rfl : u = Value.bool true := r'
      refine ⟨rfl, OldK.of_keep fun b o e => ?_, os, bare⟩
      cases q : H b with
      | none => exact un.keep b o e q (fun z => absurd (show b ∈ ([] : List Addr) from z) (by simp)) (by simp)
      | some u =>
        rcases hO b with z | ⟨ob, xs, z⟩
        · rw [q] at z
          cases z
        · have e1 := (hok b _ z).1
          have e2 := (hok' b _ (un.frzs b ob _ z)).1
          rw [e] at e1
          cases e1
          exact e2

theorem law_callG (KX : K.In s₁.heap) (hns : s₁.heap.Ns mainGlobals mg) (hb : s₁.heap.Ns builtinsNs mb)
    (hbb : ∀ x : Str, x ≠ "__name__" → mb x = bootBuiltins x) (hlim : s₁.heap.NoLimit) (hg : s₁.gens = #[])
    (ha : s₁.heap.get? a = some { cls := .type "list", data := .seq vs.toArray }) (hi : IntsAre vs ns) (hl : ns.length ≤ sizeLine) (hr : Room k callerA)
    (F : ∀ base : Heap, K.In base → base.Ns mainGlobals mg → FnG P w K mg base CX0 k fa fd [x] sp)
    (hbind : ∀ (s : Shared) (u : Value), BindsTo s fd ⟨[u], []⟩ [(x, u)])
    (hsp : ∀ H : Hp, Only H → SqL K H a (ns.map V.int) → sp [.ref a] H (fun v _ => v = .bl true) fun _ _ _ => False) :
    codeAny (model P w) callerA (.call (.ref fa) ⟨[.ref a], []⟩) (LawEnd s₁) s₁ := by
  have rv := vals_ints hi
  cases hk : K.lookup a with
  | some o =>
    have e := KX a o hk
    rw [ha] at e
    cases e
    have hO : Only (fun _ => none) := fun _ => Or.inl rfl
    refine law_at (H := fun _ => none) KX hns hb hbb hlim hg ha hr F hbind hO (fun b u z => nomatch (show (none : Option HO) = some u from z))
      (fun b z => absurd rfl z) (fun z => absurd rfl z) (hsp _ hO (Or.inr ⟨_, vs.toArray, _, hk, rfl, rfl, rfl, ?_, by simpa using rv⟩))
    rw [List.size_toArray, hi.length]
    exact hl
  | none =>
    have hO : Only (fun b => if b = a then some (.frz { cls := .type "list", data := .seq vs.toArray } (.lst (ns.map V.int))) else none) := by
      intro b
      by_cases hb : b = a
      · exact Or.inr ⟨_, _, if_pos hb⟩
      · exact Or.inl (if_neg hb)
    refine law_at (H := fun b => if b = a then some (.frz { cls := .type "list", data := .seq vs.toArray } (.lst (ns.map V.int))) else none)
      KX hns hb hbb hlim hg ha hr F hbind hO (fun b u z => ?_) (fun b z => ?_) (fun _ => hk) (hsp _ hO (Or.inl (Or.inr ⟨_, if_pos rfl⟩)))
    · by_cases hb : b = a
      · have z' := (if_pos hb).symm.trans z
        cases z'
        subst hb
        exact ⟨ha, by rw [List.length_map]; exact hl, vs, _, rv, ha⟩
      · have z' := (if_neg hb).symm.trans z
        cases z'
    · by_cases hb : b = a
      · exact hb
      · exact absurd (if_neg hb) z
end

/-- the goal that k_head leaves, from the law's promise under no guarded call -/
theorem walk_ofG {l : PySem.W.OpenLaw} {n k : Nat} {q : Program} {loose : List Str} {XP : (Str → Option Value) → Heap → Prop} {YP : World → Heap → Prop}
    {d : DefRec} {K : Params → PySem.W.Frag} {sp : World → Sp} {x : Str}
    (hn : l.most = some n) (hn2 : n ≤ sizeLine) (hdf : d.params.defaults = []) (hr : Room k callerA) (hY : ∀ (w : World) (h : Heap), YP w h → (K w.params).In h)
    (F : ∀ (w : World) (mg : Str → Option Value) (fa : Addr) (h : Heap), (K w.params).In h → h.Ns mainGlobals mg → mg d.name = some (.ref fa) →
      ∃ fd : FuncData, (∀ (s : Shared) (u : Value), BindsTo s fd ⟨[u], []⟩ [(x, u)]) ∧
        ∀ base : Heap, (K w.params).In base → base.Ns mainGlobals mg → FnG l.prog w (K w.params) mg base CX0 k fa fd [x] (sp w))
    (hsp : ∀ (w : World) (H : Hp) (a : Addr) (ns : List Int), ns.length ≤ n → Only H → SqL (K w.params) H a (ns.map V.int) →
      sp w [.ref a] H (fun v _ => v = .bl true) fun _ _ _ => False) :
    PySem.W.WalkO q loose XP YP l.row.toRowW d [] (fun f vs => PySem.call f vs) := by
  refine Att.attach_call hn hdf fun w s₀ s₁ mg mb fa o pm cd doc a vs ns G Y ho hd hcd hmg hobj hints hlen hg => ?_
  obtain ⟨fd, hb, hF⟩ := F w mg fa _ (hY w _ Y) G.T.g hmg
  exact law_callG (hY w _ Y) G.T.g G.T.b G.T.builtins G.T.nolimit hg hobj hints (Nat.le_trans hlen hn2) hr hF hb fun H hO hS => hsp w H a ns hlen hO hS
end Lb

/-! LbB: a logic of data over the layer: no addresses, no heap; what changes (a bag) stands apart. -/
namespace Lb
open PySem PySem.Spec PyProof.Rows L2
open Evl (Ex)

/-- data; raw: a value as it is (a class, a def, the bag) -/
inductive D where
  | non | bl (b : Bool) | int (i : Int) | str (x : Str) | lst (ds : List D) | tup (ds : List D) | dct (kvs : List (D × D)) | err (C : Addr) (fs : List (Str × D)) | raw (v : V)

/-- what H knew away from B is so in H' -/
def Xt (B : Addr → Prop) (H H' : Hp) : Prop := ∀ a o, ¬ B a → H a = some o → H' a = some o
theorem Xt.refl (B : Addr → Prop) (H : Hp) : Xt B H H := fun _ _ _ h => h
theorem Xt.trans {B : Addr → Prop} {H H1 H2 : Hp} (a : Xt B H H1) (b : Xt B H1 H2) : Xt B H H2 := fun x o n h => b x o n (a x o n h)
theorem Xt.of {B : Addr → Prop} {H H' : Hp} (e : Ex H H') : Xt B H H' := fun a o _ h => e a o h

/-- a list away from B, or one of the written part -/
def LB (K : PySem.W.Frag) (B : Addr → Prop) (H : Hp) (a : Addr) (xs : List V) : Prop := (¬ B a ∧ Rd H a (.lst xs)) ∨ SqL K (fun _ => none) a xs
def TB (K : PySem.W.Frag) (B : Addr → Prop) (H : Hp) (a : Addr) (xs : List V) : Prop := (¬ B a ∧ Rd H a (.tup xs)) ∨ SqT K (fun _ => none) a xs
section
variable {K : PySem.W.Frag} {B B' : Addr → Prop} {H H' : Hp} {a : Addr} {xs : List V}
theorem LB.sq (h : LB K B H a xs) : SqL K H a xs := by
  rcases h with ⟨_, h⟩ | h
  · exact Or.inl h
  · exact Evl.ex_l (fun _ _ z => by cases z) h
theorem TB.sq (h : TB K B H a xs) : SqT K H a xs := by
  rcases h with ⟨_, h⟩ | h
  · exact Or.inl h
  · exact Evl.ex_t (fun _ _ z => by cases z) h
theorem rd_xt {u : HO} (e : Xt B H H') (n : ¬ B a) (h : Rd H a u) : Rd H' a u := by
  rcases h with h | ⟨o, h⟩
  · exact Or.inl (e a _ n h)
  · exact Or.inr ⟨o, e a _ n h⟩
theorem LB.mono (e : Xt B H H') (h : LB K B H a xs) : LB K B H' a xs := by
  rcases h with ⟨n, h⟩ | h
  · exact Or.inl ⟨n, rd_xt e n h⟩
  · exact Or.inr h
theorem TB.mono (e : Xt B H H') (h : TB K B H a xs) : TB K B H' a xs := by
  rcases h with ⟨n, h⟩ | h
  · exact Or.inl ⟨n, rd_xt e n h⟩
  · exact Or.inr h
theorem rd_some {u : HO} (h : Rd H a u) : H a ≠ none := by
  rcases h with h | ⟨o, h⟩ <;> rw [h] <;> simp
/-- more is set apart, of what H does not know -/
def Wk (B B' : Addr → Prop) (H : Hp) : Prop := ∀ a, B' a → B a ∨ H a = none
theorem LB.weak (w : Wk B B' H) (h : LB K B H a xs) : LB K B' H a xs := by
  rcases h with ⟨n, h⟩ | h
  · refine Or.inl ⟨fun z => ?_, h⟩
    rcases w a z with z | z
    · exact n z
    · exact rd_some h z
  · exact Or.inr h
theorem TB.weak (w : Wk B B' H) (h : TB K B H a xs) : TB K B' H a xs := by
  rcases h with ⟨n, h⟩ | h
  · refine Or.inl ⟨fun z => ?_, h⟩
    rcases w a z with z | z
    · exact n z
    · exact rd_some h z
  · exact Or.inr h
end

mutual
inductive DV (K : PySem.W.Frag) (B : Addr → Prop) (H : Hp) : V → D → Prop
  | non : DV K B H .non .non
  | bl (b : Bool) : DV K B H (.bl b) (.bl b)
  | int (i : Int) : DV K B H (.int i) (.int i)
  | str (x : Str) : DV K B H (.str x) (.str x)
  | lst {a : Addr} {xs : List V} {ds : List D} : LB K B H a xs → DVs K B H xs ds → DV K B H (.ref a) (.lst ds)
  | tup {a : Addr} {xs : List V} {ds : List D} : TB K B H a xs → DVs K B H xs ds → DV K B H (.ref a) (.tup ds)
  | dct {a : Addr} {kvs : List (Key × V)} {ds : List (D × D)} : ¬ B a → H a = some (.dK kvs) → DVs K B H (kvs.map fun p => kV p.1) (ds.map (·.1)) →
      DVs K B H (kvs.map (·.2)) (ds.map (·.2)) → DV K B H (.ref a) (.dct ds)
  | err {a dx C : Addr} {fvs : List (Str × V)} {fds : List (Str × D)} : ¬ B a → ¬ B dx → H a = some (exo a C (some dx)) → H dx = some (exd dx fvs) → fvs.map (·.1) = fds.map (·.1) →
      DVs K B H (fvs.map (·.2)) (fds.map (·.2)) → DV K B H (.ref a) (.err C fds)
  | err0 {a C : Addr} : ¬ B a → H a = some (exo a C none) → DV K B H (.ref a) (.err C [])
  | raw (v : V) : DV K B H v (.raw v)
inductive DVs (K : PySem.W.Frag) (B : Addr → Prop) (H : Hp) : List V → List D → Prop
  | nil : DVs K B H [] []
  | cons {v : V} {vs : List V} {d : D} {ds : List D} : DV K B H v d → DVs K B H vs ds → DVs K B H (v :: vs) (d :: ds)
end
section
variable {K : PySem.W.Frag} {B B' : Addr → Prop} {H H' : Hp}
mutual
theorem DV.mono (e : Xt B H H') : ∀ {v : V} {d : D}, DV K B H v d → DV K B H' v d
  | _, _, .non => .non
  | _, _, .bl b => .bl b
  | _, _, .int i => .int i
  | _, _, .str x => .str x
  | _, _, .lst h hs => .lst (h.mono e) (DVs.mono e hs)
  | _, _, .tup h hs => .tup (h.mono e) (DVs.mono e hs)
  | _, _, .dct n h h1 h2 => .dct n (e _ _ n h) (DVs.mono e h1) (DVs.mono e h2)
  | _, _, .err n n2 h h2 hm hs => .err n n2 (e _ _ n h) (e _ _ n2 h2) hm (DVs.mono e hs)
  | _, _, .err0 n h => .err0 n (e _ _ n h)
  | _, _, .raw v => .raw v
theorem DVs.mono (e : Xt B H H') : ∀ {vs : List V} {ds : List D}, DVs K B H vs ds → DVs K B H' vs ds
  | _, _, .nil => .nil
  | _, _, .cons h hs => .cons (DV.mono e h) (DVs.mono e hs)
end
mutual
theorem DV.weak (w : Wk B B' H) : ∀ {v : V} {d : D}, DV K B H v d → DV K B' H v d
  | _, _, .non => .non
  | _, _, .bl b => .bl b
  | _, _, .int i => .int i
  | _, _, .str x => .str x
  | _, _, .lst h hs => .lst (h.weak w) (DVs.weak w hs)
  | _, _, .tup h hs => .tup (h.weak w) (DVs.weak w hs)
  | _, _, .dct n h h1 h2 => .dct (fun z => (w _ z).elim n fun q => by rw [h] at q; cases q) h (DVs.weak w h1) (DVs.weak w h2)
  | _, _, .err n n2 h h2 hm hs => .err (fun z => (w _ z).elim n fun q => by rw [h] at q; cases q) (fun z => (w _ z).elim n2 fun q => by rw [h2] at q; cases q) h h2 hm (DVs.weak w hs)
  | _, _, .err0 n h => .err0 (fun z => (w _ z).elim n fun q => by rw [h] at q; cases q) h
  | _, _, .raw v => .raw v
theorem DVs.weak (w : Wk B B' H) : ∀ {vs : List V} {ds : List D}, DVs K B H vs ds → DVs K B' H vs ds
  | _, _, .nil => .nil
  | _, _, .cons h hs => .cons (DV.weak w h) (DVs.weak w hs)
end
/-- less is set apart -/
theorem wk_of (h : ∀ a, B' a → B a) : Wk B B' H := fun a z => Or.inl (h a z)
theorem DVs.len : ∀ {vs : List V} {ds : List D}, DVs K B H vs ds → vs.length = ds.length
  | _, _, .nil => rfl
  | _, _, .cons _ hs => by rw [List.length_cons, List.length_cons, hs.len]
theorem DVs.get : ∀ {vs : List V} {ds : List D} {i : Nat} {d : D}, DVs K B H vs ds → ds[i]? = some d → ∃ v, vs[i]? = some v ∧ DV K B H v d
  | _, _, _, _, .nil, e => by simp at e
  | _, _, 0, _, .cons h _, e => by
    simp at e
    subst e
    exact ⟨_, rfl, h⟩
  | _, _, i + 1, d, .cons _ hs, e => by
    obtain ⟨v, h1, h2⟩ := hs.get (i := i) (d := d) (by simpa using e)
    exact ⟨v, by simpa using h1, h2⟩
theorem DVs.append : ∀ {vs us : List V} {ds es : List D}, DVs K B H vs ds → DVs K B H us es → DVs K B H (vs ++ us) (ds ++ es)
  | _, _, _, _, .nil, h => h
  | _, _, _, _, .cons h hs, g => .cons h (hs.append g)
theorem DVs.take : ∀ {vs : List V} {ds : List D} (n : Nat), DVs K B H vs ds → DVs K B H (vs.take n) (ds.take n)
  | _, _, 0, _ => by simpa using DVs.nil
  | _, _, n + 1, .nil => .nil
  | _, _, n + 1, .cons h hs => .cons h (hs.take n)
theorem DVs.drop : ∀ {vs : List V} {ds : List D} (n : Nat), DVs K B H vs ds → DVs K B H (vs.drop n) (ds.drop n)
  | _, _, 0, h => h
  | _, _, n + 1, .nil => .nil
  | _, _, n + 1, .cons h hs => hs.drop n
theorem DVs.rev {vs : List V} {ds : List D} (h : DVs K B H vs ds) : DVs K B H vs.reverse ds.reverse := by
  induction vs generalizing ds with
  | nil => cases h; exact .nil
  | cons v vs ih =>
    cases h with
    | cons h hs =>
      rw [List.reverse_cons, List.reverse_cons]
      exact (ih hs).append (.cons h .nil)
end

/-! ### worlds -/
/-- B: what may change; R: how heaps go on; I: what holds of what may change -/
structure Wd where
  K : PySem.W.Frag
  B : Addr → Prop
  R : Hp → Hp → Prop
  I : Hp → Prop
  rfl' : ∀ H, R H H
  trans' : ∀ {H H1 H2}, R H H1 → R H1 H2 → R H H2
  ofEx : ∀ {H H1}, Ex H H1 → R H H1
  keep : ∀ {H H1}, R H H1 → Xt B H H1
  chg : ∀ {H H1 p o}, R H H1 → H p = none → R H (upd H1 p o)
  inv : ∀ {H H1}, Ex H H1 → I H → I H1
  fresh : ∀ {H p}, I H → H p = none → ¬ B p
  imut : ∀ {H H1 p o}, I H → R H H1 → I H1 → H p = none → I (upd H1 p o)
/-- a new address -/
def Wd.Fr (W : Wd) (p : Addr) : Prop := ∃ H, W.I H ∧ H p = none
theorem Ex.none {H H1 : Hp} {p : Addr} (e : Ex H H1) (h : H1 p = none) : H p = none := Evl.fresh_back e h
theorem upd_none' {H : Hp} {p q : Addr} {o : HO} (h : upd H p o q = none) : q ≠ p ∧ H q = none := by
  by_cases e : q = p
  · subst e
    rw [upd_same] at h
    cases h
  · rw [upd_ne e] at h
    exact ⟨e, h⟩
/-- pure code -/
def Wp (K : PySem.W.Frag) (B : Addr → Prop) : Wd where
  K := K
  B := B
  R := Ex
  I := fun H => ∀ p, H p = none → ¬ B p
  rfl' := Evl.Ex.refl
  trans' := Evl.Ex.trans
  ofEx := fun h => h
  keep := fun h => Xt.of h
  chg := fun e n => Evl.Ex.mut e n
  inv := fun e i p h => i p (Ex.none e h)
  fresh := fun i h => i _ h
  imut := fun _ _ i1 _ q h => i1 q (upd_none' h).2
/-- one more address apart (the list that a comprehension fills) -/
def Wd.plus (W : Wd) (L : Addr) : Wd where
  K := W.K
  B := fun a => W.B a ∨ a = L
  R := W.R
  I := fun H => W.I H ∧ H L ≠ none
  rfl' := W.rfl'
  trans' := W.trans'
  ofEx := W.ofEx
  keep := fun r a o n h => W.keep r a o (fun z => n (Or.inl z)) h
  chg := W.chg
  inv := fun e i => ⟨W.inv e i.1, fun z => i.2 (Ex.none e z)⟩
  fresh := fun i h z => z.elim (W.fresh i.1 h) fun e => by subst e; exact i.2 h
  imut := fun i r i1 n => ⟨W.imut i.1 r i1.1 n, fun z => i1.2 (upd_none' z).2⟩

/-! ### what the slots hold -/
structure Slots (W : Wd) (σ : L2.St) (H : Hp) (ρ : List (Option D)) : Prop where
  len : σ.length = ρ.length
  get : ∀ (i : Nat) (d : D), ρ[i]? = some (some d) → ∃ v, σ[i]? = some (some v) ∧ DV W.K W.B H v d
section
variable {W : Wd} {σ : L2.St} {H H' : Hp} {ρ : List (Option D)}
theorem Slots.mono (r : W.R H H') (e : Slots W σ H ρ) : Slots W σ H' ρ := ⟨e.len, fun i d h => by
  obtain ⟨v, h1, h2⟩ := e.get i d h
  exact ⟨v, h1, h2.mono (W.keep r)⟩⟩
theorem Slots.set {i : Nat} {v : V} {d : D} (e : Slots W σ H ρ) (h : DV W.K W.B H v d) : Slots W (σ.set i (some v)) H (ρ.set i (some d)) := by
  refine ⟨by rw [List.length_set, List.length_set, e.len], fun j c hj => ?_⟩
  by_cases hij : i = j
  · subst hij
    by_cases hl : i < ρ.length
    · rw [List.getElem?_set_self hl] at hj
      cases hj
      exact ⟨v, List.getElem?_set_self (by rw [e.len]; exact hl), h⟩
    · rw [List.getElem?_eq_none (by rw [List.length_set]; omega)] at hj
      cases hj
  · rw [List.getElem?_set_ne hij] at hj
    rw [List.getElem?_set_ne hij]
    exact e.get j c hj
theorem Slots.out {i : Nat} (e : Slots W σ H ρ) : Slots W (σ.set i none) H (ρ.set i none) := by
  refine ⟨by rw [List.length_set, List.length_set, e.len], fun j c hj => ?_⟩
  by_cases hij : i = j
  · subst hij
    by_cases hl : i < ρ.length
    · rw [List.getElem?_set_self hl] at hj
      cases hj
    · rw [List.getElem?_eq_none (by rw [List.length_set]; omega)] at hj
      cases hj
  · rw [List.getElem?_set_ne hij] at hj
    rw [List.getElem?_set_ne hij]
    exact e.get j c hj
theorem Slots.weak {W' : Wd} (hK : W'.K = W.K) (w : Wk W.B W'.B H) (e : Slots W σ H ρ) : Slots W' σ H ρ := ⟨e.len, fun i d h => by
  obtain ⟨v, h1, h2⟩ := e.get i d h
  exact ⟨v, h1, by rw [hK]; exact h2.weak w⟩⟩
def wipeD (ρ : List (Option D)) : List Nat → List (Option D)
  | [] => ρ
  | v :: vs => (wipeD ρ vs).set v none
theorem Slots.wipe (e : Slots W σ H ρ) : ∀ vs : List Nat, Slots W (wipe σ vs) H (wipeD ρ vs)
  | [] => e
  | v :: vs => (Slots.wipe e vs).out
end

/-! ### judgements: wp over data -/
abbrev RhoP := List (Option D) → Prop
def Ev (W : Wd) (te : TE) (ρ : List (Option D)) (S : D → Prop) : Prop :=
  ∀ σ H, Slots W σ H ρ → W.I H → ∀ Q : VK, (∀ v H' d, W.R H H' → W.I H' → S d → DV W.K W.B H' v d → Q v H') → te σ H Q
def Ts (W : Wd) (tt : TT) (ρ : List (Option D)) (S : Bool → Prop) : Prop :=
  ∀ σ H, Slots W σ H ρ → W.I H → ∀ Q : Bool → Hp → Prop, (∀ b H', W.R H H' → W.I H' → S b → Q b H') → tt σ H Q
def Ea (W : Wd) (ta : TA) (ρ : List (Option D)) (S : List D → Prop) : Prop :=
  ∀ σ H, Slots W σ H ρ → W.I H → ∀ Q : List V → Hp → Prop, (∀ vs H' ds, W.R H H' → W.I H' → S ds → DVs W.K W.B H' vs ds → Q vs H') → ta σ H Q
def Eo (W : Wd) (to : TO) (ρ : List (Option D)) (S : Option Int → Prop) : Prop :=
  ∀ σ H, Slots W σ H ρ → W.I H → ∀ Q : Option Int → Hp → Prop, (∀ o H', W.R H H' → W.I H' → S o → Q o H') → to σ H Q
/-- what a relation of values gives on data: two places, one, a list -/
def Rb (W : Wd) (r : R2) (d e : D) (S : D → Prop) : Prop :=
  ∀ H x y, W.I H → DV W.K W.B H x d → DV W.K W.B H y e → ∀ Q : VK, (∀ z H' c, W.R H H' → W.I H' → S c → DV W.K W.B H' z c → Q z H') → r x y H Q
def Ru (W : Wd) (r : V → Hp → VK → Prop) (d : D) (S : D → Prop) : Prop :=
  ∀ H x, W.I H → DV W.K W.B H x d → ∀ Q : VK, (∀ z H' c, W.R H H' → W.I H' → S c → DV W.K W.B H' z c → Q z H') → r x H Q
def Rc (W : Wd) (r : List V → Hp → VK → Prop) (ds : List D) (S : D → Prop) : Prop :=
  ∀ H xs, W.I H → DVs W.K W.B H xs ds → ∀ Q : VK, (∀ z H' c, W.R H H' → W.I H' → S c → DV W.K W.B H' z c → Q z H') → r xs H Q
def Rs (W : Wd) (r : V → Option Int → Option Int → Hp → VK → Prop) (d : D) (lo hi : Option Int) (S : D → Prop) : Prop :=
  ∀ H x, W.I H → DV W.K W.B H x d → ∀ Q : VK, (∀ z H' c, W.R H H' → W.I H' → S c → DV W.K W.B H' z c → Q z H') → r x lo hi H Q
/-- statements: N of the slots behind, T of what is returned -/
structure Wants where
  N : RhoP
  T : D → Prop
def Sm (W : Wd) (ts : TS) (ρ : List (Option D)) (Z : Wants) : Prop :=
  ∀ σ H, Slots W σ H ρ → W.I H → ∀ E : Ends, (∀ σ' H' ρ', Slots W σ' H' ρ' → W.R H H' → W.I H' → Z.N ρ' → E.nx σ' H') →
    (∀ v H' d, W.R H H' → W.I H' → Z.T d → DV W.K W.B H' v d → E.rt v H') → ts E σ H
section
variable {W : Wd} {ρ : List (Option D)} {S : D → Prop} {ta tb tc te : TE} {t u : TT} {Z : Wants}

theorem ev_imp {S' : D → Prop} (h : Ev W te ρ S) (i : ∀ d, S d → S' d) : Ev W te ρ S' :=
  fun σ H e hi Q q => h σ H e hi Q fun v H' d r i' s => q v H' d r i' (i d s)
theorem ts_imp {S S' : Bool → Prop} (h : Ts W t ρ S) (i : ∀ d, S d → S' d) : Ts W t ρ S' :=
  fun σ H e hi Q q => h σ H e hi Q fun v H' r i' s => q v H' r i' (i v s)

theorem ev_var {i : Nat} {d : D} (h : ρ[i]? = some (some d)) (s : S d) : Ev W (tVar i) ρ S := fun σ H e hi Q q => by
  obtain ⟨v, h1, h2⟩ := e.get i d h
  exact ⟨v, h1, q v H d (W.rfl' H) hi s h2⟩
theorem ev_int {i : Int} (s : S (.int i)) : Ev W (tC (.int i)) ρ S := fun σ H e hi Q q => q _ H _ (W.rfl' H) hi s (.int i)
theorem ev_bl {b : Bool} (s : S (.bl b)) : Ev W (tC (.bl b)) ρ S := fun σ H e hi Q q => q _ H _ (W.rfl' H) hi s (.bl b)
theorem ev_str {x : Str} (s : S (.str x)) : Ev W (tC (.str x)) ρ S := fun σ H e hi Q q => q _ H _ (W.rfl' H) hi s (.str x)
theorem ev_non (s : S .non) : Ev W (tC .non) ρ S := fun σ H e hi Q q => q _ H _ (W.rfl' H) hi s .non
theorem ev_raw {v : V} (s : S (.raw v)) : Ev W (tC v) ρ S := fun σ H e hi Q q => q _ H _ (W.rfl' H) hi s (.raw v)

theorem ev_op {r : R2} (h : Ev W ta ρ fun d => Ev W tb ρ fun e => Rb W r d e S) : Ev W (tOp r ta tb) ρ S := fun σ H e hi Q q =>
  h σ H e hi _ fun x H1 d r1 i1 hb dx => hb σ H1 (e.mono r1) i1 _ fun y H2 c r2 i2 hr dy =>
    hr H2 x y i2 (dx.mono (W.keep r2)) dy Q fun z H3 a r3 i3 s dz => q z H3 a (W.trans' (W.trans' r1 r2) r3) i3 s dz
theorem ev_un {r : V → Hp → VK → Prop} (h : Ev W ta ρ fun d => Ru W r d S) : Ev W (tUn r ta) ρ S := fun σ H e hi Q q =>
  h σ H e hi _ fun x H1 d r1 i1 hr dx => hr H1 x i1 dx Q fun z H3 a r3 i3 s dz => q z H3 a (W.trans' r1 r3) i3 s dz
theorem ev_and (h : Ev W ta ρ fun d => ∃ b, d = .bl b ∧ if b = true then Ev W tb ρ S else S (.bl false)) : Ev W (tAndV ta tb) ρ S := fun σ H e hi Q q =>
  h σ H e hi _ fun x H1 d r1 i1 hb dx => by
    obtain ⟨b, rfl, hb⟩ := hb
    cases dx
    refine ⟨b, rfl, ?_⟩
    cases b with
    | true => exact hb σ H1 (e.mono r1) i1 Q fun z H3 a r3 i3 s dz => q z H3 a (W.trans' r1 r3) i3 s dz
    | false => exact q _ H1 _ r1 i1 hb (.bl false)
theorem ev_or (h : Ev W ta ρ fun d => ∃ b, d = .bl b ∧ if b = true then S (.bl true) else Ev W tb ρ S) : Ev W (tOrV ta tb) ρ S := fun σ H e hi Q q =>
  h σ H e hi _ fun x H1 d r1 i1 hb dx => by
    obtain ⟨b, rfl, hb⟩ := hb
    cases dx
    refine ⟨b, rfl, ?_⟩
    cases b with
    | false => exact hb σ H1 (e.mono r1) i1 Q fun z H3 a r3 i3 s dz => q z H3 a (W.trans' r1 r3) i3 s dz
    | true => exact q _ H1 _ r1 i1 hb (.bl true)
theorem ev_not (h : Ev W ta ρ fun d => ∃ b, d = .bl b ∧ S (.bl (!b))) : Ev W (tNotV ta) ρ S := fun σ H e hi Q q =>
  h σ H e hi _ fun x H1 d r1 i1 hb dx => by
    obtain ⟨b, rfl, hb⟩ := hb
    cases dx
    exact ⟨b, rfl, q _ H1 _ r1 i1 hb (.bl _)⟩
theorem ev_if (h : Ts W t ρ fun b => if b = true then Ev W ta ρ S else Ev W tb ρ S) : Ev W (tIf t ta tb) ρ S := fun σ H e hi Q q =>
  h σ H e hi _ fun b H1 r1 i1 hb => by
    cases b with
    | true => exact hb σ H1 (e.mono r1) i1 Q fun z H3 a r3 i3 s dz => q z H3 a (W.trans' r1 r3) i3 s dz
    | false => exact hb σ H1 (e.mono r1) i1 Q fun z H3 a r3 i3 s dz => q z H3 a (W.trans' r1 r3) i3 s dz
theorem ev_chain {r r' : R2} (h : Ev W ta ρ fun d => Ev W tb ρ fun e => Rb W r d e fun z => ∃ k, z = .bl k ∧ if k = true then Ev W tc ρ fun c => Rb W r' e c S else S (.bl false)) :
    Ev W (tChain r r' ta tb tc) ρ S := fun σ H e hi Q q =>
  h σ H e hi _ fun x H1 d r1 i1 hb dx => hb σ H1 (e.mono r1) i1 _ fun y H2 c r2 i2 hr dy =>
    hr H2 x y i2 (dx.mono (W.keep r2)) dy _ fun z H3 a r3 i3 s dz => by
      obtain ⟨k, rfl, s⟩ := s
      cases dz
      refine ⟨k, rfl, ?_⟩
      cases k with
      | true =>
        refine s σ H3 (e.mono (W.trans' (W.trans' r1 r2) r3)) i3 _ fun w' H4 a4 r4 i4 s4 d4 => ?_
        refine s4 H4 y w' i4 (dy.mono (W.keep (W.trans' r3 r4))) d4 Q fun z5 H5 a5 r5 i5 s5 d5 => ?_
        exact q z5 H5 a5 (W.trans' (W.trans' (W.trans' (W.trans' r1 r2) r3) r4) r5) i5 s5 d5
      | false => exact q _ H3 _ (W.trans' (W.trans' r1 r2) r3) i3 s (.bl false)

/-! tests -/
theorem ts_B {S : Bool → Prop} (h : Ev W te ρ fun d => ∃ b, d = .bl b ∧ S b) : Ts W (tB te) ρ S := fun σ H e hi Q q =>
  h σ H e hi _ fun x H1 d r1 i1 hb dx => by
    obtain ⟨b, rfl, hb⟩ := hb
    cases dx
    exact ⟨b, rfl, q b H1 r1 i1 hb⟩
theorem ts_test {S : Bool → Prop} (h : Ev W te ρ fun d => ∃ b, d = .bl b ∧ S b) : Ts W (tTest te) ρ S := fun σ H e hi Q q =>
  h σ H e hi _ fun x H1 d r1 i1 hb dx => by
    obtain ⟨b, rfl, hb⟩ := hb
    cases dx
    exact ⟨b, rfl, q b H1 r1 i1 hb⟩
theorem ts_not {S : Bool → Prop} (h : Ts W t ρ fun b => S (!b)) : Ts W (tNot t) ρ S := fun σ H e hi Q q =>
  h σ H e hi _ fun b H1 r1 i1 hb => q _ H1 r1 i1 hb
theorem ts_and {S : Bool → Prop} (h : Ts W t ρ fun b => if b = true then Ts W u ρ S else S false) : Ts W (tAnd t u) ρ S := fun σ H e hi Q q =>
  h σ H e hi _ fun b H1 r1 i1 hb => by
    cases b with
    | true => exact hb σ H1 (e.mono r1) i1 _ fun c H2 r2 i2 s => q c H2 (W.trans' r1 r2) i2 s
    | false => exact q false H1 r1 i1 hb
theorem ts_or {S : Bool → Prop} (h : Ts W t ρ fun b => if b = true then S true else Ts W u ρ S) : Ts W (tOr t u) ρ S := fun σ H e hi Q q =>
  h σ H e hi _ fun b H1 r1 i1 hb => by
    cases b with
    | false => exact hb σ H1 (e.mono r1) i1 _ fun c H2 r2 i2 s => q c H2 (W.trans' r1 r2) i2 s
    | true => exact q true H1 r1 i1 hb
theorem ts_yes {S : Bool → Prop} (h : S true) : Ts W tYes ρ S := fun σ H e hi Q q => q true H (W.rfl' H) hi h

/-! argument lists, displays -/
theorem ea_nil {S : List D → Prop} (s : S []) : Ea W tNil ρ S := fun σ H e hi Q q => q [] H [] (W.rfl' H) hi s .nil
theorem ea_cons {S : List D → Prop} {tr : TA} (h : Ev W ta ρ fun d => Ea W tr ρ fun ds => S (d :: ds)) : Ea W (tCons ta tr) ρ S := fun σ H e hi Q q =>
  h σ H e hi _ fun x H1 d r1 i1 hb dx => hb σ H1 (e.mono r1) i1 _ fun xs H2 ds r2 i2 s dxs => q (x :: xs) H2 (d :: ds) (W.trans' r1 r2) i2 s (.cons (dx.mono (W.keep r2)) dxs)
theorem new_lst {H : Hp} {p : Addr} {xs : List V} {ds : List D} (i : W.I H) (n : H p = none) (h : DVs W.K W.B H xs ds) : DV W.K W.B (upd H p (.lst xs)) (.ref p) (.lst ds) :=
  .lst (Or.inl ⟨W.fresh i n, Or.inl upd_same⟩) (h.mono (Xt.of (Evl.Ex.new n)))
theorem new_tup {H : Hp} {p : Addr} {xs : List V} {ds : List D} (i : W.I H) (n : H p = none) (h : DVs W.K W.B H xs ds) : DV W.K W.B (upd H p (.tup xs)) (.ref p) (.tup ds) :=
  .tup (Or.inl ⟨W.fresh i n, Or.inl upd_same⟩) (h.mono (Xt.of (Evl.Ex.new n)))
theorem ev_lst {tr : TA} (h : Ea W tr ρ fun ds => ds.length ≤ sizeLine ∧ S (.lst ds)) : Ev W (tLst tr) ρ S := fun σ H e hi Q q =>
  h σ H e hi _ fun xs H1 ds r1 i1 s dxs => ⟨by rw [dxs.len]; exact s.1, fun p n =>
    q _ _ _ (W.trans' r1 (W.ofEx (Evl.Ex.new n))) (W.inv (Evl.Ex.new n) i1) s.2 (new_lst i1 n dxs)⟩
theorem ev_tup {tr : TA} (h : Ea W tr ρ fun ds => ds.length ≤ sizeLine ∧ S (.tup ds)) : Ev W (tTup tr) ρ S := fun σ H e hi Q q =>
  h σ H e hi _ fun xs H1 ds r1 i1 s dxs => ⟨by rw [dxs.len]; exact s.1, fun p n =>
    q _ _ _ (W.trans' r1 (W.ofEx (Evl.Ex.new n))) (W.inv (Evl.Ex.new n) i1) s.2 (new_tup i1 n dxs)⟩
theorem ev_CB {r : List V → Hp → VK → Prop} {tr : TA} (h : Ea W tr ρ fun ds => Rc W r ds S) : Ev W (tCB r tr) ρ S := fun σ H e hi Q q =>
  h σ H e hi _ fun xs H1 ds r1 i1 s dxs => s H1 xs i1 dxs Q fun z H2 c r2 i2 s2 dz => q z H2 c (W.trans' r1 r2) i2 s2 dz

/-! slices -/
theorem eo_none {S : Option Int → Prop} (s : S none) : Eo W tNoPart ρ S := fun σ H e hi Q q => q none H (W.rfl' H) hi s
theorem eo_some {S : Option Int → Prop} (h : Ev W te ρ fun d => ∃ i, d = .int i ∧ S (some i)) : Eo W (tPart te) ρ S := fun σ H e hi Q q =>
  h σ H e hi _ fun x H1 d r1 i1 hb dx => by
    obtain ⟨i, rfl, hb⟩ := hb
    cases dx
    exact ⟨i, rfl, q _ H1 r1 i1 hb⟩
theorem ev_sl {r : V → Option Int → Option Int → Hp → VK → Prop} {tl th : TO} (h : Ev W te ρ fun d => Eo W tl ρ fun lo => Eo W th ρ fun hi => Rs W r d lo hi S) : Ev W (tSl r te tl th) ρ S := fun σ H e hi Q q =>
  h σ H e hi _ fun x H1 d r1 i1 hb dx => hb σ H1 (e.mono r1) i1 _ fun lo H2 r2 i2 hl => hl σ H2 (e.mono (W.trans' r1 r2)) i2 _ fun up H3 r3 i3 s =>
    s H3 x i3 (dx.mono (W.keep (W.trans' r2 r3))) Q fun z H4 c r4 i4 s4 dz => q z H4 c (W.trans' (W.trans' (W.trans' r1 r2) r3) r4) i4 s4 dz

/-! statements -/
theorem sm_next (h : Z.N ρ) : Sm W tNext ρ Z := fun σ H e hi E n _ => n σ H ρ e (W.rfl' H) hi h
theorem sm_seq {ts us : TS} (h : Sm W ts ρ ⟨fun ρ' => Sm W us ρ' Z, Z.T⟩) : Sm W (tSeq ts us) ρ Z := fun σ H e hi E n rt =>
  h σ H e hi _ (fun σ' H' ρ' e' r' i' s => s σ' H' e' i' E (fun σ2 H2 ρ2 e2 r2 i2 s2 => n σ2 H2 ρ2 e2 (W.trans' r' r2) i2 s2)
    fun v H2 d r2 i2 s2 dv => rt v H2 d (W.trans' r' r2) i2 s2 dv) rt
theorem sm_ret (h : Ev W te ρ Z.T) : Sm W (tRet te) ρ Z := fun σ H e hi E n rt => h σ H e hi _ fun v H' d r i s dv => rt v H' d r i s dv
theorem sm_retN (h : Z.T .non) : Sm W tRetN ρ Z := fun σ H e hi E n rt => rt _ H _ (W.rfl' H) hi h .non
theorem sm_drop (h : Ev W te ρ fun _ => Z.N ρ) : Sm W (tDrop te) ρ Z := fun σ H e hi E n rt => h σ H e hi _ fun v H' d r i s dv => n σ H' ρ (e.mono r) r i s
theorem sm_if {ts us : TS} (h : Ts W t ρ fun b => if b = true then Sm W ts ρ Z else Sm W us ρ Z) : Sm W (tIfS t ts us) ρ Z := fun σ H e hi E n rt =>
  h σ H e hi _ fun b H1 r1 i1 hb => by
    cases b with
    | true => exact hb σ H1 (e.mono r1) i1 E (fun σ2 H2 ρ2 e2 r2 i2 s2 => n σ2 H2 ρ2 e2 (W.trans' r1 r2) i2 s2) fun v H2 d r2 i2 s2 dv => rt v H2 d (W.trans' r1 r2) i2 s2 dv
    | false => exact hb σ H1 (e.mono r1) i1 E (fun σ2 H2 ρ2 e2 r2 i2 s2 => n σ2 H2 ρ2 e2 (W.trans' r1 r2) i2 s2) fun v H2 d r2 i2 s2 dv => rt v H2 d (W.trans' r1 r2) i2 s2 dv

/-! targets: what is stored, in slots of ls alone -/
def Tg (W : Wd) (g : TG) (ls : List Nat) (ρ : List (Option D)) (d : D) (N : RhoP) : Prop :=
  ∀ σ H v, Slots W σ H ρ → W.I H → DV W.K W.B H v d → ∀ Q : L2.St → Hp → Prop,
    (∀ σ' ρ', Slots W σ' H ρ' → (∀ j, j ∉ ls → σ'[j]? = σ[j]?) → σ'.length = σ.length → N ρ' → Q σ' H) → g v σ H Q
theorem tg_name {i : Nat} {d : D} {N : RhoP} (h : N (ρ.set i (some d))) : Tg W (gName i) [i] ρ d N := fun σ H v e hi dv Q q =>
  q _ _ (e.set dv) (fun j hj => List.getElem?_set_ne (fun z => hj (by rw [z]; exact List.mem_cons_self))) (List.length_set ..) h
/-- several targets -/
def Tgs (W : Wd) (g : TGs) (ls : List Nat) (ρ : List (Option D)) (ds : List D) (N : RhoP) : Prop :=
  ∀ σ H vs, Slots W σ H ρ → W.I H → DVs W.K W.B H vs ds → ∀ Q : L2.St → Hp → Prop,
    (∀ σ' ρ', Slots W σ' H ρ' → (∀ j, j ∉ ls → σ'[j]? = σ[j]?) → σ'.length = σ.length → N ρ' → Q σ' H) → g vs σ H Q
theorem tgs_nil {N : RhoP} (h : N ρ) : Tgs W gNil [] ρ [] N := fun σ H vs e hi dv Q q => by
  cases dv
  exact ⟨rfl, q σ ρ e (fun _ _ => rfl) rfl h⟩
theorem tgs_cons {g : TG} {gs : TGs} {l1 l2 : List Nat} {d : D} {ds : List D} {N : RhoP} (h : Tg W g l1 ρ d fun ρ' => Tgs W gs l2 ρ' ds N) : Tgs W (gCons g gs) (l1 ++ l2) ρ (d :: ds) N := fun σ H vs e hi dv Q q => by
  cases dv with
  | cons h1 h2 =>
    refine ⟨_, _, rfl, h σ H _ e hi h1 _ fun σ1 ρ1 e1 a1 n1 s1 => ?_⟩
    refine s1 σ1 H _ e1 hi h2 Q fun σ2 ρ2 e2 a2 n2 s2 => q σ2 ρ2 e2 (fun j hj => ?_) (n2.trans n1) s2
    rw [a2 j fun z => hj (List.mem_append_right _ z), a1 j fun z => hj (List.mem_append_left _ z)]
theorem tg_tup {gs : TGs} {ls : List Nat} {n : Nat} {ds : List D} {N : RhoP} (hn : ds.length = n) (h : Tgs W gs ls ρ ds N) : Tg W (gTup W.K n gs) ls ρ (.tup ds) N := fun σ H v e hi dv Q q => by
  cases dv with
  | tup hs hd => exact ⟨_, _, rfl, hs.sq, by rw [hd.len]; exact hn, h σ H _ e hi hd Q q⟩
theorem sm_asg {g : TG} {ls : List Nat} (h : Ev W te ρ fun d => Tg W g ls ρ d Z.N) : Sm W (tAsg te g) ρ Z := fun σ H e hi E n rt =>
  h σ H e hi _ fun v H' d r i s dv => s σ H' v (e.mono r) i dv _ fun σ' ρ' e' _ _ s' => n σ' H' ρ' e' r i s'
theorem sm_set {i : Nat} (h : Ev W te ρ fun d => Z.N (ρ.set i (some d))) : Sm W (tAsg te (gName i)) ρ Z := sm_asg (ls := [i]) (ev_imp h fun d s => tg_name s)
theorem sm_par {i j : Nat} {tr : TA} (h : Ea W tr ρ fun ds => ∃ a b, ds = [a, b] ∧ Z.N ((ρ.set i (some a)).set j (some b))) : Sm W (tPar i j tr) ρ Z := fun σ H e hi E n rt =>
  h σ H e hi _ fun vs H' ds r i' s dv => by
    obtain ⟨a, b, rfl, s⟩ := s
    cases dv with
    | cons h1 h2 =>
      cases h2 with
      | cons h3 h4 =>
        cases h4
        exact ⟨_, _, rfl, n _ H' _ (((e.mono r).set h1).set h3) r i' s⟩
theorem sm_par3 {i j l : Nat} {tr : TA} (h : Ea W tr ρ fun ds => ∃ a b c, ds = [a, b, c] ∧ Z.N (((ρ.set i (some a)).set j (some b)).set l (some c))) : Sm W (tPar3 i j l tr) ρ Z := fun σ H e hi E n rt =>
  h σ H e hi _ fun vs H' ds r i' s dv => by
    obtain ⟨a, b, c, rfl, s⟩ := s
    cases dv with
    | cons h1 h2 =>
      cases h2 with
      | cons h3 h4 =>
        cases h4 with
        | cons h5 h6 =>
          cases h6
          exact ⟨_, _, _, rfl, n _ H' _ ((((e.mono r).set h1).set h3).set h5) r i' s⟩
end
end Lb

/-! LbC: loops and comprehensions over data; promises of defs over data; the bag. -/
namespace Lb
open PySem PySem.Spec PyProof.Rows L2
open Evl (Ex)

/-! ### what is walked -/
def DIt (K : PySem.W.Frag) (B : Addr → Prop) (J : It) (H0 : Hp) (items : List D) : Prop :=
  ∀ B' H, Wk B B' H0 → Xt B' H0 H → (∀ p, H p = none → ¬ B' p) → (∀ i, i < items.length → J.go i H) ∧ J.stop items.length H ∧
    ∀ i x H', i < items.length → J.yld i H x H' → Ex H H' ∧ ∃ d, items[i]? = some d ∧ DV K B' H' x d
section
variable {K : PySem.W.Frag} {B : Addr → Prop} {H0 : Hp}
theorem dit_list {a : Addr} {xs : List V} {ds : List D} (h : LB K B H0 a xs) (hs : DVs K B H0 xs ds) : DIt K B (Itl K a) H0 ds := by
  intro B' H w e _
  have h1 : SqL K H a xs := ((h.weak w).mono e).sq
  have hl := hs.len
  refine ⟨fun i hi => ⟨xs, xs[i]'(by omega), h1, by simp [hl, hi]⟩, ⟨xs, h1, by omega⟩, fun i x H' hi y => ?_⟩
  obtain ⟨e1, y⟩ := y
  subst e1
  refine ⟨Evl.Ex.refl _, ds[i], by simp [hi], ?_⟩
  obtain ⟨v, h2, h3⟩ := ((hs.weak w).mono e).get (i := i) (d := ds[i]) (by simp [hi])
  rw [y xs h1] at h2
  cases h2
  exact h3
theorem dit_tup {a : Addr} {xs : List V} {ds : List D} (h : TB K B H0 a xs) (hs : DVs K B H0 xs ds) : DIt K B (Itt K a) H0 ds := by
  intro B' H w e _
  have h1 : SqT K H a xs := ((h.weak w).mono e).sq
  have hl := hs.len
  refine ⟨fun i hi => ⟨xs, xs[i]'(by omega), h1, by simp [hl, hi]⟩, ⟨xs, h1, by omega⟩, fun i x H' hi y => ?_⟩
  obtain ⟨e1, y⟩ := y
  subst e1
  refine ⟨Evl.Ex.refl _, ds[i], by simp [hi], ?_⟩
  obtain ⟨v, h2, h3⟩ := ((hs.weak w).mono e).get (i := i) (d := ds[i]) (by simp [hi])
  rw [y xs h1] at h2
  cases h2
  exact h3
/-- lo, lo + 1, .. -/
def rngD (lo : Int) (n : Nat) : List D := (List.range n).map fun (i : Nat) => D.int (lo + (i : Int))
theorem rngD_len (lo : Int) (n : Nat) : (rngD lo n).length = n := by simp [rngD]
theorem rngD_get {lo : Int} {n i : Nat} {d : D} (h : (rngD lo n)[i]? = some d) : i < n ∧ d = .int (lo + i) := by
  unfold rngD at h
  rw [List.getElem?_map] at h
  by_cases hi : i < n
  · rw [List.getElem?_range hi] at h
    exact ⟨hi, (Option.some.inj h).symm⟩
  · rw [List.getElem?_eq_none (by simp; omega)] at h
    cases h
theorem dit_range (lo : Int) (n : Nat) : DIt K B (Itr lo n) H0 (rngD lo n) := by
  intro B' H w e _
  rw [rngD_len]
  refine ⟨fun i hi => hi, Nat.le_refl _, fun i x H' hi y => ?_⟩
  obtain ⟨e1, y⟩ := y
  subst e1 y
  refine ⟨Evl.Ex.refl _, .int (lo + i), ?_, .int _⟩
  unfold rngD
  rw [List.getElem?_map, List.getElem?_range hi]
  rfl
/-- the signs of a text -/
def sgnD (z : Str) : List D := z.cps.toList.map fun c => D.str ⟨#[c]⟩
theorem sgnD_len (z : Str) : (sgnD z).length = z.length := by simp [sgnD, Str.length]
theorem dit_str (z : Str) : DIt K B (Its z) H0 (sgnD z) := by
  intro B' H w e _
  have hl : (sgnD z).length = z.cps.size := by simp [sgnD]
  rw [hl]
  refine ⟨fun i hi => hi, Nat.le_refl _, fun i x H' hi y => ?_⟩
  obtain ⟨e1, c, y, ex⟩ := y
  subst e1 ex
  refine ⟨Evl.Ex.refl _, .str ⟨#[c]⟩, ?_, .str _⟩
  unfold sgnD
  rw [List.getElem?_map, Array.getElem?_toList, y]
  rfl
end

def Iw (W : Wd) (wi : TI) (ρ : List (Option D)) (P : List D → Prop) : Prop :=
  ∀ σ H, Slots W σ H ρ → W.I H → ∀ Rk : It → Hp → Prop, (∀ J H2 items, W.R H H2 → W.I H2 → DIt W.K W.B J H2 items → P items → Rk J H2) → wi σ H Rk
section
variable {W : Wd} {ρ : List (Option D)} {S : D → Prop} {P : List D → Prop} {te tl : TE} {Z : Wants}
theorem iw_list (h : Ev W tl ρ fun d => ∃ ds, d = .lst ds ∧ P ds) : Iw W (iList W.K tl) ρ P := fun σ H e hi Rk q =>
  h σ H e hi _ fun x H1 d r1 i1 s dx => by
    obtain ⟨ds, rfl, s⟩ := s
    cases dx with
    | lst hl hs => exact ⟨_, rfl, ⟨_, hl.sq⟩, q _ H1 ds r1 i1 (dit_list hl hs) s⟩
theorem iw_tup (h : Ev W tl ρ fun d => ∃ ds, d = .tup ds ∧ P ds) : Iw W (iTup W.K tl) ρ P := fun σ H e hi Rk q =>
  h σ H e hi _ fun x H1 d r1 i1 s dx => by
    obtain ⟨ds, rfl, s⟩ := s
    cases dx with
    | tup hl hs => exact ⟨_, rfl, ⟨_, hl.sq⟩, q _ H1 ds r1 i1 (dit_tup hl hs) s⟩
theorem iw_str (h : Ev W te ρ fun d => ∃ z, d = .str z ∧ P (sgnD z)) : Iw W (iStr te) ρ P := fun σ H e hi Rk q =>
  h σ H e hi _ fun x H1 d r1 i1 s dx => by
    obtain ⟨z, rfl, s⟩ := s
    cases dx
    exact ⟨z, rfl, q _ H1 _ r1 i1 (dit_str z) s⟩
theorem iw_rng1 {ta : TA} (h : Ea W ta ρ fun ds => ∃ j : Int, ds = [.int j] ∧ -(2 ^ 62) ≤ j ∧ j < 2 ^ 62 ∧ P (rngD 0 j.toNat)) : Iw W (iRng1 ta) ρ P := fun σ H e hi Rk q =>
  h σ H e hi _ fun xs H1 ds r1 i1 s dx => by
    obtain ⟨j, rfl, h1, h2, s⟩ := s
    cases dx with
    | cons h3 h4 =>
      cases h4
      cases h3
      exact ⟨j, rfl, h1, h2, q _ H1 _ r1 i1 (dit_range 0 _) s⟩
theorem wipe_in {σ : L2.St} {j : Nat} : ∀ {vs : List Nat}, j ∈ vs → (wipe σ vs)[j]? = if j < σ.length then some none else none
  | [], h => by simp at h
  | v :: vs, h => by
    unfold wipe
    by_cases e : v = j
    · subst e
      by_cases hl : v < σ.length
      · rw [if_pos hl, List.getElem?_set_self (by rw [wipe_length]; exact hl)]
      · rw [if_neg hl, List.getElem?_eq_none (by rw [List.length_set, wipe_length]; omega)]
    · rw [List.getElem?_set_ne e]
      exact wipe_in ((List.mem_cons.mp h).resolve_left fun z => e z.symm)
theorem wipe_same {σ σ' : L2.St} {vs : List Nat} (hl : σ'.length = σ.length) (h : ∀ j, j ∉ vs → σ'[j]? = (wipe σ vs)[j]?) : wipe σ' vs = wipe σ vs := by
  refine List.ext_getElem? fun j => ?_
  by_cases hj : j ∈ vs
  · rw [wipe_in hj, wipe_in hj, hl]
  · rw [wipe_out hj, h j hj]

/-- [te for g in wi if tt] -/
theorem ev_lc {wi : TI} {g : TG} {tt : TT} {vs ls : List Nat} (hls : ∀ j ∈ ls, j ∈ vs)
    (h : Iw W wi ρ fun items => items.length < sizeLine ∧ ∃ P : Nat → List D → Prop, P 0 [] ∧
      (∀ L, W.Fr L → ∀ i d out, items[i]? = some d → P i out → Tg (W.plus L) g ls (wipeD ρ vs) d fun ρ' =>
        Ts (W.plus L) tt ρ' fun b => if b = true then Ev (W.plus L) te ρ' fun e => P (i + 1) (out ++ [e]) else P (i + 1) out) ∧
      ∀ out, P items.length out → S (.lst out)) : Ev W (tLc wi g tt te vs) ρ S := by
  intro σ H e hi Q q
  refine h σ H e hi _ fun J H2 items r2 i2 dit hh => ?_
  obtain ⟨hz, P, p0, step, done⟩ := hh
  intro L hL
  have nB : ¬ W.B L := W.fresh i2 hL
  have wk : Wk W.B (W.plus L).B H2 := fun a z => z.elim Or.inl fun q => Or.inr (by rw [q]; exact hL)
  have fr : ∀ H', (W.plus L).I H' → ∀ p, H' p = none → ¬ (W.plus L).B p := fun H' i' p n => (W.plus L).fresh i' n
  have wlk : Walk J items.length (fun H' => W.R H2 H' ∧ (W.plus L).I H') (fun i H' x H'' => Ex H' H'' ∧ ∃ d, items[i]? = some d ∧ DV W.K (W.plus L).B H'' x d) :=
    ⟨fun i H' hi' hg => (dit _ H' wk ((W.plus L).keep hg.1) (fr H' hg.2)).1 i hi', fun H' hg => (dit _ H' wk ((W.plus L).keep hg.1) (fr H' hg.2)).2.1,
      fun i H' x H'' hi' hg y => (dit _ H' wk ((W.plus L).keep hg.1) (fr H' hg.2)).2.2 i x H'' hi' y⟩
  refine lc_it wlk (fun i H' => (W.R H2 H' ∧ (W.plus L).I H') ∧ ∃ acc out, H' L = some (.lst acc) ∧ acc.length ≤ i ∧ DVs W.K (W.plus L).B H' acc out ∧ P i out) ?_ (fun i H' _ p => p.1) ?_ ?_
  · have en : Ex H2 (upd H2 L (.lst [])) := Evl.Ex.new hL
    exact ⟨⟨W.ofEx en, W.inv en i2, by rw [upd_same]; simp⟩, [], [], upd_same, Nat.le_refl _, .nil, p0⟩
  · rintro i x H3 H4 hi3 ⟨⟨r3, i3⟩, acc, out, hacc, hlen, hout, pi⟩ ⟨e34, d, hd, dx⟩
    have i4 : (W.plus L).I H4 := (W.plus L).inv e34 i3
    have r4 : W.R H2 H4 := W.trans' r3 (W.ofEx e34)
    have sl2 : Slots W σ H2 ρ := e.mono r2
    have sl3 : Slots (W.plus L) σ H2 ρ := Slots.weak (W := W) (W' := W.plus L) rfl wk sl2
    have sl : Slots (W.plus L) (wipe σ vs) H4 (wipeD ρ vs) := (Slots.mono (W := W.plus L) r4 sl3).wipe vs
    refine step L ⟨H2, i2, hL⟩ i d out hd pi (wipe σ vs) H4 x sl i4 dx _ fun σ' ρ' sl' ag ln s => ⟨?_, ?_⟩
    · refine wipe_same ?_ fun j hj => ag j fun z => hj (hls j z)
      rw [ln, wipe_length]
    · refine s σ' H4 sl' i4 _ fun b H5 r5 i5 s5 => ?_
      have r5' : W.R H4 H5 := r5
      have keepL : ∀ {H6}, W.R H5 H6 → H6 L = some (.lst acc) := fun r6 => W.keep (W.trans' r5' r6) L _ nB (e34 L _ hacc)
      cases b with
      | false =>
        exact ⟨⟨W.trans' r4 r5', i5⟩, acc, out, keepL (W.rfl' _), Nat.le_succ_of_le hlen, (hout.mono (Xt.of e34)).mono ((W.plus L).keep r5), s5⟩
      | true =>
        refine s5 σ' H5 (sl'.mono r5) i5 _ fun y H6 c r6 i6 s6 dy => ?_
        have r6' : W.R H5 H6 := r6
        have r26 : W.R H2 H6 := W.trans' (W.trans' r4 r5') r6'
        have xu : ∀ o, Xt (W.plus L).B H6 (upd H6 L o) := fun o a u n ha => by
          rw [upd_ne fun z => n (Or.inr z)]
          exact ha
        refine ⟨acc, keepL r6', by omega, ⟨W.chg r26 hL, W.imut i2 r26 i6.1 hL, by rw [upd_same]; simp⟩, acc ++ [y], out ++ [c], upd_same, by simp; omega, ?_, s6⟩
        have h6 : DVs W.K (W.plus L).B H6 acc out := ((hout.mono (Xt.of e34)).mono ((W.plus L).keep r5)).mono ((W.plus L).keep r6)
        exact (h6.append (.cons dy .nil)).mono (xu _)
  · rintro H3 ⟨⟨r3, i3⟩, acc, out, hacc, hlen, hout, pn⟩
    exact q _ H3 _ (W.trans' r2 r3) i3.1 (done out pn) (.lst (Or.inl ⟨nB, Or.inl hacc⟩) (hout.weak (wk_of fun a z => Or.inl z)))

/-- for g in wi: tb -/
theorem sm_for {wi : TI} {g : TG} {tb : TS} {ls : List Nat}
    (h : Iw W wi ρ fun items => ∃ J : Nat → RhoP, J 0 ρ ∧
      (∀ i d ρ', items[i]? = some d → J i ρ' → Tg W g ls ρ' d fun ρ2 => Sm W tb ρ2 ⟨J (i + 1), Z.T⟩) ∧ ∀ ρ', J items.length ρ' → Z.N ρ') : Sm W (tFor wi g tb) ρ Z := by
  intro σ H e hi E n rt
  refine h σ H e hi _ fun It H2 items r2 i2 dit hh => ?_
  obtain ⟨J, j0, step, done⟩ := hh
  have wk : Wk W.B W.B H2 := fun a z => Or.inl z
  have wlk : Walk It items.length (fun H' => W.R H2 H' ∧ W.I H') (fun i H' x H'' => Ex H' H'' ∧ ∃ d, items[i]? = some d ∧ DV W.K W.B H'' x d) :=
    ⟨fun i H' hi' hg => (dit _ H' wk (W.keep hg.1) fun p z => W.fresh hg.2 z).1 i hi', fun H' hg => (dit _ H' wk (W.keep hg.1) fun p z => W.fresh hg.2 z).2.1,
      fun i H' x H'' hi' hg y => (dit _ H' wk (W.keep hg.1) fun p z => W.fresh hg.2 z).2.2 i x H'' hi' y⟩
  refine for_it wlk (fun i σ' H' => (W.R H2 H' ∧ W.I H') ∧ ∃ ρ', Slots W σ' H' ρ' ∧ J i ρ') ⟨⟨W.rfl' _, i2⟩, ρ, e.mono r2, j0⟩ (fun i σ' H' _ p => p.1) ?_ ?_
  · rintro i x σ3 H3 H4 hi3 ⟨⟨r3, i3⟩, ρ3, sl3, ji⟩ ⟨e34, d, hd, dx⟩
    have i4 : W.I H4 := W.inv e34 i3
    have r4 : W.R H2 H4 := W.trans' r3 (W.ofEx e34)
    refine step i d ρ3 hd ji σ3 H4 x (sl3.mono (W.ofEx e34)) i4 dx _ fun σ5 ρ5 sl5 _ _ s5 => ?_
    refine s5 σ5 H4 sl5 i4 _ (fun σ6 H6 ρ6 sl6 r6 i6 s6 => ⟨⟨W.trans' r4 r6, i6⟩, ρ6, sl6, s6⟩) fun v H6 c r6 i6 s6 dv => ?_
    exact rt v H6 c (W.trans' (W.trans' r2 r4) r6) i6 s6 dv
  · rintro σ3 H3 ⟨⟨r3, i3⟩, ρ3, sl3, jn⟩
    exact n σ3 H3 ρ3 sl3 (W.trans' r2 r3) i3 (done ρ3 jn)
end

/-! ### promises over data -/
/-- pure: n arguments, Pre of them, Post of them and of what is returned -/
def DSp (K : PySem.W.Frag) (n : Nat) (Pre : List D → Prop) (Post : List D → D → Prop) : Sp := fun vs H Q _ =>
  ∃ (B : Addr → Prop) (ds : List D), vs.length = n ∧ (∀ p, H p = none → ¬ B p) ∧ DVs K B H vs ds ∧ Pre ds ∧ ∀ v H' d, Ex H H' → Post ds d → DV K B H' v d → Q v H'
theorem slots_start {W : Wd} {H : Hp} {N : List Str} {vs : List V} {ds : List D} (h : DVs W.K W.B H vs ds) : Slots W (L2.start N vs) H (ds.map some ++ List.replicate (N.length - ds.length) none) := by
  have hl := h.len
  refine ⟨by unfold L2.start; simp [hl], fun i d hd => ?_⟩
  by_cases hi : i < ds.length
  · rw [List.getElem?_append_left (by simpa using hi), List.getElem?_map] at hd
    obtain ⟨c, hc, e⟩ := Option.map_eq_some_iff.mp hd
    obtain ⟨v, hv, dv⟩ := h.get hc
    cases e
    refine ⟨v, ?_, dv⟩
    unfold L2.start
    rw [List.getElem?_append_left (by rw [List.length_map, hl]; exact hi), List.getElem?_map, hv]
    rfl
  · rw [List.getElem?_append_right (by simpa using hi), List.getElem?_replicate] at hd
    split at hd <;> cases hd
section
variable {P : Program} {w : World} {K : PySem.W.Frag} {mg : Str → Option Value} {base : Heap} {x qual : Str} {st : Stmt} {f : Addr} {fd : FuncData} {N ps : List Str} {k n : Nat}
  {Pre : List D → Prop} {Post : List D → D → Prop} {t : TS}
theorem dsp_len (hn : ps.length = n) : ∀ vs H Q E, DSp K n Pre Post vs H Q E → vs.length = ps.length := fun vs H Q E h => by
  obtain ⟨_, _, h, _⟩ := h
  omega
theorem dsp_run {H : Hp} {vs : List V} {Q : VK} {E : XK} (h : DSp K n Pre Post vs H Q E)
    (hb : ∀ B ds, ds.length = n → Pre ds → Sm (Wp K B) t (ds.map some ++ List.replicate (N.length - n) none) ⟨fun _ => Post ds .non, Post ds⟩) :
    t { nx := fun _ H' => Q .non H', rt := Q } (L2.start N vs) H := by
  obtain ⟨B, ds, hl, fr, dv, pre, q⟩ := h
  have e : ds.length = n := dv.len.symm.trans hl
  subst e
  exact hb B ds rfl pre (L2.start N vs) H (slots_start (W := Wp K B) dv) fr _ (fun σ' H' ρ' _ r i s => q _ H' _ r s .non) fun v H' d r i s d' => q v H' d r s d'
theorem okD (F : Fun K x qual st f fd) (S : FnScope N ps (defScope st)) (hn : ps.length = n)
    (der : ∀ (cdv : Value) (A : Around) (outer : List Env) (s : Shared) (H : Hp) (E : XK), Room k (A.deeper (envOfC qual (defScope st) s.heap.objs.size f cdv)) →
      PSs (cxOf CX0 P w K mg base N qual (defScope st) f cdv A outer s H E).nox (defBody st) t)
    (hb : ∀ B ds, ds.length = n → Pre ds → Sm (Wp K B) t (ds.map some ++ List.replicate (N.length - n) none) ⟨fun _ => Post ds .non, Post ds⟩) :
    FnOk P w K mg base CX0 (k + 1) f fd ps (DSp K n Pre Post) :=
  F.ok S (dsp_len hn) fun cdv A outer s H vs Q E hr h => ⟨t, der cdv A outer s H E hr, dsp_run h hb⟩
/-- .. of a def that shows values (repr) -/
theorem okDG (F : Fun K x qual st f fd) (S : FnScope N ps (defScope st)) (hn : ps.length = n)
    (der : ∀ (cdv : Value) (A : Around) (outer : List Env) (s : Shared) (H : Hp) (E : XK), A.guards = some [] → Room k (A.deeper (envOfC qual (defScope st) s.heap.objs.size f cdv)) →
      PSs (cxOf CX0 P w K mg base N qual (defScope st) f cdv A outer s H E).nox (defBody st) t)
    (hb : ∀ B ds, ds.length = n → Pre ds → Sm (Wp K B) t (ds.map some ++ List.replicate (N.length - n) none) ⟨fun _ => Post ds .non, Post ds⟩) :
    FnG P w K mg base CX0 (k + 1) f fd ps (DSp K n Pre Post) :=
  okG F S (dsp_len hn) fun cdv A outer s H vs Q E hG hr h => ⟨t, der cdv A outer s H E hG hr, dsp_run h hb⟩
end
section
variable {W : Wd} {ρ : List (Option D)} {S : D → Prop} {E : XK} {n : Nat} {Pre : List D → Prop} {Post : List D → D → Prop}
/-- a call of a pure def -/
theorem ev_callD {ta : TA} (h : Ea W ta ρ fun ds => ds.length = n ∧ Pre ds ∧ ∀ d, Post ds d → S d) : Ev W (tCall (DSp W.K n Pre Post) [] E ta) ρ S := fun σ H e hi Q q =>
  h σ H e hi _ fun vs H1 ds r1 i1 s dv => by
    obtain ⟨hl, pre, post⟩ := s
    rw [List.append_nil]
    exact ⟨W.B, ds, by rw [dv.len]; exact hl, fun p z => W.fresh i1 z, dv, pre, fun v H' d ex p d' => q v H' d (W.trans' r1 (W.ofEx ex)) (W.inv ex i1) (post d p) d'⟩
end

/-! ### the bag -/
/-- at b the bag: what is left of a great number, a seed, a count, the cells (at bl, the ints ns) -/
structure BagAt (K : PySem.W.Frag) (H : Hp) (b bl : Addr) (ns : List Int) : Prop where
  ob : ∃ c z k : Int, H b = some (.lst [.int c, .int z, .int k, .ref bl]) ∧ 0 ≤ c ∧ 0 ≤ z ∧ z < 2147483647 ∧ 0 ≤ k
  cells : LB K (· = b) H bl (ns.map V.int)
  pos : ∀ n ∈ ns, 0 ≤ n
theorem BagAt.ne {K : PySem.W.Frag} {H : Hp} {b bl : Addr} {ns : List Int} (h : BagAt K H b bl ns) : H b ≠ none := by
  obtain ⟨c, z, k, e, _⟩ := h.ob
  rw [e]
  simp
theorem BagAt.ex {K : PySem.W.Frag} {H H' : Hp} {b bl : Addr} {ns : List Int} (e : Ex H H') (h : BagAt K H b bl ns) : BagAt K H' b bl ns := by
  obtain ⟨c, z, k, e1, r⟩ := h.ob
  exact ⟨⟨c, z, k, e _ _ e1, r⟩, h.cells.mono (Xt.of e), h.pos⟩
theorem BagAt.upd {K : PySem.W.Frag} {H H' : Hp} {b bl p : Addr} {o : HO} {ns : List Int} (h : BagAt K H b bl ns) (h' : BagAt K H' b bl ns) (n : H p = none) : BagAt K (upd H' p o) b bl ns := by
  have nb : b ≠ p := fun z => h.ne (by rw [z]; exact n)
  obtain ⟨c, z, k, e1, r⟩ := h'.ob
  refine ⟨⟨c, z, k, by rw [upd_ne nb]; exact e1, r⟩, ?_, h.pos⟩
  rcases h.cells with ⟨n1, h1⟩ | h1
  · have nl : bl ≠ p := fun z => rd_some h1 (by rw [z]; exact n)
    rcases h'.cells with ⟨n2, h2⟩ | h2
    · refine Or.inl ⟨n2, ?_⟩
      rcases h2 with h2 | ⟨o2, h2⟩
      · exact Or.inl (by rw [upd_ne nl]; exact h2)
      · exact Or.inr ⟨o2, by rw [upd_ne nl]; exact h2⟩
    · exact Or.inr h2
  · exact Or.inr h1
/-- a world in which the bag at b may turn -/
structure Bagged (W : Wd) (b bl : Addr) (ns : List Int) : Prop where
  at_ : ∀ {H}, W.I H → BagAt W.K H b bl ns
  B : W.B b
  R : ∀ {H H'}, Xt (· = b) H H' → W.R H H'
  I : ∀ {H H'}, W.I H → Xt (· = b) H H' → BagAt W.K H' b bl ns → W.I H'
theorem Bagged.plus {W : Wd} {b bl : Addr} {ns : List Int} (g : Bagged W b bl ns) {L : Addr} (fr : W.Fr L) : Bagged (W.plus L) b bl ns := by
  obtain ⟨H0, i0, n0⟩ := fr
  have nb : L ≠ b := fun z => (g.at_ i0).ne (by rw [← z]; exact n0)
  refine ⟨fun i => g.at_ i.1, Or.inl g.B, fun e => g.R e, fun {H H'} i e h => ⟨g.I i.1 e h, ?_⟩⟩
  cases q : H L with
  | none => exact absurd q i.2
  | some o => rw [e L o nb q]; simp
/-- the body of a def that is handed the bag -/
def Wb (K : PySem.W.Frag) (b bl : Addr) (ns : List Int) (B : Addr → Prop) (hB : B b) : Wd where
  K := K
  B := B
  R := Xt (· = b)
  I := fun H => BagAt K H b bl ns ∧ ∀ p, H p = none → ¬ B p
  rfl' := Xt.refl _
  trans' := Xt.trans
  ofEx := Xt.of
  keep := fun r a o n h => r a o (fun z => n (by rw [z]; exact hB)) h
  chg := fun e n a o na ha => by
    rw [upd_ne (ne_of_none ha n)]
    exact e a o na ha
  inv := fun e i => ⟨i.1.ex e, fun p h => i.2 p (Ex.none e h)⟩
  fresh := fun i h => i.2 _ h
  imut := fun i r i1 n => ⟨i.1.upd i1.1 n, fun q h => i1.2 q (upd_none' h).2⟩
theorem bagged_Wb {K : PySem.W.Frag} {b bl : Addr} {ns : List Int} {B : Addr → Prop} {hB : B b} : Bagged (Wb K b bl ns B hB) b bl ns := by
  refine ⟨fun i => i.1, hB, fun e => e, fun {H H'} i e h => ⟨h, fun p n => i.2 p ?_⟩⟩
  cases q : H p with
  | none => rfl
  | some o =>
    by_cases hp : p = b
    · subst hp
      exact absurd n h.ne
    · rw [e p o hp q] at n
      cases n
/-- with the bag ahead of n arguments -/
def BSp (K : PySem.W.Frag) (n : Nat) (Pre : List D → Prop) (Post : List D → D → Prop) : Sp := fun vs H Q _ =>
  ∃ (b bl : Addr) (ns : List Int) (B : Addr → Prop) (vs' : List V) (ds : List D), vs = .ref b :: vs' ∧ vs'.length = n ∧ B b ∧ BagAt K H b bl ns ∧ (∀ p, H p = none → ¬ B p) ∧
    DVs K B H vs' ds ∧ Pre ds ∧ ∀ v H' d, Xt (· = b) H H' → BagAt K H' b bl ns → Post ds d → DV K B H' v d → Q v H'
section
variable {P : Program} {w : World} {K : PySem.W.Frag} {mg : Str → Option Value} {base : Heap} {x qual : Str} {st : Stmt} {f : Addr} {fd : FuncData} {N ps : List Str} {k n : Nat}
  {Pre : List D → Prop} {Post : List D → D → Prop} {t : TS}
theorem bsp_len (hn : ps.length = n + 1) : ∀ vs H Q E, BSp K n Pre Post vs H Q E → vs.length = ps.length := fun vs H Q E h => by
  obtain ⟨_, _, _, _, vs', _, e, h, _⟩ := h
  subst e
  rw [List.length_cons]
  omega
theorem bsp_run {H : Hp} {vs : List V} {Q : VK} {E : XK} (h : BSp K n Pre Post vs H Q E)
    (hb : ∀ b bl ns B hB ds, ds.length = n → Pre ds → Sm (Wb K b bl ns B hB) t (some (.raw (.ref b)) :: ds.map some ++ List.replicate (N.length - (n + 1)) none) ⟨fun _ => Post ds .non, Post ds⟩) :
    t { nx := fun _ H' => Q .non H', rt := Q } (L2.start N vs) H := by
  obtain ⟨b, bl, ns, B, vs', ds, rfl, hl, hB, bag, fr, dv, pre, q⟩ := h
  have e : ds.length = n := dv.len.symm.trans hl
  subst e
  have sl := slots_start (W := Wb K b bl ns B hB) (N := N) (H := H) (vs := .ref b :: vs') (ds := .raw (.ref b) :: ds) (.cons (.raw _) dv)
  exact hb b bl ns B hB ds rfl pre (L2.start N (.ref b :: vs')) H sl ⟨bag, fr⟩ _ (fun σ' H' ρ' _ r i s => q _ H' _ r i.1 s .non) fun v H' d r i s d' => q v H' d r i.1 s d'
theorem okB (F : Fun K x qual st f fd) (S : FnScope N ps (defScope st)) (hn : ps.length = n + 1)
    (der : ∀ (cdv : Value) (A : Around) (outer : List Env) (s : Shared) (H : Hp) (E : XK), Room k (A.deeper (envOfC qual (defScope st) s.heap.objs.size f cdv)) →
      PSs (cxOf CX0 P w K mg base N qual (defScope st) f cdv A outer s H E).nox (defBody st) t)
    (hb : ∀ b bl ns B hB ds, ds.length = n → Pre ds → Sm (Wb K b bl ns B hB) t (some (.raw (.ref b)) :: ds.map some ++ List.replicate (N.length - (n + 1)) none) ⟨fun _ => Post ds .non, Post ds⟩) :
    FnOk P w K mg base CX0 (k + 1) f fd ps (BSp K n Pre Post) :=
  F.ok S (bsp_len hn) fun cdv A outer s H vs Q E hr h => ⟨t, der cdv A outer s H E hr, bsp_run h hb⟩
end
section
variable {W : Wd} {ρ : List (Option D)} {S : D → Prop} {E : XK} {n : Nat} {Pre : List D → Prop} {Post : List D → D → Prop} {b bl : Addr} {ns : List Int}
/-- a call with the bag -/
theorem ev_callB {ta : TA} (g : Bagged W b bl ns) (h : Ea W ta ρ fun ds => ∃ es, ds = .raw (.ref b) :: es ∧ es.length = n ∧ Pre es ∧ ∀ d, Post es d → S d) :
    Ev W (tCall (BSp W.K n Pre Post) [] E ta) ρ S := fun σ H e hi Q q =>
  h σ H e hi _ fun vs H1 ds r1 i1 s dv => by
    obtain ⟨es, rfl, hl, pre, post⟩ := s
    cases dv with
    | cons hb hs =>
      cases hb
      rw [List.append_nil]
      exact ⟨b, bl, ns, W.B, _, es, rfl, by rw [hs.len]; exact hl, g.B, g.at_ i1, fun p z => W.fresh i1 z, hs, pre,
        fun v H' d xt bag p d' => q v H' d (W.trans' r1 (g.R xt)) (g.I i1 xt bag) (post d p) d'⟩
end
end Lb

/-! LbD: operators, built-ins, subscripts over data; ==, repr. -/
namespace Lb
open PySem PySem.Spec PyProof.Rows L2
open Evl (Ex)

/-! ### data as PyData -/
mutual
def D.py : D → PyData
  | .non => .none
  | .bl b => .bool b
  | .int i => .int i
  | .str x => .str x
  | .lst ds => .list (D.pys ds)
  | .tup ds => .tuple (D.pys ds)
  | .dct kvs => .dict (D.pyKv kvs)
  | .err _ _ => .none
  | .raw _ => .none
def D.pys : List D → List PyData
  | [] => []
  | d :: ds => d.py :: D.pys ds
def D.pyKv : List (D × D) → List (PyData × PyData)
  | [] => []
  | (k, v) :: r => (k.py, v.py) :: D.pyKv r
end
mutual
/-- no dict, nothing raw -/
def D.pl : D → Bool
  | .non => true
  | .bl _ => true
  | .int _ => true
  | .str _ => true
  | .lst ds => D.pls ds
  | .tup ds => D.pls ds
  | .dct _ => false
  | .err _ _ => false
  | .raw _ => false
def D.pls : List D → Bool
  | [] => true
  | d :: ds => d.pl && D.pls ds
end
section
variable {K : PySem.W.Frag} {B : Addr → Prop} {H : Hp}
mutual
theorem DV.dp : ∀ {v : V} {d : D}, DV K B H v d → d.pl = true → Dp K H v d.py
  | _, _, .non, _ => by simp only [D.py]; exact .non
  | _, _, .bl b, _ => by simp only [D.py]; exact .bl b
  | _, _, .int i, _ => by simp only [D.py]; exact .int i
  | _, _, .str x, _ => by simp only [D.py]; exact .str x
  | _, _, .lst h hs, p => by simp only [D.py]; simp only [D.pl] at p; exact .lst h.sq (DVs.dp hs p)
  | _, _, .tup h hs, p => by simp only [D.py]; simp only [D.pl] at p; exact .tup h.sq (DVs.dp hs p)
  | _, _, .dct _ _ _ _, p => by simp [D.pl] at p
  | _, _, .err _ _ _ _ _ _, p => by simp [D.pl] at p
  | _, _, .err0 _ _, p => by simp [D.pl] at p
  | _, _, .raw _, p => by simp [D.pl] at p
theorem DVs.dp : ∀ {vs : List V} {ds : List D}, DVs K B H vs ds → D.pls ds = true → DpAll K H vs (D.pys ds)
  | _, _, .nil, _ => by simp only [D.pys]; exact .nil
  | _, _, .cons h hs, p => by
    simp only [D.pls, Bool.and_eq_true] at p
    simp only [D.pys]
    exact .cons (h.dp p.1) (hs.dp p.2)
end
end

section
variable {W : Wd} {S : D → Prop} {ρ : List (Option D)}
/-! ### two ints -/
theorem rb_I0 {g : Int → Int → Int} {i j : Int} (s : S (.int (g i j))) : Rb W (rI0 fun a b => .int (g a b)) (.int i) (.int j) S := fun H x y hi dx dy Q q => by
  cases dx
  cases dy
  exact ⟨i, j, rfl, rfl, q _ H _ (W.rfl' H) hi s (.int _)⟩
theorem rb_I {C : Int → Int → Prop} {g : Int → Int → Int} {i j : Int} (c : C i j) (s : S (.int (g i j))) : Rb W (rI C fun a b => .int (g a b)) (.int i) (.int j) S := fun H x y hi dx dy Q q => by
  cases dx
  cases dy
  exact ⟨i, j, rfl, rfl, c, q _ H _ (W.rfl' H) hi s (.int _)⟩
theorem rb_B0 {g : Int → Int → Bool} {i j : Int} (s : S (.bl (g i j))) : Rb W (rI0 fun a b => .bl (g a b)) (.int i) (.int j) S := fun H x y hi dx dy Q q => by
  cases dx
  cases dy
  exact ⟨i, j, rfl, rfl, q _ H _ (W.rfl' H) hi s (.bl _)⟩
theorem ru_I {g : Int → Int} {i : Int} (s : S (.int (g i))) : Ru W (rU fun a => .int (g a)) (.int i) S := fun H x hi dx Q q => by
  cases dx
  exact ⟨i, rfl, q _ H _ (W.rfl' H) hi s (.int _)⟩
theorem rb_or1 {r r' : R2} {d e : D} (h : Rb W r d e S) : Rb W (fun x y H Q => r x y H Q ∨ r' x y H Q) d e S := fun H x y hi dx dy Q q => Or.inl (h H x y hi dx dy Q q)
theorem rb_or2 {r r' : R2} {d e : D} (h : Rb W r' d e S) : Rb W (fun x y H Q => r x y H Q ∨ r' x y H Q) d e S := fun H x y hi dx dy Q q => Or.inr (h H x y hi dx dy Q q)
theorem rc_or1 {r r' : List V → Hp → VK → Prop} {ds : List D} (h : Rc W r ds S) : Rc W (fun xs H Q => r xs H Q ∨ r' xs H Q) ds S := fun H xs hi dx Q q => Or.inl (h H xs hi dx Q q)
theorem rc_or2 {r r' : List V → Hp → VK → Prop} {ds : List D} (h : Rc W r' ds S) : Rc W (fun xs H Q => r xs H Q ∨ r' xs H Q) ds S := fun H xs hi dx Q q => Or.inr (h H xs hi dx Q q)

/-! ### texts -/
theorem rb_strle {i j : Str} (s : S (.bl (!decide (j.cps.toList < i.cps.toList)))) :
    Rb W (fun x y H Q => ∃ i j, x = .str i ∧ y = .str j ∧ Q (.bl (!decide (j.cps.toList < i.cps.toList))) H) (.str i) (.str j) S := fun H x y hi dx dy Q q => by
  cases dx
  cases dy
  exact ⟨i, j, rfl, rfl, q _ H _ (W.rfl' H) hi s (.bl _)⟩
theorem rb_stradd {i j : Str} (hz : i.length + j.length ≤ sizeLine) (s : S (.str (i ++ j))) :
    Rb W (fun x y H Q => ∃ i j, x = .str i ∧ y = .str j ∧ i.length + j.length ≤ sizeLine ∧ Q (.str (i ++ j)) H) (.str i) (.str j) S := fun H x y hi dx dy Q q => by
  cases dx
  cases dy
  exact ⟨i, j, rfl, rfl, hz, q _ H _ (W.rfl' H) hi s (.str _)⟩
theorem rb_sign {c : Nat} {z : Str} (s : S (.bl (decide (c ∈ z.cps.toList)))) :
    Rb W (fun x y H Q => ∃ (c : Nat) (z : Str), x = .str ⟨#[c]⟩ ∧ y = .str z ∧ Q (.bl (decide (c ∈ z.cps.toList))) H) (.str ⟨#[c]⟩) (.str z) S := fun H x y hi dx dy Q q => by
  cases dx
  cases dy
  exact ⟨c, z, rfl, rfl, q _ H _ (W.rfl' H) hi s (.bl _)⟩
theorem rb_notsign {c : Nat} {z : Str} (s : S (.bl (!decide (c ∈ z.cps.toList)))) :
    Rb W (fun x y H Q => ∃ (c : Nat) (z : Str), x = .str ⟨#[c]⟩ ∧ y = .str z ∧ Q (.bl (!decide (c ∈ z.cps.toList))) H) (.str ⟨#[c]⟩) (.str z) S := fun H x y hi dx dy Q q => by
  cases dx
  cases dy
  exact ⟨c, z, rfl, rfl, q _ H _ (W.rfl' H) hi s (.bl _)⟩
theorem rs_str {z : Str} {lo hi : Option Int} (hz : z.length ≤ sizeLine) (s : S (.str (cutS z lo hi))) : Rs W rSlS (.str z) lo hi S := fun H x hi dx Q q => by
  cases dx
  exact ⟨z, rfl, hz, q _ H _ (W.rfl' H) hi s (.str _)⟩

/-! ### == -/
theorem rb_eqD {d e : D} (pd : d.pl = true) (pe : e.pl = true) (sd : SeqAt.shaped d.py = true) (se : SeqAt.shaped e.py = true) (s : S (.bl (PyData.eqv d.py e.py))) : Rb W (rEqD W.K) d e S :=
  fun H x y hi dx dy Q q => ⟨_, _, dx.dp pd, dy.dp pe, sd, se, q _ H _ (W.rfl' H) hi s (.bl _)⟩
theorem rb_neD {d e : D} (pd : d.pl = true) (pe : e.pl = true) (sd : SeqAt.shaped d.py = true) (se : SeqAt.shaped e.py = true) (s : S (.bl (!PyData.eqv d.py e.py))) : Rb W (rNeD W.K) d e S :=
  fun H x y hi dx dy Q q => ⟨_, _, dx.dp pd, dy.dp pe, sd, se, q _ H _ (W.rfl' H) hi s (.bl _)⟩
theorem rb_eq {d e : D} {x y : V} (hd : ∀ H v, DV W.K W.B H v d → v = x) (he : ∀ H v, DV W.K W.B H v e → v = y) (h : scal x y = true) (s : S (.bl (decide (x = y)))) : Rb W rEq d e S :=
  fun H v u hi dx dy Q q => by
    obtain rfl := hd H v dx
    obtain rfl := he H u dy
    exact ⟨h, q _ H _ (W.rfl' H) hi s (.bl _)⟩
theorem rb_ne {d e : D} {x y : V} (hd : ∀ H v, DV W.K W.B H v d → v = x) (he : ∀ H v, DV W.K W.B H v e → v = y) (h : scal x y = true) (s : S (.bl (!decide (x = y)))) : Rb W rNe d e S :=
  fun H v u hi dx dy Q q => by
    obtain rfl := hd H v dx
    obtain rfl := he H u dy
    exact ⟨h, q _ H _ (W.rfl' H) hi s (.bl _)⟩
theorem dv_int {i : Int} : ∀ H v, DV W.K W.B H v (.int i) → v = .int i := fun H v h => by cases h; rfl
theorem dv_str {i : Str} : ∀ H v, DV W.K W.B H v (.str i) → v = .str i := fun H v h => by cases h; rfl
theorem dv_bl {i : Bool} : ∀ H v, DV W.K W.B H v (.bl i) → v = .bl i := fun H v h => by cases h; rfl
theorem dv_non : ∀ H v, DV W.K W.B H v .non → v = .non := fun H v h => by cases h; rfl
theorem rb_eqI {i j : Int} (s : S (.bl (decide (i = j)))) : Rb W rEq (.int i) (.int j) S := rb_eq dv_int dv_int rfl (by simpa using s)
theorem rb_eqS {i j : Str} (s : S (.bl (decide (i = j)))) : Rb W rEq (.str i) (.str j) S := rb_eq dv_str dv_str rfl (by simpa using s)
theorem rb_neI {i j : Int} (s : S (.bl (!decide (i = j)))) : Rb W rNe (.int i) (.int j) S := rb_ne dv_int dv_int rfl (by simpa using s)
theorem rb_neS {i j : Str} (s : S (.bl (!decide (i = j)))) : Rb W rNe (.str i) (.str j) S := rb_ne dv_str dv_str rfl (by simpa using s)

/-! ### subscripts, slices, +, of lists and tuples -/
theorem atI_of {ds : List D} {xs : List V} {H : Hp} {i : Int} {d : D} (h : DVs W.K W.B H xs ds) (e : atI ds i = some d) : ∃ v, atI xs i = some v ∧ DV W.K W.B H v d := by
  unfold atI at e ⊢
  rw [h.len]
  cases q : ixN ds.length i with
  | none => rw [q] at e; cases e
  | some j =>
    rw [q] at e
    exact h.get e
theorem rb_ixL {ds : List D} {i : Int} {d : D} (e : atI ds i = some d) (s : S d) : Rb W (rIxL W.K) (.lst ds) (.int i) S := fun H x y hi dx dy Q q => by
  cases dy
  cases dx with
  | lst hl hs =>
    obtain ⟨v, h1, h2⟩ := atI_of hs e
    exact ⟨_, _, i, v, rfl, rfl, hl.sq, h1, q _ H _ (W.rfl' H) hi s h2⟩
theorem rb_ixT {ds : List D} {i : Int} {d : D} (e : atI ds i = some d) (s : S d) : Rb W (rIxT W.K) (.tup ds) (.int i) S := fun H x y hi dx dy Q q => by
  cases dy
  cases dx with
  | tup hl hs =>
    obtain ⟨v, h1, h2⟩ := atI_of hs e
    exact ⟨_, _, i, v, rfl, rfl, hl.sq, h1, q _ H _ (W.rfl' H) hi s h2⟩
theorem rb_ixS {z : Str} {i : Int} {c : Nat} (hz : z.length ≤ sizeLine) (e : atI z.cps.toList i = some c) (s : S (.str ⟨#[c]⟩)) : Rb W rIxS (.str z) (.int i) S := fun H x y hi dx dy Q q => by
  cases dy
  cases dx
  exact ⟨z, i, c, rfl, rfl, hz, e, q _ H _ (W.rfl' H) hi s (.str _)⟩
theorem rb_ix1 {ds : List D} {i : Int} {d : D} (e : atI ds i = some d) (s : S d) : Rb W (rIx W.K) (.lst ds) (.int i) S := rb_or1 (rb_ixL e s)
theorem rb_ix2 {ds : List D} {i : Int} {d : D} (e : atI ds i = some d) (s : S d) : Rb W (rIx W.K) (.tup ds) (.int i) S := rb_or2 (rb_or1 (rb_ixT e s))
theorem rb_ix3 {z : Str} {i : Int} {c : Nat} (hz : z.length ≤ sizeLine) (e : atI z.cps.toList i = some c) (s : S (.str ⟨#[c]⟩)) : Rb W (rIx W.K) (.str z) (.int i) S := rb_or2 (rb_or2 (rb_ixS hz e s))
def cutD (ds : List D) (lo hi : Option Int) : List D := (ds.drop (HT.sIx ds.length 0 lo)).take (HT.sIx ds.length ds.length hi - HT.sIx ds.length 0 lo)
theorem cutD_len (ds : List D) (lo hi : Option Int) : (cutD ds lo hi).length ≤ ds.length := by
  unfold cutD
  rw [List.length_take, List.length_drop]
  omega
theorem cut_of {xs : List V} {ds : List D} {H : Hp} {lo hi : Option Int} (h : DVs W.K W.B H xs ds) : DVs W.K W.B H (cutV xs lo hi) (cutD ds lo hi) := by
  unfold cutV cutD
  rw [h.len]
  exact (h.drop _).take _
theorem rs_lst {ds : List D} {lo hi : Option Int} (s : S (.lst (cutD ds lo hi))) : Rs W (rSlL W.K) (.lst ds) lo hi S := fun H x hi dx Q q => by
  cases dx with
  | lst hl hs => exact ⟨_, _, rfl, hl.sq, fun p n => q _ _ _ (W.ofEx (Evl.Ex.new n)) (W.inv (Evl.Ex.new n) hi) s (new_lst hi n (cut_of hs))⟩
theorem rb_catA {xs ys : List D} (hz : xs.length + ys.length ≤ sizeLine) (s : S (.tup (xs ++ ys))) : Rb W (rCatA W.K) (.tup xs) (.tup ys) S := fun H x y hi dx dy Q q => by
  cases dx with
  | tup h1 s1 =>
    cases dy with
    | tup h2 s2 =>
      rename_i a vs b us
      refine ⟨_, _, _, _, rfl, rfl, h1.sq, h2.sq, by rw [s1.len, s2.len]; exact hz, fun e => ?_, fun _ e => ?_, fun _ _ p n => ?_⟩
      · subst e
        cases s1
        exact q _ H _ (W.rfl' H) hi s (.tup h2 s2)
      · subst e
        cases s2
        exact q _ H _ (W.rfl' H) hi s (.tup h1 (by simpa using s1))
      · exact q _ _ _ (W.ofEx (Evl.Ex.new n)) (W.inv (Evl.Ex.new n) hi) s (new_tup hi n (s1.append s2))
/-- list + list, wherever they stand -/
def rCatS (K : PySem.W.Frag) : R2 := fun x y H Q => ∃ l b xs zs, x = .ref l ∧ y = .ref b ∧ SqL K H l xs ∧ SqL K H b zs ∧ xs.length + zs.length ≤ sizeLine ∧ ∀ p, H p = none → Q (.ref p) (upd H p (.lst (xs ++ zs)))
theorem rb_catS {xs ys : List D} (hz : xs.length + ys.length ≤ sizeLine) (s : S (.lst (xs ++ ys))) : Rb W (rCatS W.K) (.lst xs) (.lst ys) S := fun H x y hi dx dy Q q => by
  cases dx with
  | lst h1 s1 =>
    cases dy with
    | lst h2 s2 => exact ⟨_, _, _, _, rfl, rfl, h1.sq, h2.sq, by rw [s1.len, s2.len]; exact hz, fun p n => q _ _ _ (W.ofEx (Evl.Ex.new n)) (W.inv (Evl.Ex.new n) hi) s (new_lst hi n (s1.append s2))⟩
theorem ev_rev {te : TE} (h : Ev W te ρ fun d => ∃ ds, d = .lst ds ∧ S (.lst ds.reverse)) : Ev W (tRevL W.K te) ρ S := fun σ H e hi Q q =>
  h σ H e hi _ fun x H1 d r1 i1 s dx => by
    obtain ⟨ds, rfl, s⟩ := s
    cases dx with
    | lst hl hs => exact ⟨_, _, rfl, hl.sq, fun p n => q _ _ _ (W.trans' r1 (W.ofEx (Evl.Ex.new n))) (W.inv (Evl.Ex.new n) i1) s (new_lst i1 n hs.rev)⟩

/-! ### built-ins -/
theorem rc_abs {i : Int} (s : S (.int (if i < 0 then -i else i))) : Rc W (fun xs H Q => ∃ i, xs = [.int i] ∧ Q (.int (if i < 0 then -i else i)) H) [.int i] S := fun H xs hi dx Q q => by
  cases dx with
  | cons h1 h2 =>
    cases h2
    cases h1
    exact ⟨i, rfl, q _ H _ (W.rfl' H) hi s (.int _)⟩
theorem rc_int {i : Int} (s : S (.int i)) : Rc W (fun xs H Q => (∃ i, xs = [.int i] ∧ Q (.int i) H) ∨ ∃ k, xs = [.bl k] ∧ Q (.int (if k then 1 else 0)) H) [.int i] S := fun H xs hi dx Q q => by
  cases dx with
  | cons h1 h2 =>
    cases h2
    cases h1
    exact Or.inl ⟨i, rfl, q _ H _ (W.rfl' H) hi s (.int _)⟩
theorem rc_intB {k : Bool} (s : S (.int (if k then 1 else 0))) : Rc W (fun xs H Q => (∃ i, xs = [.int i] ∧ Q (.int i) H) ∨ ∃ k, xs = [.bl k] ∧ Q (.int (if k then 1 else 0)) H) [.bl k] S := fun H xs hi dx Q q => by
  cases dx with
  | cons h1 h2 =>
    cases h2
    cases h1
    exact Or.inr ⟨k, rfl, q _ H _ (W.rfl' H) hi s (.int _)⟩
abbrev rLen (K : PySem.W.Frag) : List V → Hp → VK → Prop := fun xs H Q => ∃ x n, xs = [x] ∧ LenV K x H n ∧ Q (.int n) H
theorem rc_lenL {ds : List D} (s : S (.int ds.length)) : Rc W (rLen W.K) [.lst ds] S := fun H xs hi dx Q q => by
  cases dx with
  | cons h1 h2 =>
    cases h2
    cases h1 with
    | lst hl hs => exact ⟨_, _, rfl, Or.inl ⟨_, hl.sq, rfl⟩, q _ H _ (W.rfl' H) hi (by rw [hs.len]; exact s) (.int _)⟩
theorem rc_lenT {ds : List D} (s : S (.int ds.length)) : Rc W (rLen W.K) [.tup ds] S := fun H xs hi dx Q q => by
  cases dx with
  | cons h1 h2 =>
    cases h2
    cases h1 with
    | tup hl hs => exact ⟨_, _, rfl, Or.inr ⟨_, hl.sq, rfl⟩, q _ H _ (W.rfl' H) hi (by rw [hs.len]; exact s) (.int _)⟩
theorem rc_lenS {z : Str} (hz : z.length ≤ sizeLine) (s : S (.int z.length)) : Rc W (rLen W.K) [.str z] S := fun H xs hi dx Q q => by
  cases dx with
  | cons h1 h2 =>
    cases h2
    cases h1
    exact ⟨_, _, rfl, ⟨hz, rfl⟩, q _ H _ (W.rfl' H) hi s (.int _)⟩
theorem bls_of {H : Hp} : ∀ {bs : List Bool} {xs : List V}, DVs W.K W.B H xs (bs.map D.bl) → xs = bs.map V.bl
  | [], _, h => by cases h; rfl
  | b :: bs, _, h => by
    cases h with
    | cons h1 h2 =>
      cases h1
      rw [bls_of h2]
      rfl
theorem rc_all {bs : List Bool} (s : S (.bl (bs.all id))) : Rc W (rAll W.K) [.lst (bs.map D.bl)] S := fun H xs hi dx Q q => by
  cases dx with
  | cons h1 h2 =>
    cases h2
    cases h1 with
    | lst hl hs =>
      have e := bls_of hs
      subst e
      exact ⟨_, bs, rfl, hl.sq, q _ H _ (W.rfl' H) hi s (.bl _)⟩
/-- the built-in class of data -/
def D.ty : D → Option String
  | .non => some "NoneType"
  | .bl _ => some "bool"
  | .int _ => some "int"
  | .str _ => some "str"
  | .lst _ => some "list"
  | .tup _ => some "tuple"
  | .dct _ => some "dict"
  | .err _ _ => none
  | .raw _ => none
theorem DV.tyx {K : PySem.W.Frag} {B : Addr → Prop} {H : Hp} {v : V} {d : D} {T : String} (h : DV K B H v d) (e : d.ty = some T) : TyX K H v (.type T) := by
  cases h with
  | non => cases e; exact .base .non
  | bl b => cases e; exact .base (.bl b)
  | int i => cases e; exact .base (.int i)
  | str x => cases e; exact .base (.str x)
  | lst h hs =>
    cases e
    rcases h.sq with (h | ⟨o, h⟩) | ⟨o, its, n, hk, hc, _⟩
    · exact .base (.lst h)
    · exact .base (.frz h)
    · exact .kList hk hc
  | tup h hs =>
    cases e
    rcases h.sq with (h | ⟨o, h⟩) | ⟨o, its, n, hk, hc, _⟩
    · exact .base (.tup h)
    · exact .fTuple h
    · exact .kTuple hk hc
  | dct n h h1 h2 => cases e; exact .base (.dK h)
  | err _ _ _ _ _ _ => cases e
  | err0 _ _ => cases e
  | raw v => cases e
theorem rc_isi {d : D} {T0 T : String} {b : Bool} (h0 : d.ty = some T0) (hk : kitB T0 T = some b) (s : S (.bl b)) : Rc W (rIsi W.K) [d, .raw (.ty T)] S := fun H xs hi dx Q q => by
  cases dx with
  | cons h1 h2 =>
    cases h2 with
    | cons h3 h4 =>
      cases h4
      cases h3
      exact ⟨_, _, _, _, b, rfl, .ty T, h1.tyx h0, kit_ty hk, q _ H _ (W.rfl' H) hi s (.bl _)⟩
/-- texts: split, join -/
theorem ev_m1 {r : V → List V → Hp → VK → Prop} {to te : TE} (h : Ev W to ρ fun d => ∃ a, d = .str a ∧ Ev W te ρ fun e => ∀ H x, W.I H → DV W.K W.B H x e → ∀ Q : VK,
      (∀ z H' c, W.R H H' → W.I H' → S c → DV W.K W.B H' z c → Q z H') → r (.str a) [x] H Q) : Ev W (tM1 r to te) ρ S := fun σ H e hi Q q =>
  h σ H e hi _ fun x H1 d r1 i1 s dx => by
    obtain ⟨a, rfl, s⟩ := s
    cases dx
    refine ⟨⟨a, rfl⟩, s σ H1 (e.mono r1) i1 _ fun y H2 c r2 i2 s2 dy => ?_⟩
    exact s2 H2 y i2 dy Q fun z H3 c3 r3 i3 s3 d3 => q z H3 c3 (W.trans' (W.trans' r1 r2) r3) i3 s3 d3
theorem strs_dv {H : Hp} : ∀ ys : List Str, DVs W.K W.B H (ys.map V.str) (ys.map D.str)
  | [] => .nil
  | y :: ys => .cons (.str y) (strs_dv ys)
theorem strs_of {H : Hp} : ∀ {ys : List Str} {xs : List V}, DVs W.K W.B H xs (ys.map D.str) → xs = ys.map V.str
  | [], _, h => by cases h; rfl
  | y :: ys, _, h => by
    cases h with
    | cons h1 h2 =>
      cases h1
      rw [strs_of h2]
      rfl
theorem ints_of {H : Hp} : ∀ {ys : List Int} {xs : List V}, DVs W.K W.B H xs (ys.map D.int) → xs = ys.map V.int
  | [], _, h => by cases h; rfl
  | y :: ys, _, h => by
    cases h with
    | cons h1 h2 =>
      cases h1
      rw [ints_of h2]
      rfl
theorem ints_dv {H : Hp} : ∀ ys : List Int, DVs W.K W.B H (ys.map V.int) (ys.map D.int)
  | [] => .nil
  | y :: ys => .cons (.int y) (ints_dv ys)
end

/-! ### rules of the layer that were not there -/
section
variable {X : Cx}
theorem op_catS : OpR X (binaryOp .Add) (rCatS X.K) := by
  intro pins s σ H x y v u Q I rx ry h
  obtain ⟨l, b, xs, zs, rfl, rfl, h1, h2, hz, q⟩ := h
  cases rx
  cases ry
  obtain ⟨its, r1, ⟨o1, n1, e1, c1, d1, f1⟩, _⟩ := I.list h1
  obtain ⟨its2, r2, ⟨o2, n2, e2, c2, d2, f2⟩, _⟩ := I.list h2
  obtain ⟨oc1, od1, dt1, sl1⟩ := o1
  obtain ⟨oc2, od2, dt2, sl2⟩ := o2
  simp only at c1 d1 f1 c2 d2 f2
  subst c1 d1 f1 c2 d2 f2
  have L1 := r1.length
  have L2 := r2.length
  refine concat_meets ⟨_, e1, rfl⟩ ⟨_, e2, rfl⟩ noFill_list_add seq_list_add PySem.F.slot_list_add PySem.F.entry_list_add (PySem.F.args_list_add_2 _ _)
    (list_addW l b its.toArray its2.toArray n1 n2 none none sl1 sl2 (by rw [List.size_toArray, List.size_toArray]; omega)) ⟨e1, e2, ?_⟩
  have ea : its.toArray ++ its2.toArray = (its ++ its2).toArray := by simp
  rw [ea]
  exact ⟨.ref _, _, I.lnew (t' := s.toks) (r1.append r2) (by rw [List.length_append]; omega), rfl, q _ I.fresh⟩
/-- is not, beside a truth value: ints and truth values -/
def rNotB' : R2 := fun x y H Q => ∃ b : Bool, y = .bl b ∧ ((∃ a, x = .bl a ∧ Q (.bl (!decide (a = b))) H) ∨ ((∃ i, x = .int i) ∧ Q (.bl true) H))
theorem op_notB : OpR X (compareOp .IsNot) rNotB' := by
  intro pins s σ H x y v u Q I rx ry h
  obtain ⟨b, rfl, ⟨a, rfl, q⟩ | ⟨⟨i, rfl⟩, q⟩⟩ := h
  · exact op_notBl pins s σ H _ _ v u Q I rx ry ⟨a, b, rfl, rfl, q⟩
  · obtain ⟨t, rfl⟩ := rx
    cases (show u = Value.bool b from ry)
    exact wpAny_isNot_other rfl (fun z => nomatch z) ⟨.bl true, H, I, rfl, q⟩
/-- a text times an int -/
def repS (z : Str) (n : Int) : Str := ⟨(List.replicate n.toNat z.cps).foldl (· ++ ·) #[]⟩
def rMulS : R2 := fun x y H Q => ∃ z n, x = .str z ∧ y = .int n ∧ 0 ≤ n ∧ n ≤ 1000 ∧ z.length ≤ 1000 ∧ Q (.str (if n < 1 then Str.empty else if (n == 1 || z.length == 0) = true then z else repS z n)) H
theorem op_mulS : OpR X (binaryOp .Mult) rMulS := by
  intro pins s σ H x y v u Q I rx ry h
  obtain ⟨z, n, rfl, rfl, h0, h1, hz, q⟩ := h
  obtain ⟨t, rfl⟩ := rx
  obtain ⟨t', rfl⟩ := ry
  have hl : z.length * n.toNat ≤ 1000 * 1000 := Nat.mul_le_mul hz (by omega)
  refine PySem.P.mul_str ?_ (fun hn _ => ?_) (fun _ _ => ?_) ?_
  · rw [decide_eq_false (by omega), decide_eq_false (by omega)]
    rfl
  · have hn' : 1 ≤ n := by omega
    intro hc
    have h2 : (2 ^ 63 - 1 : Int) / n ≥ (2 ^ 63 - 1) / 1000 := by
      apply Int.le_ediv_of_mul_le (by omega)
      have e : ((2 : Int) ^ 63 - 1) / 1000 = 9223372036854775 := by decide
      rw [e]
      calc (9223372036854775 : Int) * n ≤ 9223372036854775 * 1000 := Int.mul_le_mul_of_nonneg_left h1 (by decide)
        _ ≤ 2 ^ 63 - 1 := by decide
    have e : ((2 : Int) ^ 63 - 1) / 1000 = 9223372036854775 := by decide
    rw [e] at h2
    omega
  · have : z.length * n.toNat ≤ sizeLine := Nat.le_trans hl (by rw [sizeLine_eq]; decide)
    exact decide_eq_false (by omega)
  · by_cases c1 : n < 1
    · rw [if_pos c1] at q ⊢
      exact ⟨by decide, ⟨.str _, H, I.tok _, ⟨_, rfl⟩, q⟩⟩
    · rw [if_neg c1] at q ⊢
      by_cases c2 : (n == 1 || z.length == 0) = true
      · rw [if_pos c2] at q ⊢
        exact ⟨.str z, H, I, ⟨_, rfl⟩, q⟩
      · rw [if_neg c2] at q ⊢
        refine ⟨fits_reps ?_, ⟨.str _, H, I.tok _, ⟨_, rfl⟩, q⟩⟩
        have h3 : z.length * n.toNat ≤ sizeLine := Nat.le_trans hl (by rw [sizeLine_eq]; decide)
        exact decide_eq_false (by omega)
end
end Lb

/-! LbE: operators whatever the kinds; repr; dict displays. -/
namespace Lb
open PySem PySem.Spec PyProof.Rows L2
open Evl (Ex)

/-! ### + and * whatever the kinds -/
def rAddS : R2 := fun x y H Q => ∃ i j, x = .str i ∧ y = .str j ∧ i.length + j.length ≤ sizeLine ∧ Q (.str (i ++ j)) H
def rAdd4 (K : PySem.W.Frag) : R2 := fun x y H Q => rI0 (fun i j => .int (i + j)) x y H Q ∨ rAddS x y H Q ∨ rCatS K x y H Q ∨ rCatA K x y H Q
def rMul2 : R2 := fun x y H Q => rI CMul (fun i j => .int (i * j)) x y H Q ∨ rMulS x y H Q
def rSl3 (K : PySem.W.Frag) : V → Option Int → Option Int → Hp → VK → Prop := fun x lo hi H Q => rSlL K x lo hi H Q ∨ rSlS x lo hi H Q
def rSplit : V → List V → Hp → VK → Prop := fun x xs H Q => ∃ a b, x = .str a ∧ xs = [.str b] ∧ (b.length == 0) = false ∧ a.length + 2 ≤ sizeLine ∧ rNewStrs (Txt.split a b) H Q
def rJoin (K : PySem.W.Frag) : V → List V → Hp → VK → Prop := fun x xs H Q => ∃ a p, ∃ ys : List Str, x = .str a ∧ xs = [.ref p] ∧ (SqL K H p (ys.map V.str) ∨ SqT K H p (ys.map V.str)) ∧
  (ys.map (·.length)).sum + ys.length * a.length ≤ 16777216 ∧ Q (.str (Txt.join a ys)) H
def rLeS : R2 := fun x y H Q => ∃ i j, x = .str i ∧ y = .str j ∧ Q (.bl (!decide (j.cps.toList < i.cps.toList))) H
def rInS1 : R2 := fun x y H Q => ∃ (c : Nat) (z : Str), x = .str ⟨#[c]⟩ ∧ y = .str z ∧ Q (.bl (decide (c ∈ z.cps.toList))) H
def rNotInS1 : R2 := fun x y H Q => ∃ (c : Nat) (z : Str), x = .str ⟨#[c]⟩ ∧ y = .str z ∧ Q (.bl (!decide (c ∈ z.cps.toList))) H
abbrev rAbs : List V → Hp → VK → Prop := fun xs H Q => ∃ i, xs = [.int i] ∧ Q (.int (if i < 0 then -i else i)) H
abbrev rInt1 : List V → Hp → VK → Prop := fun xs H Q => (∃ i, xs = [.int i] ∧ Q (.int i) H) ∨ ∃ k, xs = [.bl k] ∧ Q (.int (if k then 1 else 0)) H
section
variable {X : Cx}
theorem oAdd : OpR X (binaryOp .Add) (rAdd4 X.K) := op_add.or (op_add_str.or (op_catS.or op_catA))
theorem oMul : OpR X (binaryOp .Mult) rMul2 := op_mul.or op_mulS
theorem sl3 : SlR X (rSl3 X.K) := sl_list.or sl_str
end
section
variable {W : Wd} {S : D → Prop} {ρ : List (Option D)}
theorem rb_addI {i j : Int} (s : S (.int (i + j))) : Rb W (rAdd4 W.K) (.int i) (.int j) S := rb_or1 (rb_I0 (g := fun a b => a + b) s)
theorem rb_addS {i j : Str} (hz : i.length + j.length ≤ sizeLine) (s : S (.str (i ++ j))) : Rb W (rAdd4 W.K) (.str i) (.str j) S := rb_or2 (rb_or1 (rb_stradd hz s))
theorem rb_addL {xs ys : List D} (hz : xs.length + ys.length ≤ sizeLine) (s : S (.lst (xs ++ ys))) : Rb W (rAdd4 W.K) (.lst xs) (.lst ys) S := rb_or2 (rb_or2 (rb_or1 (rb_catS hz s)))
theorem rb_addT {xs ys : List D} (hz : xs.length + ys.length ≤ sizeLine) (s : S (.tup (xs ++ ys))) : Rb W (rAdd4 W.K) (.tup xs) (.tup ys) S := rb_or2 (rb_or2 (rb_or2 (rb_catA hz s)))
theorem rb_mulI {i j : Int} (c : CMul i j) (s : S (.int (i * j))) : Rb W rMul2 (.int i) (.int j) S := rb_or1 (rb_I (g := fun a b => a * b) c s)
theorem rb_mulS {z : Str} {n : Int} (h0 : 0 ≤ n) (h1 : n ≤ 1000) (hz : z.length ≤ 1000) (s : S (.str (if n < 1 then Str.empty else if (n == 1 || z.length == 0) = true then z else repS z n))) :
    Rb W rMul2 (.str z) (.int n) S := rb_or2 fun H x y hi dx dy Q q => by
  cases dx
  cases dy
  exact ⟨z, n, rfl, rfl, h0, h1, hz, q _ H _ (W.rfl' H) hi s (.str _)⟩
theorem rs3_lst {ds : List D} {lo hi : Option Int} (s : S (.lst (cutD ds lo hi))) : Rs W (rSl3 W.K) (.lst ds) lo hi S := fun H x hi dx Q q => Or.inl (rs_lst s H x hi dx Q q)
theorem rs3_str {z : Str} {lo hi : Option Int} (hz : z.length ≤ sizeLine) (s : S (.str (cutS z lo hi))) : Rs W (rSl3 W.K) (.str z) lo hi S := fun H x hi dx Q q => Or.inr (rs_str hz s H x hi dx Q q)
theorem rb_notB {b : Bool} {d : D} {c : Bool} (h : (∃ a, d = .bl a ∧ c = !decide (a = b)) ∨ ((∃ i, d = .int i) ∧ c = true)) (s : S (.bl c)) : Rb W rNotB' d (.bl b) S := fun H x y hi dx dy Q q => by
  cases dy
  rcases h with ⟨a, rfl, rfl⟩ | ⟨⟨i, rfl⟩, rfl⟩
  · cases dx
    exact ⟨b, rfl, Or.inl ⟨a, rfl, q _ H _ (W.rfl' H) hi s (.bl _)⟩⟩
  · cases dx
    exact ⟨b, rfl, Or.inr ⟨⟨i, rfl⟩, q _ H _ (W.rfl' H) hi s (.bl _)⟩⟩
theorem ev_split {to te : TE} (h : Ev W to ρ fun d => ∃ a, d = .str a ∧ Ev W te ρ fun e => ∃ b : Str, e = .str b ∧ (b.length == 0) = false ∧ a.length + 2 ≤ sizeLine ∧ S (.lst ((Txt.split a b).map D.str))) :
    Ev W (tM1 rSplit to te) ρ S := ev_m1 (ev_imp h fun d ⟨a, ea, s⟩ => ⟨a, ea, ev_imp s fun e ⟨b, eb, h0, hz, s⟩ H x hi dx Q q => by
  subst eb
  cases dx
  exact ⟨a, b, rfl, rfl, h0, hz, fun p n => q _ _ _ (W.ofEx (Evl.Ex.new n)) (W.inv (Evl.Ex.new n) hi) s (new_lst hi n (strs_dv _))⟩⟩)
theorem ev_join {to te : TE} (h : Ev W to ρ fun d => ∃ a, d = .str a ∧ Ev W te ρ fun e => ∃ ys : List Str, e = .lst (ys.map D.str) ∧ (ys.map (·.length)).sum + ys.length * a.length ≤ 16777216 ∧ S (.str (Txt.join a ys))) :
    Ev W (tM1 (rJoin W.K) to te) ρ S := ev_m1 (ev_imp h fun d ⟨a, ea, s⟩ => ⟨a, ea, ev_imp s fun e ⟨ys, eb, hz, s⟩ H x hi dx Q q => by
  subst eb
  cases dx with
  | lst hl hs =>
    have e := strs_of hs
    subst e
    exact ⟨a, _, ys, rfl, rfl, Or.inl hl.sq, hz, q _ H _ (W.rfl' H) hi s (.str _)⟩⟩)

/-! ### dict displays -/
def keyD : Key → D
  | .inl i => .int i
  | .inr x => .str x
def Ep (W : Wd) (trs : List (TE × TE)) (ρ : List (Option D)) (S : List (D × D) → Prop) : Prop :=
  ∀ σ H, Slots W σ H ρ → W.I H → ∀ Q : List (V × V) → Hp → Prop,
    (∀ ps H' ds, W.R H H' → W.I H' → S ds → DVs W.K W.B H' (ps.map (·.1)) (ds.map (·.1)) → DVs W.K W.B H' (ps.map (·.2)) (ds.map (·.2)) → Q ps H') → tPairs trs σ H Q
theorem ep_nil {S : List (D × D) → Prop} (s : S []) : Ep W [] ρ S := fun σ H e hi Q q => q [] H [] (W.rfl' H) hi s .nil .nil
theorem ep_cons {S : List (D × D) → Prop} {tk tv : TE} {r : List (TE × TE)} (h : Ev W tk ρ fun k => Ev W tv ρ fun v => Ep W r ρ fun ds => S ((k, v) :: ds)) : Ep W ((tk, tv) :: r) ρ S := fun σ H e hi Q q =>
  h σ H e hi _ fun x H1 d r1 i1 hb dx => hb σ H1 (e.mono r1) i1 _ fun y H2 c r2 i2 s2 dy => s2 σ H2 (e.mono (W.trans' r1 r2)) i2 _ fun ps H3 ds r3 i3 s3 d1 d2 =>
    q _ H3 ((d, c) :: ds) (W.trans' (W.trans' r1 r2) r3) i3 s3 (.cons (dx.mono (W.keep (W.trans' r2 r3))) d1) (.cons (dy.mono (W.keep r3)) d2)
theorem keys_of {K : PySem.W.Frag} {B : Addr → Prop} {H : Hp} : ∀ {ks : List Key} {ps : List (V × V)}, DVs K B H (ps.map (·.1)) (ks.map keyD) → ps = (ks.zip (ps.map (·.2))).map fun kv => (kV kv.1, kv.2)
  | [], [], _ => rfl
  | [], _ :: _, h => by cases h
  | k :: ks, [], h => by cases h
  | k :: ks, p :: ps, h => by
    have h' : DVs K B H (p.1 :: ps.map (·.1)) (keyD k :: ks.map keyD) := h
    cases h' with
    | cons h1 h2 =>
      have ih := keys_of h2
      obtain ⟨p1, p2⟩ := p
      have e : p1 = kV k := by
        cases k with
        | inl i => have h1 : DV K B H p1 (.int i) := h1; cases h1; rfl
        | inr x => have h1 : DV K B H p1 (.str x) := h1; cases h1; rfl
      show (p1, p2) :: ps = (kV k, p2) :: (ks.zip (ps.map (·.2))).map fun kv => (kV kv.1, kv.2)
      rw [← ih, e]
theorem merge_nd : ∀ (kvs acc : List (Key × V)), ((acc ++ kvs).map (·.1)).Nodup → mergeK acc kvs = acc ++ kvs
  | [], acc, _ => by simp [mergeK]
  | kv :: kvs, acc, h => by
    have hn : valV acc kv.1 = none := by
      unfold valV
      rw [Option.map_eq_none_iff, List.find?_eq_none]
      intro p hp
      simp only [decide_eq_true_eq]
      intro e
      rw [List.map_append, List.nodup_append] at h
      exact h.2.2 p.1 (List.mem_map_of_mem hp) kv.1 (by simp) e
    show mergeK (putK acc kv.1 kv.2) kvs = _
    rw [putK_new _ hn, merge_nd kvs (acc ++ [(kv.1, kv.2)]) (by simpa using h)]
    simp
theorem keyD_dv {K : PySem.W.Frag} {B : Addr → Prop} {H : Hp} (k : Key) : DV K B H (kV k) (keyD k) := by
  cases k with
  | inl i => exact .int i
  | inr x => exact .str x
theorem keys_dv {K : PySem.W.Frag} {B : Addr → Prop} {H : Hp} : ∀ ks : List Key, DVs K B H (ks.map kV) (ks.map keyD)
  | [] => .nil
  | k :: ks => .cons (keyD_dv k) (keys_dv ks)
theorem zip_fst {α β : Type} : ∀ {l : List α} {m : List β}, l.length = m.length → (l.zip m).map (·.1) = l
  | [], [], _ => rfl
  | [], _ :: _, h => by simp at h
  | _ :: _, [], h => by simp at h
  | a :: l, b :: m, h => by simp [zip_fst (l := l) (m := m) (by simpa using h)]
theorem zip_snd {α β : Type} : ∀ {l : List α} {m : List β}, l.length = m.length → (l.zip m).map (·.2) = m
  | [], [], _ => rfl
  | [], _ :: _, h => by simp at h
  | _ :: _, [], h => by simp at h
  | a :: l, b :: m, h => by simp [zip_snd (l := l) (m := m) (by simpa using h)]
theorem new_dct {H H0 : Hp} {p : Addr} {kvs : List (Key × V)} {ds : List (D × D)} (nb : ¬ W.B p) (h1 : DVs W.K (W.plus p).B H (kvs.map fun q => kV q.1) (ds.map (·.1))) (h2 : DVs W.K (W.plus p).B H (kvs.map (·.2)) (ds.map (·.2))) :
    DV W.K W.B (upd H p (.dK kvs)) (.ref p) (.dct ds) := by
  have xu : Xt (W.plus p).B H (upd H p (.dK kvs)) := fun a o n ha => by
    rw [upd_ne fun z => n (Or.inr z)]
    exact ha
  exact .dct nb upd_same ((h1.mono xu).weak (wk_of fun a z => Or.inl z)) ((h2.mono xu).weak (wk_of fun a z => Or.inl z))
theorem ev_disp {trs : List (TE × TE)}
    (h : ∀ L, W.Fr L → Ep (W.plus L) trs ρ fun ds => ds.length ≤ 15 ∧ (∃ ks : List Key, ds.map (·.1) = ks.map keyD ∧ ks.Nodup) ∧ S (.dct ds)) : Ev W (tDisp trs) ρ S := fun σ H e hi Q q p n => by
  have en : Ex H (upd H p (.dK [])) := Evl.Ex.new n
  have nb : ¬ W.B p := W.fresh hi n
  have wk : Wk W.B (W.plus p).B H := fun a z => z.elim Or.inl fun q => Or.inr (by rw [q]; exact n)
  have sl : Slots (W.plus p) σ (upd H p (.dK [])) ρ := Slots.mono (W := W.plus p) (W.ofEx en) (Slots.weak (W := W) (W' := W.plus p) rfl wk e)
  refine h p ⟨H, hi, n⟩ σ _ sl ⟨W.inv en hi, by rw [upd_same]; simp⟩ _ fun ps H2 ds r2 i2 s d1 d2 => ?_
  have r2' : W.R (upd H p (.dK [])) H2 := r2
  have rH : W.R H H2 := W.trans' (W.ofEx en) r2'
  obtain ⟨hl, ⟨ks, ek, nd⟩, s⟩ := s
  refine ⟨W.keep r2' p _ nb upd_same, ks.zip (ps.map (·.2)), ?_, ?_, ?_⟩
  · rw [ek] at d1
    exact keys_of d1
  · have := d1.len
    rw [List.length_zip]
    simp at this ⊢
    omega
  · have l1 : ks.length = (ps.map (·.2)).length := by
      have h1 := d1.len
      have h2 := congrArg List.length ek
      simp at h1 h2 ⊢
      omega
    rw [merge_nd _ [] (by rw [List.nil_append, zip_fst l1]; exact nd), List.nil_append]
    refine q _ _ _ (W.chg rH n) (W.imut hi rH i2.1 n) s (new_dct (H0 := H) nb ?_ ?_)
    · have e3 : (ks.zip (ps.map (·.2))).map (fun q => kV q.1) = ks.map kV := by
        rw [show (fun q : Key × V => kV q.1) = kV ∘ Prod.fst from rfl, ← List.map_map, zip_fst l1]
      rw [e3, ek]
      exact keys_dv ks
    · rw [zip_snd l1]
      exact d2
end

/-! ### repr -/
def D.sc : D → Bool
  | .non => true
  | .bl _ => true
  | .int _ => true
  | .str _ => true
  | _ => false
/-- shown by the rule below: data without dicts, or a dict of scalars -/
def D.sh : D → Bool
  | .dct kvs => kvs.all fun p => p.1.sc && p.2.sc
  | d => d.pl
mutual
theorem hasDict_pl : ∀ d : D, d.pl = true → d.py.hasDict = false
  | .non, _ => by simp [D.py, PyData.hasDict]
  | .bl _, _ => by simp [D.py, PyData.hasDict]
  | .int _, _ => by simp [D.py, PyData.hasDict]
  | .str _, _ => by simp [D.py, PyData.hasDict]
  | .lst ds, h => by simp only [D.pl] at h; simp only [D.py, PyData.hasDict]; exact hasDicts_pl ds h
  | .tup ds, h => by simp only [D.pl] at h; simp only [D.py, PyData.hasDict]; exact hasDicts_pl ds h
  | .dct _, h => by simp [D.pl] at h
  | .err _ _, h => by simp [D.pl] at h
  | .raw _, h => by simp [D.pl] at h
theorem hasDicts_pl : ∀ ds : List D, D.pls ds = true → PyData.hasDictAll (D.pys ds) = false
  | [], _ => by simp [D.pys, PyData.hasDictAll]
  | d :: ds, h => by
    simp only [D.pls, Bool.and_eq_true] at h
    simp only [D.pys, PyData.hasDictAll, hasDict_pl d h.1, hasDicts_pl ds h.2, Bool.or_self]
end
theorem pyKv_fst : ∀ kvs : List (D × D), (D.pyKv kvs).map (·.1) = D.pys (kvs.map (·.1))
  | [] => by simp [D.pyKv, D.pys]
  | (k, v) :: r => by simp only [D.pyKv, List.map_cons, D.pys, pyKv_fst r]
theorem pyKv_snd : ∀ kvs : List (D × D), (D.pyKv kvs).map (·.2) = D.pys (kvs.map (·.2))
  | [] => by simp [D.pyKv, D.pys]
  | (k, v) :: r => by simp only [D.pyKv, List.map_cons, D.pys, pyKv_snd r]
theorem reads_sc {K : PySem.W.Frag} {B : Addr → Prop} {H : Hp} {h : Heap} {v : V} {d : D} {u : Value} (dv : DV K B H v d) (s : d.sc = true) (r : RelV v u) : Reads h u d.py [] := by
  cases dv with
  | non => cases r; simp only [D.py]; exact .none
  | bl b => cases r; simp only [D.py]; exact .bool b
  | int i => obtain ⟨t, rfl⟩ := r; simp only [D.py]; exact .int i t
  | str x => obtain ⟨t, rfl⟩ := r; simp only [D.py]; exact .str x t
  | lst _ _ => simp [D.sc] at s
  | tup _ _ => simp [D.sc] at s
  | dct _ _ _ _ => simp [D.sc] at s
  | err _ _ _ _ _ _ => simp [D.sc] at s
  | err0 _ _ => simp [D.sc] at s
  | raw _ => simp [D.sc] at s
theorem reads_ent {P : Program} {w : World} {K : PySem.W.Frag} {B : Addr → Prop} {H : Hp} {h : Heap} : ∀ {es : List DictEntry} {vs : List (Key × Value)} {kvs : List (Key × V)} {ds : List (D × D)}, Pairs (mixKind P w) es vs → KV kvs vs →
    DVs K B H (kvs.map fun p => kV p.1) (ds.map (·.1)) → DVs K B H (kvs.map (·.2)) (ds.map (·.2)) → (ds.all fun p => p.1.sc && p.2.sc) = true →
    ReadsAll h (es.map (·.key)) (D.pys (ds.map (·.1))) [] ∧ ReadsAll h (es.map (·.val)) (D.pys (ds.map (·.2))) []
  | _, _, _, [], .nil, .nil, _, _, _ => ⟨by simp only [List.map_nil, D.pys]; exact .nil, by simp only [List.map_nil, D.pys]; exact .nil⟩
  | _, _, _, _ :: _, .nil, .nil, h, _, _ => by cases h
  | _, _, _, [], .cons _ _ _, .cons _ _, h, _, _ => by cases h
  | e :: es, kv :: vs, p :: kvs, d :: ds, .cons hk hv hr, .cons hp hps, h1, h2, hs => by
    have h1' : DVs K B H (kV p.1 :: kvs.map fun p => kV p.1) (d.1 :: ds.map (·.1)) := h1
    have h2' : DVs K B H (p.2 :: kvs.map (·.2)) (d.2 :: ds.map (·.2)) := h2
    simp only [List.all_cons, Bool.and_eq_true] at hs
    cases h1' with
    | cons a1 b1 =>
      cases h2' with
      | cons a2 b2 =>
        obtain ⟨i1, i2⟩ := reads_ent hr hps b1 b2 hs.2
        obtain ⟨hp1, hp2⟩ := hp
        have rk : RelV (kV p.1) e.key := by
          rw [hp1]
          rcases keyIs_shape hk with ⟨i, t, e1, e2⟩ | ⟨x, t, e1, e2⟩
          · rw [e1, e2]; exact ⟨t, rfl⟩
          · rw [e1, e2]; exact ⟨t, rfl⟩
        have rv : RelV p.2 e.val := by rw [hv]; exact hp2
        exact ⟨.cons (as := []) (bs := []) (reads_sc a1 hs.1.1 rk) i1, .cons (as := []) (bs := []) (reads_sc a2 hs.1.2 rv) i2⟩
def rRepr (K : PySem.W.Frag) : List V → Hp → VK → Prop := fun xs H Q =>
  ∃ (x : V) (d : D) (B : Addr → Prop), xs = [x] ∧ DV K B H x d ∧ d.sh = true ∧ d.py.showable = true ∧ d.py.depth ≤ 64 ∧ d.py.shown.length ≤ sizeLine ∧ Q (.str d.py.shown) H
theorem call_repr {X : Cx} (hG : X.A.guards = some []) (hu : X.A.units + 70 < cLine) : CallR X (.builtin "repr") (rRepr X.K) := by
  intro pins s σ H xs us Q I r h
  obtain ⟨x, d, B, rfl, dv, sh, sw, dp, sz, q⟩ := h
  obtain ⟨u, rfl, rx⟩ := vals1 r
  have fin : ∀ {a : Addr} {as : List Addr}, Reads s.heap (.ref a) d.py as → (d.py.hasDict = true → sysModules ∉ as) → wpAny (model X.prog X.w) X.A (call (.builtin "repr") [.ref a]) (EP X pins σ Q) X.xe s :=
    fun rd hs => repr_of_reads' (h₀ := s.heap) rd sw hs hG (by omega) (fun _ _ e => e) (fun h' u tk k => ⟨.str _, H, I.kept k, ⟨_, rfl⟩, q⟩) sz
  cases dv with
  | non =>
    cases rx
    simp only [D.py, PyData.shown] at q
    exact PySem.P.repr_of_none ⟨.str _, H, I.tok _, ⟨_, rfl⟩, q⟩
  | bl b =>
    cases rx
    simp only [D.py, PyData.shown] at q
    exact PySem.P.repr_of_bool ⟨.str _, H, I.tok _, ⟨_, rfl⟩, q⟩
  | int i =>
    obtain ⟨t, rfl⟩ := rx
    simp only [D.py, PyData.shown] at q
    exact PySem.P.repr_of_int (by simpa [D.py, PyData.showable] using sw) ⟨.str _, H, I.tok _, ⟨_, rfl⟩, q⟩
  | str z =>
    obtain ⟨t, rfl⟩ := rx
    simp only [D.py, PyData.shown] at q sz
    exact PySem.P.repr_of_str ⟨.str _, H, I.tok _, ⟨_, rfl⟩, q⟩ sz
  | lst hl hs =>
    cases rx
    obtain ⟨as, rd⟩ := Dp.reads I _ _ _ (DV.dp (.lst hl hs) sh) (show RelV (.ref _) (.ref _) from rfl)
    exact fin rd (PyData.noDict_hsm (hasDict_pl _ sh))
  | tup hl hs =>
    cases rx
    obtain ⟨as, rd⟩ := Dp.reads I _ _ _ (DV.dp (.tup hl hs) sh) (show RelV (.ref _) (.ref _) from rfl)
    exact fin rd (PyData.noDict_hsm (hasDict_pl _ sh))
  | @dct a kvs ds n ha h1 h2 =>
    cases rx
    obtain ⟨_, hsy, vs, rk, o, es, ep, ho, hx, hd, _, hp, _⟩ := (show ObjOk X.prog X.w H s.heap a (.dK kvs) from I.hok a _ ha)
    obtain ⟨r1, r2⟩ := reads_ent (h := s.heap) hp rk h1 h2 sh
    have rd : Reads s.heap (.ref a) (PyData.dict (D.pyKv ds)) (a :: [] ++ []) := .dict ho hx.1 hd (by rw [pyKv_fst]; exact r1) (by rw [pyKv_snd]; exact r2)
    refine fin (as := a :: [] ++ []) (by simp only [D.py]; exact rd) fun _ hm => ?_
    have e : sysModules = a := by simpa using hm
    rw [← e] at hsy
    simp at hsy
  | err _ _ _ _ _ _ => simp [D.sh, D.pl] at sh
  | err0 _ _ => simp [D.sh, D.pl] at sh
  | raw v => simp [D.sh, D.pl] at sh
theorem rc_repr {W : Wd} {S : D → Prop} {d : D} (sh : d.sh = true) (sw : d.py.showable = true) (dp : d.py.depth ≤ 64) (sz : d.py.shown.length ≤ sizeLine) (s : S (.str d.py.shown)) : Rc W (rRepr W.K) [d] S := fun H xs hi dx Q q => by
  cases dx with
  | cons h1 h2 =>
    cases h2
    exact ⟨_, d, W.B, rfl, h1, sh, sw, dp, sz, q _ H _ (W.rfl' H) hi s (.str _)⟩
end Lb

/-! LbF: a def of the text with its promise, as it is called. -/
namespace Lb
open PySem PySem.Spec PyProof.Rows L2
open Evl (Ex)

theorem hu70 {k : Nat} {A : Around} (r : Room k A) : A.units + 70 < cLine := by have := r.un; omega
theorem hu64 {k : Nat} {A : Around} (r : Room k A) : A.units + 64 < cLine := by have := r.un; omega
theorem hu1 {k : Nat} {A : Around} (r : Room k A) : A.units + 1 < cLine := by have := r.un; omega
theorem hu0 {k : Nat} {A : Around} (r : Room k A) : A.units < cLine := by have := r.un; omega
/-- the top has the def st under the name x -/
def Has (K : PySem.W.Frag) (mg : Str → Option Value) (x : Str) (st : Stmt) : Prop := ∃ f fd, Fun K x x st f fd ∧ mg x = some (.ref f)
theorem has_mk {K : PySem.W.Frag} {h : Heap} {mg : Str → Option Value} (X : K.In h) (G : h.Ns mainGlobals mg) {x : Str} {st : Stmt} {f : Addr} {oc : Value} {od an : Option Addr} {osl : Array (Option Value)} {kV doc pm cdv ct : Value}
    (a : PySem.W.nsIn K mainGlobals x = some (some (.ref f)))
    (l : K.lookup f = some ⟨oc, od, .func (PySem.W.fnOf x x (defArgs st) (defBody st) (defScope st) .none kV doc pm an cdv ct), osl⟩)
    (c : PySem.W.codeIn K cdv x = true) (k : PySem.W.keepIn K (.ref f) = true) : Has K mg x st :=
  ⟨f, _, fun_mk l c k, PySem.W.mg_of X G a⟩
/-- how a def of n parameters takes its arguments -/
def BindsN (x : Str) (st : Stmt) (ps : List Str) : Prop :=
  ∀ (kV doc pm : Value) (an : Option Addr) (cdv ct : Value) (us : List Value), us.length = ps.length → bindArgs (PySem.W.fnOf x x (defArgs st) (defBody st) (defScope st) .none kV doc pm an cdv ct) ⟨us, []⟩ = pure (ps.zip us)
structure Def (P : Program) (w : World) (K : PySem.W.Frag) (mg : Str → Option Value) (base : Heap) (x : Str) (k : Nat) (ps : List Str) (sp : Sp) : Prop where
  ex : ∃ f fd, mg x = some (.ref f) ∧ PySem.W.keepIn K (.ref f) = true ∧ Binds K fd ps [] ∧ FnOk P w K mg base CX0 k f fd ps sp
structure DefG (P : Program) (w : World) (K : PySem.W.Frag) (mg : Str → Option Value) (base : Heap) (x : Str) (k : Nat) (ps : List Str) (sp : Sp) : Prop where
  ex : ∃ f fd, mg x = some (.ref f) ∧ PySem.W.keepIn K (.ref f) = true ∧ Binds K fd ps [] ∧ FnG P w K mg base CX0 k f fd ps sp
section
variable {P : Program} {w : World} {K : PySem.W.Frag} {mg : Str → Option Value} {base : Heap} {x : Str} {st : Stmt} {N ps : List Str} {k n : Nat} {Pre : List D → Prop} {Post : List D → D → Prop} {t : TS} {sp : Sp}
theorem def_mk (h : Has K mg x st) (hb : BindsN x st ps) (ok : ∀ f fd, Fun K x x st f fd → FnOk P w K mg base CX0 k f fd ps sp) : Def P w K mg base x k ps sp := by
  obtain ⟨f, fd, F, e⟩ := h
  exact ⟨f, fd, e, F.kp, F.binds hb, ok f fd F⟩
theorem defG_mk (h : Has K mg x st) (hb : BindsN x st ps) (ok : ∀ f fd, Fun K x x st f fd → FnG P w K mg base CX0 k f fd ps sp) : DefG P w K mg base x k ps sp := by
  obtain ⟨f, fd, F, e⟩ := h
  exact ⟨f, fd, e, F.kp, F.binds hb, ok f fd F⟩
/-- how a body is derived -/
def Der (P : Program) (w : World) (K : PySem.W.Frag) (mg : Str → Option Value) (base : Heap) (N : List Str) (x : Str) (st : Stmt) (k : Nat) (t : TS) : Prop :=
  ∀ (f : Addr) (cdv : Value) (A : Around) (outer : List Env) (s : Shared) (H : Hp) (E : XK), Room k (A.deeper (envOfC x (defScope st) s.heap.objs.size f cdv)) →
    PSs (cxOf CX0 P w K mg base N x (defScope st) f cdv A outer s H E).nox (defBody st) t
def DerG (P : Program) (w : World) (K : PySem.W.Frag) (mg : Str → Option Value) (base : Heap) (N : List Str) (x : Str) (st : Stmt) (k : Nat) (t : TS) : Prop :=
  ∀ (f : Addr) (cdv : Value) (A : Around) (outer : List Env) (s : Shared) (H : Hp) (E : XK), A.guards = some [] → Room k (A.deeper (envOfC x (defScope st) s.heap.objs.size f cdv)) →
    PSs (cxOf CX0 P w K mg base N x (defScope st) f cdv A outer s H E).nox (defBody st) t
theorem defD (h : Has K mg x st) (S : FnScope N ps (defScope st)) (hb : BindsN x st ps) (hn : ps.length = n) (der : Der P w K mg base N x st k t)
    (body : ∀ B ds, ds.length = n → Pre ds → Sm (Wp K B) t (ds.map some ++ List.replicate (N.length - n) none) ⟨fun _ => Post ds .non, Post ds⟩) :
    Def P w K mg base x (k + 1) ps (DSp K n Pre Post) := def_mk h hb fun f fd F => okD F S hn (der f) body
theorem defDG (h : Has K mg x st) (S : FnScope N ps (defScope st)) (hb : BindsN x st ps) (hn : ps.length = n) (der : DerG P w K mg base N x st k t)
    (body : ∀ B ds, ds.length = n → Pre ds → Sm (Wp K B) t (ds.map some ++ List.replicate (N.length - n) none) ⟨fun _ => Post ds .non, Post ds⟩) :
    DefG P w K mg base x (k + 1) ps (DSp K n Pre Post) := defG_mk h hb fun f fd F => okDG F S hn (der f) body
theorem defB (h : Has K mg x st) (S : FnScope N ps (defScope st)) (hb : BindsN x st ps) (hn : ps.length = n + 1) (der : Der P w K mg base N x st k t)
    (body : ∀ b bl ns B hB ds, ds.length = n → Pre ds → Sm (Wb K b bl ns B hB) t (some (.raw (.ref b)) :: ds.map some ++ List.replicate (N.length - (n + 1)) none) ⟨fun _ => Post ds .non, Post ds⟩) :
    Def P w K mg base x (k + 1) ps (BSp K n Pre Post) := def_mk h hb fun f fd F => okB F S hn (der f) body
/-- any promise, by the reading itself -/
theorem defS (h : Has K mg x st) (S : FnScope N ps (defScope st)) (hb : BindsN x st ps) (len : ∀ vs H Q E, sp vs H Q E → vs.length = ps.length) (der : Der P w K mg base N x st k t)
    (body : ∀ vs H Q E, sp vs H Q E → t { nx := fun _ H' => Q .non H', rt := Q } (L2.start N vs) H) : Def P w K mg base x (k + 1) ps sp :=
  def_mk h hb fun f fd F => F.ok S len fun cdv A outer s H vs Q E hr hs => ⟨t, der f cdv A outer s H E hr, body vs H Q E hs⟩
end
section
variable {X : Cx} {x : Str} {k j : Nat} {ps : List Str} {sp : Sp} {p pos : Pos} {e : Expr} {es : List Expr} {t : TA}
theorem pe_def (d : Def X.prog X.w X.K X.mg X.base x k ps sp) (hr : Room j X.A) (hj : k ≤ j) (hg : Gl X x) (ha : PA X (e :: es) t) (hdb : (x == ("__debug__" : Str)) = false := by decide)
    (he : starEach (e :: es) X.env = (false, eval e X.env) :: starEach es X.env := by rfl) (hpl : (backTo pos (starEach es X.env)).any (·.1) = false := by rfl) :
    PE X (.Call (.Name x p) (e :: es) [] pos) (tCall sp [] E0 t) := by
  obtain ⟨f, fd, hm, hk, hb, F⟩ := d.ex
  exact pe_call F (hr.mono hj) hg hm hk hb .nil pass0 ha hdb he hpl
theorem pe_defG (d : DefG X.prog X.w X.K X.mg X.base x k ps sp) (hG : X.A.guards = some []) (hr : Room j X.A) (hj : k ≤ j) (hg : Gl X x) (ha : PA X (e :: es) t) (hdb : (x == ("__debug__" : Str)) = false := by decide)
    (he : starEach (e :: es) X.env = (false, eval e X.env) :: starEach es X.env := by rfl) (hpl : (backTo pos (starEach es X.env)).any (·.1) = false := by rfl) :
    PE X (.Call (.Name x p) (e :: es) [] pos) (tCall sp [] E0 t) := by
  obtain ⟨f, fd, hm, hk, hb, F⟩ := d.ex
  exact pe_callG F hG (hr.mono hj) hg hm hk hb .nil pass0 ha hdb he hpl
end
end Lb
namespace Lb
open PySem PySem.Spec PyProof.Rows L2
def rGetL (K : PySem.W.Frag) : V → V → Hp → VK → Prop := fun x y H Q => ∃ p xs i v, x = .ref p ∧ y = .int i ∧ 0 ≤ i ∧ SqL K H p xs ∧ atI xs i = some v ∧ Q v H
theorem get_list {X : Cx} : PGet X (rGetL X.K) := by
  intro pins s σ H o i ov iv Q I r1 r2 h
  obtain ⟨p, xs, k, v, rfl, rfl, h0, hq, he, q⟩ := h
  cases r1
  obtain ⟨t, rfl⟩ := r2
  obtain ⟨its, r, pl, hz⟩ := I.list hq
  obtain ⟨j, h1, h2, h3, h4, h5⟩ := atI_get he
  obtain ⟨u, eu, ru⟩ := r.get h2
  have hl := r.length
  have hn := line63
  have hj : k.toNat = j := by
    rw [seqIndex_of h0 h5] at h1
    exact Option.some.inj h1
  exact wpAny_getItem_list pl.isList h0 (by omega) (by rw [hj]; simpa using eu) ⟨v, H, I, ru, q⟩
end Lb

/-! LbT: the law's own drawing: the bag and what is taken out of it. -/
namespace Lb
open PySem PySem.Spec PyProof.Rows L2
open Evl (Ex)
def t_bag (K : PySem.W.Frag) : TS :=
    (tRet (tLst (tCons (tC (.int 0)) (tCons (tC (.int 1234567891)) (tCons (tC (.int 0)) (tCons (tLc (iList K (tSl (rSl3 K) (tVar 0) tNoPart (tPart (tC (.int 63))))) (gName 1) tYes (tCB rAbs (tCons (tVar 1) tNil)) [1]) tNil))))))
def t_take_c2 (K : PySem.W.Frag) : TS :=
    (tSeq (tAsg (tOp (rI (fun _ j => 0 < j) fun i j => .int (i % j)) (tCB rInt1 (tCons (tOp rMul2 (tOp (rAdd4 K) (tOp (rIx K) (tVar 0) (tC (.int 1))) (tC (.int 1))) (tC (.int 39373))) tNil)) (tC (.int 1000000007))) (gName 5))
    (tSeq (tAsg (tOp (rI (fun _ j => 0 < j) fun i j => .int (i % j)) (tCB rInt1 (tCons (tOp rMul2 (tOp (rI (fun _ j => 0 < j) fun i j => .int (i % j)) (tCB rInt1 (tCons (tOp rMul2 (tVar 5) (tVar 5)) tNil)) (tC (.int 998244353))) (tC (.int 30011))) tNil)) (tC (.int 998244353))) (gName 6))
    (tSeq (tIfS (tTest (tOp (rI0 fun i j => .bl (decide (j < i))) (tVar 1) (tC (.int 1000000)))) (tRet (tOp (rI (fun _ j => 0 < j) fun i j => .int (i % j)) (tCB rInt1 (tCons (tOp (rAdd4 K) (tOp rMul2 (tVar 6) (tC (.int 1000000007))) (tVar 5)) tNil)) (tVar 1))) tNext)
    (tRet (tOp (rI (fun _ j => 0 < j) fun i j => .int (i % j)) (tCB rInt1 (tCons (tOp (rI CDiv fun i j => .int (i / j)) (tVar 6) (tC (.int 7))) tNil)) (tVar 1))))))
def t_take_c1 (K : PySem.W.Frag) : TS :=
    (tSeq (tIfS (tTest (tOp (rI0 fun i j => .bl (decide (j < i))) (tOp (rIx K) (tVar 0) (tC (.int 0))) (tC (.int 0)))) (tSeq (tAsg (tOp (rI (fun _ j => 0 < j) fun i j => .int (i % j)) (tCB rInt1 (tCons (tOp (rIx K) (tVar 0) (tC (.int 0))) tNil)) (tVar 1)) (gName 4))
    (tSeq (tAsg (tOp (rI CDiv fun i j => .int (i / j)) (tOp (rIx K) (tVar 0) (tC (.int 0))) (tVar 1)) (gSub (tVar 0) (tC (.int 0)) rSetL))
    (tRet (tVar 4)))) tNext)
    (t_take_c2 K))
def t_take (K : PySem.W.Frag) : TS :=
    (tSeq (tIfS (tTest (tOp rEq (tOp (rIx K) (tVar 0) (tC (.int 0))) (tC (.int 0)))) (tSeq (tAsg (tC (.int 0)) (gName 2))
    (tSeq (tIfS (tTest (tOp (rI0 fun i j => .bl (decide (i < j))) (tOp (rIx K) (tVar 0) (tC (.int 2))) (tCB (rLen K) (tCons (tOp (rIx K) (tVar 0) (tC (.int 3))) tNil)))) (tAsg (tOp (rIx K) (tOp (rIx K) (tVar 0) (tC (.int 3))) (tOp (rIx K) (tVar 0) (tC (.int 2)))) (gName 2)) tNext)
    (tSeq (tAugS (tVar 0) (tC (.int 2)) (tC (.int 1)) (rGetL K) (ipI fun i j => i + j) rSetL)
    (tSeq (tIfS (tTest (tOp (rI0 fun i j => .bl (decide (j ≤ i))) (tVar 2) (tC (.int 1000000000000000000)))) (tAsg (tVar 2) (gSub (tVar 0) (tC (.int 0)) rSetL)) tNext)
    (tSeq (tAsg (tOp (rAdd4 K) (tOp (rI (fun _ j => 0 < j) fun i j => .int (i % j)) (tCB rInt1 (tCons (tVar 2) tNil)) (tC (.int 2147483647))) (tOp rMul2 (tC (.int 7919)) (tOp (rIx K) (tVar 0) (tC (.int 2))))) (gName 3))
    (tAsg (tOp (rI (fun _ j => 0 < j) fun i j => .int (i % j)) (tCB rInt1 (tCons (tOp (rAdd4 K) (tOp rMul2 (tOp (rIx K) (tVar 0) (tC (.int 1))) (tC (.int 48271))) (tVar 3)) tNil)) (tC (.int 2147483647))) (gSub (tVar 0) (tC (.int 1)) rSetL))))))) tNext)
    (t_take_c1 K))

def spBag (K : PySem.W.Frag) : Sp := fun vs H Q _ => ∃ (a : Addr) (ns : List Int), vs = [.ref a] ∧ SqL K H a (ns.map V.int) ∧ ns.length ≤ 63 ∧
  ∀ b bl ms H', H b = none → Ex H H' → BagAt K H' b bl ms → Q (.ref b) H'
def spTake (K : PySem.W.Frag) : Sp := BSp K 1 (fun es => ∃ m, es = [.int m] ∧ 0 < m ∧ m < 1073741824) fun es r => ∃ m i, es = [.int m] ∧ r = .int i ∧ 0 ≤ i ∧ i < m
theorem spBag_len {K : PySem.W.Frag} : ∀ vs H Q E, spBag K vs H Q E → vs.length = 1 := fun vs H Q E ⟨a, ns, e, _⟩ => by rw [e]; rfl
theorem lb_of {K : PySem.W.Frag} {B : Addr → Prop} {H : Hp} {a : Addr} {xs : List V} (nb : ¬ B a) (h : SqL K H a xs) : LB K B H a xs := by
  rcases h with h | h
  · exact Or.inl ⟨nb, h⟩
  · exact Or.inr (Or.inr h)
theorem cutD_mem {ds : List D} {lo hi : Option Int} {i : Nat} {d : D} (h : (cutD ds lo hi)[i]? = some d) : d ∈ ds := by
  have h1 : d ∈ cutD ds lo hi := List.mem_of_getElem? h
  unfold cutD at h1
  exact List.mem_of_mem_drop (List.mem_of_mem_take h1)
theorem bag_body {K : PySem.W.Frag} {N : List Str} (hN : N.length = 2) : ∀ vs H Q E, spBag K vs H Q E → t_bag K { nx := fun _ H' => Q .non H', rt := Q } (L2.start N vs) H := by
  rintro vs H Q E ⟨a, ns, rfl, hS, hl, k⟩
  have dv : DVs K (fun _ => False) H [.ref a] [.lst (ns.map D.int)] := .cons (.lst (lb_of (fun z => z) hS) (ints_dv (W := Wp K fun _ => False) ns)) .nil
  have sl := slots_start (W := Wp K fun _ => False) (N := N) dv
  rw [hN] at sl
  have ev : Ev (Wp K fun _ => False) (tLc (iList K (tSl (rSl3 K) (tVar 0) tNoPart (tPart (tC (.int 63))))) (gName 1) tYes (tCB rAbs (tCons (tVar 1) tNil)) [1])
      [some (.lst (ns.map D.int)), none] fun d => ∃ ms : List Int, d = .lst (ms.map D.int) ∧ ∀ m ∈ ms, 0 ≤ m := by
    refine ev_lc (ls := [1]) (fun j h => h) (iw_list (ev_sl (ev_var rfl (eo_none (eo_some (ev_int ⟨63, rfl, rs3_lst ⟨_, rfl, ?_⟩⟩))))))
    refine ⟨?_, fun _ out => ∃ ms : List Int, out = ms.map D.int ∧ ∀ m ∈ ms, 0 ≤ m, ⟨[], rfl, fun _ h => nomatch h⟩, ?_, ?_⟩
    · have h1 := cutD_len (ns.map D.int) none (some 63)
      rw [List.length_map] at h1
      exact Nat.lt_of_le_of_lt (Nat.le_trans h1 hl) (by decide)
    · rintro L _ i d out hd ⟨ms, rfl, hp⟩
      obtain ⟨n, _, rfl⟩ := List.mem_map.mp (cutD_mem hd)
      refine tg_name (ts_yes ((if_pos rfl).mpr (ev_CB (ea_cons (ev_var rfl (ea_nil (rc_abs ?_)))))))
      refine ⟨ms ++ [if n < 0 then -n else n], by rw [List.map_append]; rfl, fun x hx => ?_⟩
      rcases List.mem_append.mp hx with hx | hx
      · exact hp x hx
      · rw [List.mem_singleton.mp hx]
        split <;> omega
    · rintro out h
      obtain ⟨ms, rfl, hp⟩ := h
      exact ⟨ms, rfl, hp⟩
  show tLc _ _ _ _ _ (L2.start N [.ref a]) H (fun x H1 => ([.int 0, .int 1234567891, .int 0, x] : List V).length ≤ sizeLine ∧ ∀ p, H1 p = none → Q (.ref p) (upd H1 p (.lst [.int 0, .int 1234567891, .int 0, x])))
  refine ev (L2.start N [.ref a]) H sl (fun p _ z => z) _ fun v H1 d r i s dx => ?_
  obtain ⟨ms, rfl, hp⟩ := s
  cases dx with
  | lst hb hs =>
    rename_i bl xs
    have e := ints_of (W := Wp K fun _ => False) hs
    subst e
    refine ⟨by show 4 ≤ sizeLine; decide, fun p n => ?_⟩
    refine k p bl ms _ (Ex.none r n) (Evl.Ex.trans r (Evl.Ex.new n)) ⟨⟨0, 1234567891, 0, upd_same, by decide, by decide, by decide, by decide⟩, ?_, hp⟩
    rcases hb with ⟨_, h⟩ | h
    · have nl : bl ≠ p := fun z => rd_some h (by rw [z]; exact n)
      refine Or.inl ⟨nl, ?_⟩
      rcases h with h | ⟨o, h⟩
      · exact Or.inl (by rw [upd_ne nl]; exact h)
      · exact Or.inr ⟨o, by rw [upd_ne nl]; exact h⟩
    · exact Or.inr h

/-! ### take -/
section
variable {K : PySem.W.Frag} {b bl : Addr} {ns : List Int}
theorem rd_bag {σ : L2.St} {H : Hp} {Q : VK} {xs : List V} {i : Int} {v : V} (hσ : σ[0]? = some (some (.ref b))) (hb : H b = some (.lst xs)) (e : atI xs i = some v) (q : Q v H) :
    tOp (rIx K) (tVar 0) (tC (.int i)) σ H Q := ⟨.ref b, hσ, Or.inl ⟨b, xs, i, v, rfl, rfl, SqL.of hb, e, q⟩⟩
theorem xt_bag {H H' : Hp} {o : HO} (e : Xt (· = b) H H') : Xt (· = b) H (upd H' b o) := fun a u n h => by
  rw [upd_ne n]
  exact e a u n h
theorem bag_set {H : Hp} (bag : BagAt K H b bl ns) {c z k : Int} (h1 : 0 ≤ c) (h2 : 0 ≤ z) (h3 : z < 2147483647) (h4 : 0 ≤ k) : BagAt K (upd H b (.lst [.int c, .int z, .int k, .ref bl])) b bl ns := by
  refine ⟨⟨c, z, k, upd_same, h1, h2, h3, h4⟩, ?_, bag.pos⟩
  exact bag.cells.mono (xt_bag (Xt.refl _ _))
theorem mod_lt {i m : Int} (h : 0 < m) : 0 ≤ i % m ∧ i % m < m := ⟨Int.emod_nonneg _ (by omega), Int.emod_lt_of_pos _ h⟩
theorem take_c2 {σ : L2.St} {x2 x3 x4 x5 x6 : Option V} {H H' : Hp} {m : Int} {D0 : Ends} (hs : σ = [some (.ref b), some (.int m), x2, x3, x4, x5, x6]) (bag : BagAt K H' b bl ns) (m0 : 0 < m)
    (q : ∀ i, 0 ≤ i → i < m → D0.rt (.int i) H') : t_take_c2 K D0 σ H' := by
  subst hs
  obtain ⟨c, z, k, e, hc, hz0, hz1, hk⟩ := bag.ob
  -- first
  refine rd_bag (b := b) rfl e (show atI _ (1 : Int) = some (V.int z) from rfl) ?_
  refine Or.inl ⟨z, 1, rfl, rfl, Or.inl ⟨z + 1, 39373, rfl, rfl, Or.inr ⟨by decide, by decide⟩, Or.inl ⟨_, rfl, _, _, rfl, rfl, (show (0 : Int) < 1000000007 by decide), ?_⟩⟩⟩
  -- second
  have key : ∀ f : Int, 0 ≤ f → f < 1000000007 → (tSeq (tAsg (tOp (rI (fun _ j => 0 < j) fun i j => .int (i % j)) (tCB rInt1 (tCons (tOp rMul2 (tOp (rI (fun _ j => 0 < j) fun i j => .int (i % j)) (tCB rInt1 (tCons (tOp rMul2 (tVar 5) (tVar 5)) tNil)) (tC (.int 998244353))) (tC (.int 30011))) tNil)) (tC (.int 998244353))) (gName 6))
      (tSeq (tIfS (tTest (tOp (rI0 fun i j => .bl (decide (j < i))) (tVar 1) (tC (.int 1000000)))) (tRet (tOp (rI (fun _ j => 0 < j) fun i j => .int (i % j)) (tCB rInt1 (tCons (tOp (rAdd4 K) (tOp rMul2 (tVar 6) (tC (.int 1000000007))) (tVar 5)) tNil)) (tVar 1))) tNext)
      (tRet (tOp (rI (fun _ j => 0 < j) fun i j => .int (i % j)) (tCB rInt1 (tCons (tOp (rI CDiv fun i j => .int (i / j)) (tVar 6) (tC (.int 7))) tNil)) (tVar 1)))))
      D0 [some (.ref b), some (.int m), x2, x3, x4, some (.int f), x6] H' := by
    intro f f0 f1
    have g1 : 0 ≤ f * f % 998244353 ∧ f * f % 998244353 < 998244353 := mod_lt (by decide)
    refine ⟨_, rfl, _, rfl, Or.inl ⟨f, f, rfl, rfl, Or.inl ⟨by omega, by omega⟩, Or.inl ⟨_, rfl, _, _, rfl, rfl, (show (0 : Int) < 998244353 by decide), ?_⟩⟩⟩
    refine Or.inl ⟨f * f % 998244353, 30011, rfl, rfl, Or.inr ⟨by decide, by decide⟩, Or.inl ⟨_, rfl, _, _, rfl, rfl, (show (0 : Int) < 998244353 by decide), ?_⟩⟩
    refine ⟨_, rfl, _, _, rfl, rfl, _, rfl, ?_⟩
    refine ite2 (fun _ => ?_) (fun _ => ?_)
    · refine ⟨_, rfl, Or.inl ⟨_, 1000000007, rfl, rfl, Or.inr ⟨by decide, by decide⟩, ?_⟩⟩
      refine ⟨_, rfl, Or.inl ⟨_, _, rfl, rfl, Or.inl ⟨_, rfl, _, rfl, _, _, rfl, rfl, m0, ?_⟩⟩⟩
      exact q _ (mod_lt m0).1 (mod_lt m0).2
    · refine ⟨_, rfl, _, _, rfl, rfl, ⟨by decide, by decide⟩, Or.inl ⟨_, rfl, _, rfl, _, _, rfl, rfl, m0, ?_⟩⟩
      exact q _ (mod_lt m0).1 (mod_lt m0).2
  exact key _ (mod_lt (by decide)).1 (mod_lt (by decide)).2
theorem take_c1 {σ : L2.St} {x2 x3 : Option V} {H H' : Hp} {m : Int} {D0 : Ends} (hs : σ = [some (.ref b), some (.int m), x2, x3, none, none, none]) (xt : Xt (· = b) H H') (bag : BagAt K H' b bl ns) (m0 : 0 < m) (m1 : m < 1073741824)
    (q : ∀ i H', 0 ≤ i → i < m → Xt (· = b) H H' → BagAt K H' b bl ns → D0.rt (.int i) H') : t_take_c1 K D0 σ H' := by
  subst hs
  obtain ⟨c, z, k, e, hc, hz0, hz1, hk⟩ := bag.ob
  refine rd_bag (b := b) rfl e (show atI _ (0 : Int) = some (V.int c) from rfl) ?_
  refine ⟨_, _, rfl, rfl, _, rfl, ?_⟩
  refine ite2 (fun _ => ?_) (fun _ => ?_)
  · refine rd_bag (b := b) rfl e (show atI _ (0 : Int) = some (V.int c) from rfl) (Or.inl ⟨_, rfl, _, rfl, _, _, rfl, rfl, m0, ?_⟩)
    refine rd_bag (b := b) rfl e (show atI _ (0 : Int) = some (V.int c) from rfl) ⟨_, rfl, _, _, rfl, rfl, ⟨m0, m1⟩, ?_⟩
    refine ⟨_, rfl, b, _, 0, 0, rfl, rfl, e, rfl, _, rfl, ?_⟩
    exact q _ _ (mod_lt m0).1 (mod_lt m0).2 (xt_bag xt) (bag_set bag (Int.ediv_nonneg hc (by omega)) hz0 hz1 hk)
  · exact take_c2 (H := H) rfl bag m0 fun i h1 h2 => q i _ h1 h2 xt bag
theorem take_body {N : List Str} (hN : N.length = 7) : ∀ vs H Q E, spTake K vs H Q E → t_take K { nx := fun _ H' => Q .non H', rt := Q } (L2.start N vs) H := by
  rintro vs H Q E ⟨b, bl, ns, B, vs', ds, rfl, hl, hB, bag, fr, dv, ⟨m, rfl, m0, m1⟩, q⟩
  cases dv with
  | cons hd ht =>
    cases ht
    cases hd
    have hq : ∀ i H', 0 ≤ i → i < m → Xt (· = b) H H' → BagAt K H' b bl ns → Q (.int i) H' := fun i H' h1 h2 x bg => q _ H' (.int i) x bg ⟨m, i, rfl, rfl, h1, h2⟩ (.int i)
    have es : L2.start N [V.ref b, V.int m] = [some (.ref b), some (.int m), none, none, none, none, none] := by
      unfold L2.start
      rw [hN]
      rfl
    rw [es]
    obtain ⟨c, z, k, e, hc, hz0, hz1, hk⟩ := bag.ob
    have lb : SqL K H bl (ns.map V.int) := bag.cells.sq
    refine rd_bag (b := b) rfl e (show atI _ (0 : Int) = some (V.int c) from rfl) ?_
    refine ⟨rfl, _, rfl, ?_⟩
    refine ite2 (fun _ => ?_) (fun _ => ?_)
    · refine rd_bag (b := b) rfl e (show atI _ (2 : Int) = some (V.int k) from rfl) ?_
      refine rd_bag (b := b) rfl e (show atI _ (3 : Int) = some (V.ref bl) from rfl) ?_
      refine ⟨_, _, rfl, Or.inl ⟨_, lb, rfl⟩, _, _, rfl, rfl, _, rfl, ?_⟩
      -- the cell, in either way
      have go : ∀ x : Int, 0 ≤ x →
          (tSeq (tAugS (tVar 0) (tC (.int 2)) (tC (.int 1)) (rGetL K) (ipI fun i j => i + j) rSetL)
            (tSeq (tIfS (tTest (tOp (rI0 fun i j => .bl (decide (j ≤ i))) (tVar 2) (tC (.int 1000000000000000000)))) (tAsg (tVar 2) (gSub (tVar 0) (tC (.int 0)) rSetL)) tNext)
            (tSeq (tAsg (tOp (rAdd4 K) (tOp (rI (fun _ j => 0 < j) fun i j => .int (i % j)) (tCB rInt1 (tCons (tVar 2) tNil)) (tC (.int 2147483647))) (tOp rMul2 (tC (.int 7919)) (tOp (rIx K) (tVar 0) (tC (.int 2))))) (gName 3))
            (tAsg (tOp (rI (fun _ j => 0 < j) fun i j => .int (i % j)) (tCB rInt1 (tCons (tOp (rAdd4 K) (tOp rMul2 (tOp (rIx K) (tVar 0) (tC (.int 1))) (tC (.int 48271))) (tVar 3)) tNil)) (tC (.int 2147483647))) (gSub (tVar 0) (tC (.int 1)) rSetL)))))
          { nx := t_take_c1 K { nx := fun _ H' => Q .non H', rt := Q }, rt := Q } [some (.ref b), some (.int m), some (.int x), none, none, none, none] H := by
        intro x hx
        refine ⟨_, rfl, b, _, 2, V.int k, rfl, rfl, by decide, SqL.of e, rfl, _, _, rfl, rfl, b, _, 2, 2, rfl, rfl, e, rfl, ?_⟩
        have bag1 : BagAt K (upd H b (.lst [.int c, .int z, .int (k + 1), .ref bl])) b bl ns := bag_set bag hc hz0 hz1 (by omega)
        have xt1 : Xt (· = b) H (upd H b (.lst [.int c, .int z, .int (k + 1), .ref bl])) := xt_bag (Xt.refl _ _)
        have last : ∀ (H2 : Hp) (c2 : Int), 0 ≤ c2 → H2 b = some (.lst [.int c2, .int z, .int (k + 1), .ref bl]) → BagAt K H2 b bl ns → Xt (· = b) H H2 →
            (tSeq (tAsg (tOp (rAdd4 K) (tOp (rI (fun _ j => 0 < j) fun i j => .int (i % j)) (tCB rInt1 (tCons (tVar 2) tNil)) (tC (.int 2147483647))) (tOp rMul2 (tC (.int 7919)) (tOp (rIx K) (tVar 0) (tC (.int 2))))) (gName 3))
              (tAsg (tOp (rI (fun _ j => 0 < j) fun i j => .int (i % j)) (tCB rInt1 (tCons (tOp (rAdd4 K) (tOp rMul2 (tOp (rIx K) (tVar 0) (tC (.int 1))) (tC (.int 48271))) (tVar 3)) tNil)) (tC (.int 2147483647))) (gSub (tVar 0) (tC (.int 1)) rSetL)))
            { nx := t_take_c1 K { nx := fun _ H' => Q .non H', rt := Q }, rt := Q } [some (.ref b), some (.int m), some (.int x), none, none, none, none] H2 := by
          intro H2 c2 hc2 e2 bag2 xt2
          refine ⟨_, rfl, Or.inl ⟨_, rfl, _, _, rfl, rfl, (show (0 : Int) < 2147483647 by decide), ?_⟩⟩
          refine rd_bag (b := b) rfl e2 (show atI _ (2 : Int) = some (V.int (k + 1)) from rfl) ?_
          refine Or.inl ⟨7919, k + 1, rfl, rfl, Or.inl ⟨by decide, by decide⟩, Or.inl ⟨_, _, rfl, rfl, ?_⟩⟩
          refine rd_bag (b := b) rfl e2 (show atI _ (1 : Int) = some (V.int z) from rfl) ?_
          refine Or.inl ⟨z, 48271, rfl, rfl, Or.inr ⟨by decide, by decide⟩, _, rfl, Or.inl ⟨_, _, rfl, rfl, Or.inl ⟨_, rfl, _, _, rfl, rfl, (show (0 : Int) < 2147483647 by decide), ?_⟩⟩⟩
          refine ⟨_, rfl, b, _, 1, 1, rfl, rfl, e2, rfl, ?_⟩
          exact take_c1 rfl (xt_bag xt2) (bag_set bag2 hc2 (mod_lt (by decide)).1 (mod_lt (by decide)).2 (by omega)) m0 m1 hq
        refine ⟨_, rfl, _, _, rfl, rfl, _, rfl, ?_⟩
        refine ite2 (fun _ => ?_) (fun _ => ?_)
        · refine ⟨_, rfl, _, rfl, b, _, 0, 0, rfl, rfl, upd_same, rfl, ?_⟩
          exact last _ x hx upd_same (bag_set bag1 hx hz0 hz1 (by show (0 : Int) ≤ k + 1; omega)) (xt_bag xt1)
        · exact last _ c hc upd_same bag1 xt1
      refine ite2 (fun hlt => ?_) (fun _ => ?_)
      · have hlt' : k < (ns.length : Int) := by
          have := of_decide_eq_true hlt
          simpa using this
        have hx : (ns.map V.int)[k.toNat]? = some (V.int (ns[k.toNat]'(by omega))) := by
          rw [List.getElem?_map, List.getElem?_eq_getElem (by omega)]
          rfl
        refine rd_bag (b := b) rfl e (show atI _ (3 : Int) = some (V.ref bl) from rfl) ?_
        refine rd_bag (b := b) rfl e (show atI _ (2 : Int) = some (V.int k) from rfl) ?_
        refine Or.inl ⟨bl, _, k, _, rfl, rfl, lb, at_of (j := k.toNat) (by omega) hx, ?_⟩
        exact go _ (bag.pos _ (List.getElem_mem _))
      · exact go 0 (by decide)
    · exact take_c1 rfl (Xt.refl _ _) bag m0 m1 hq
end
end Lb

/-! LbU: texts of plain signs, drawing inside expressions, short rules for comprehensions. -/
namespace Lb
open PySem PySem.Spec PyProof.Rows L2
open Evl (Ex)
theorem szl {ds : List D} (h : Nat.ble ds.length sizeLine = true := by rfl) : ds.length ≤ sizeLine := Nat.le_of_ble_eq_true h
theorem szn {n : Nat} (h : n ≤ 100000) : n ≤ sizeLine := Nat.le_trans h (by decide)
theorem szn' {n : Nat} (h : n ≤ 100000) : n < sizeLine := Nat.lt_of_le_of_lt h (by decide)
/-- a text of plain signs -/
structure Plain (n : Nat) (x : Str) : Prop where
  len : x.length ≤ n
  asc : ∀ c ∈ x.cps.toList, c < 128
theorem Plain.mono {n m : Nat} {x : Str} (h : Plain n x) (l : n ≤ m) : Plain m x := ⟨Nat.le_trans h.len l, h.asc⟩
theorem Plain.app {n m : Nat} {x y : Str} (h : Plain n x) (g : Plain m y) : Plain (n + m) (x ++ y) := by
  refine ⟨?_, fun c hc => ?_⟩
  · rw [Str.length_append]
    exact Nat.add_le_add h.len g.len
  · rw [Str.cps_append, Array.toList_append] at hc
    rcases List.mem_append.mp hc with hc | hc
    · exact h.asc c hc
    · exact g.asc c hc
theorem Plain.cut {n : Nat} {x : Str} {lo hi : Option Int} (h : Plain n x) : Plain n (cutS x lo hi) := by
  refine ⟨?_, fun c hc => ?_⟩
  · have : (cutS x lo hi).length ≤ x.length := by
      simp [cutS, Str.length]
      omega
    exact Nat.le_trans this h.len
  · have h1 : c ∈ (x.cps.toList.drop (HT.sIx x.length 0 lo)).take (HT.sIx x.length x.length hi - HT.sIx x.length 0 lo) := by
      simpa [cutS] using hc
    exact h.asc c (List.mem_of_mem_drop (List.mem_of_mem_take h1))
theorem plain_sign {c : Nat} (h : c < 128) : Plain 1 ⟨#[c]⟩ := ⟨Nat.le_refl _, fun d hd => by
  have : d = c := by simpa using hd
  rw [this]
  exact h⟩
theorem plain_empty {n : Nat} : Plain n Str.empty := ⟨Nat.zero_le _, fun d hd => by simp [Str.empty] at hd⟩
theorem rep_list (z : Array Nat) : ∀ (n : Nat) (acc : Array Nat), ((List.replicate n z).foldl (· ++ ·) acc).toList = acc.toList ++ (List.replicate n z.toList).flatten
  | 0, acc => by simp
  | n + 1, acc => by
    rw [List.replicate_succ, List.foldl_cons, rep_list z n, List.replicate_succ, List.flatten_cons, Array.toList_append, List.append_assoc]
theorem Plain.rep {n : Nat} {x : Str} {k : Int} {m : Nat} (h : Plain n x) (hk : k.toNat ≤ m) (h1 : 1 ≤ m) :
    Plain (n * m) (if k < 1 then Str.empty else if (k == 1 || x.length == 0) = true then x else repS x k) := by
  split
  · exact plain_empty
  · split
    · exact h.mono (Nat.le_mul_of_pos_right _ h1)
    · have e : (repS x k).cps.toList = (List.replicate k.toNat x.cps.toList).flatten := by
        unfold repS
        rw [rep_list]
        simp
      refine ⟨?_, fun c hc => ?_⟩
      · have e2 : (repS x k).length = (repS x k).cps.toList.length := by simp [Str.length]
        rw [e2, e]
        have hf : ∀ j : Nat, (List.replicate j x.cps.toList).flatten.length = j * x.cps.toList.length := by
          intro j
          induction j with
          | zero => simp
          | succ j ih => rw [List.replicate_succ, List.flatten_cons, List.length_append, ih, Nat.succ_mul, Nat.add_comm]
        rw [hf]
        have : x.cps.toList.length ≤ n := by simpa [Str.length] using h.len
        calc k.toNat * x.cps.toList.length ≤ m * n := Nat.mul_le_mul hk this
          _ = n * m := Nat.mul_comm _ _
      · rw [e] at hc
        obtain ⟨l, hl, hc⟩ := List.mem_flatten.mp hc
        rw [(List.mem_replicate.mp hl).2] at hc
        exact h.asc c hc
theorem joinE : ∀ ys : List Str, (Txt.join Str.empty ys).cps.toList = (ys.map fun y => y.cps.toList).flatten := by
  intro ys
  have e := TL.tl_join Str.empty ys
  rw [← TL.join_eq] at e
  have key : ∀ l : List (List Nat), TL.joinL [] l = l.flatten := by
    intro l
    induction l with
    | nil => rfl
    | cons p r ih =>
      cases r with
      | nil => simp [TL.joinL]
      | cons q r => show p ++ ([] ++ TL.joinL [] (q :: r)) = _; rw [ih]; simp
  exact e.trans (key _)
theorem plain_joinE {n : Nat} {ys : List Str} (hl : ys.length ≤ n) (h : ∀ y ∈ ys, Plain 1 y) : Plain n (Txt.join Str.empty ys) := by
  have e := joinE ys
  refine ⟨?_, fun c hc => ?_⟩
  · have e2 : (Txt.join Str.empty ys).length = (Txt.join Str.empty ys).cps.toList.length := by simp [Str.length]
    rw [e2, e]
    refine Nat.le_trans ?_ hl
    clear e e2 hl
    induction ys with
    | nil => simp
    | cons y ys ih =>
      have h1 := (h y List.mem_cons_self).len
      have h2 := ih fun z hz => h z (List.mem_cons_of_mem _ hz)
      simp only [List.map_cons, List.flatten_cons, List.length_append, List.length_cons]
      have : y.cps.toList.length ≤ 1 := by simpa [Str.length] using h1
      omega
  · rw [e] at hc
    obtain ⟨l, hl, hc⟩ := List.mem_flatten.mp hc
    obtain ⟨y, hy, rfl⟩ := List.mem_map.mp hl
    exact (h y hy).asc c hc
theorem sum1 {ys : List Str} (h : ∀ y ∈ ys, Plain 1 y) : (ys.map (·.length)).sum ≤ ys.length := by
  induction ys with
  | nil => simp
  | cons y ys ih =>
    have h1 := (h y List.mem_cons_self).len
    have h2 := ih fun z hz => h z (List.mem_cons_of_mem _ hz)
    simp only [List.map_cons, List.sum_cons, List.length_cons]
    omega
/-! ### places -/
theorem atI_in {α : Type} {xs : List α} {i : Int} (h0 : 0 ≤ i) (h1 : i < xs.length) : ∃ x, atI xs i = some x ∧ x ∈ xs ∧ xs[i.toNat]? = some x := by
  have hl : i.toNat < xs.length := by omega
  have e : xs[i.toNat]? = some xs[i.toNat] := List.getElem?_eq_getElem hl
  have h2 := atI_nat e
  rw [Int.toNat_of_nonneg h0] at h2
  exact ⟨_, h2, List.getElem_mem _, e⟩
theorem cutD_from {ds : List D} {k : Int} (h0 : 0 ≤ k) (h1 : k ≤ ds.length) : cutD ds (some k) none = ds.drop k.toNat := by
  have e1 : HT.sIx ds.length 0 (some k) = k.toNat := by
    show (if k < 0 then _ else min k.toNat ds.length) = _
    rw [if_neg (by omega), Nat.min_eq_left (by omega)]
  unfold cutD
  rw [e1]
  exact List.take_of_length_le (by rw [List.length_drop]; exact Nat.le_refl _)
theorem cutD_to {ds : List D} {k : Int} (h0 : 0 ≤ k) : cutD ds none (some k) = ds.take k.toNat := by
  have e1 : HT.sIx ds.length ds.length (some k) = min k.toNat ds.length := by
    show (if k < 0 then _ else min k.toNat ds.length) = _
    rw [if_neg (by omega)]
  unfold cutD
  rw [e1, HT.sIx_none, List.drop_zero, Nat.sub_zero]
  by_cases h : k.toNat ≤ ds.length
  · rw [Nat.min_eq_left h]
  · rw [Nat.min_eq_right (by omega), List.take_length, List.take_of_length_le (by omega)]
/-! ### short rules -/
section
variable {W : Wd} {ρ : List (Option D)} {S : D → Prop} {te : TE} {E : XK} {b bl : Addr} {ns : List Int}
theorem iw_imp {wi : TI} {P Q : List D → Prop} (h : Iw W wi ρ P) (i : ∀ l, P l → Q l) : Iw W wi ρ Q := fun σ H e hi Rk q =>
  h σ H e hi Rk fun J H2 items r i2 d p => q J H2 items r i2 d (i _ p)
theorem ev_take (g : Bagged W b bl ns) {i : Nat} (hi : ρ[i]? = some (some (.raw (.ref b))))
    (h : Ev W te ρ fun d => ∃ m : Int, d = .int m ∧ 0 < m ∧ m < 1073741824 ∧ ∀ k : Int, 0 ≤ k → k < m → S (.int k)) : Ev W (tCall (spTake W.K) [] E (tCons (tVar i) (tCons te tNil))) ρ S :=
  ev_callB g (ea_cons (ev_var hi (ea_cons (ev_imp h fun d ⟨m, e, h0, h1, s⟩ => ea_nil ⟨[d], rfl, rfl, ⟨m, by rw [e], h0, h1⟩, fun r ⟨m', k, e1, e2, k0, k1⟩ => by
    subst e
    cases e1
    rw [e2]
    exact s k k0 k1⟩))))
theorem ev_takeC (g : Bagged W b bl ns) {i : Nat} {m : Int} (hi : ρ[i]? = some (some (.raw (.ref b)))) (h0 : 0 < m) (h1 : m < 1073741824) (h : ∀ k : Int, 0 ≤ k → k < m → S (.int k)) :
    Ev W (tCall (spTake W.K) [] E (tCons (tVar i) (tCons (tC (.int m)) tNil))) ρ S := ev_take g hi (ev_int ⟨m, rfl, h0, h1, h⟩)
/-- each one made fulfils P -/
theorem ev_lcP {wi : TI} {g : TG} {vs ls : List Nat} (hls : ∀ j ∈ ls, j ∈ vs)
    (h : Iw W wi ρ fun items => items.length < sizeLine ∧ ∃ P : D → Prop, (∀ L, W.Fr L → ∀ (i : Nat) (d : D), items[i]? = some d → Tg (W.plus L) g ls (wipeD ρ vs) d fun ρ' => Ev (W.plus L) te ρ' P) ∧
      ∀ out : List D, out.length = items.length → (∀ e ∈ out, P e) → S (.lst out)) : Ev W (tLc wi g tYes te vs) ρ S := by
  refine ev_lc hls (iw_imp h fun items ⟨hz, P, st, dn⟩ => ⟨hz, fun i out => out.length = i ∧ ∀ e ∈ out, P e, ⟨rfl, fun e he => by simp at he⟩, ?_, fun out ⟨h1, h2⟩ => dn out h1 h2⟩)
  rintro L fr i d out hd ⟨h1, h2⟩
  intro σ H v sl hi dv Q q
  refine st L fr i d hd σ H v sl hi dv Q fun σ' ρ' e' a n s => q σ' ρ' e' a n (ts_yes ((if_pos rfl).mpr (ev_imp s fun e pe => ⟨by simp [h1], fun x hx => ?_⟩)))
  rcases List.mem_append.mp hx with hx | hx
  · exact h2 x hx
  · rw [List.mem_singleton.mp hx]
    exact pe
/-- the i-th one made fulfils P i -/
theorem ev_lcI {wi : TI} {g : TG} {vs ls : List Nat} (hls : ∀ j ∈ ls, j ∈ vs)
    (h : Iw W wi ρ fun items => items.length < sizeLine ∧ ∃ f : D → D, (∀ L, W.Fr L → ∀ (i : Nat) (d : D), items[i]? = some d → Tg (W.plus L) g ls (wipeD ρ vs) d fun ρ' => Ev (W.plus L) te ρ' (· = f d)) ∧
      S (.lst (items.map f))) : Ev W (tLc wi g tYes te vs) ρ S := by
  refine ev_lc hls (iw_imp h fun items ⟨hz, f, st, dn⟩ => ⟨hz, fun i out => out = (items.take i).map f, rfl, ?_, fun out h1 => by rw [h1, List.take_length]; exact dn⟩)
  rintro L fr i d out hd rfl
  intro σ H v sl hi dv Q q
  refine st L fr i d hd σ H v sl hi dv Q fun σ' ρ' e' a n s => q σ' ρ' e' a n (ts_yes ((if_pos rfl).mpr (ev_imp s fun e pe => ?_)))
  show List.map f (List.take i items) ++ [e] = List.map f (List.take (i + 1) items)
  rw [pe, List.take_succ, hd]
  simp
/-- texts -/
theorem strs_ex {P : Str → Prop} : ∀ {ds : List D}, (∀ d ∈ ds, ∃ x, d = .str x ∧ P x) → ∃ ys : List Str, ds = ys.map D.str ∧ ∀ y ∈ ys, P y
  | [], _ => ⟨[], rfl, fun _ h => by simp at h⟩
  | d :: ds, h => by
    obtain ⟨x, e, p⟩ := h d List.mem_cons_self
    obtain ⟨ys, e2, p2⟩ := strs_ex fun z hz => h z (List.mem_cons_of_mem _ hz)
    refine ⟨x :: ys, by rw [e, e2]; rfl, fun y hy => ?_⟩
    rcases List.mem_cons.mp hy with rfl | hy
    · exact p
    · exact p2 y hy
end
/-- a text's signs, all plain; decided -/
def plainB (n : Nat) (x : Str) : Bool := decide (x.length ≤ n) && x.cps.toList.all fun c => decide (c < 128)
theorem plain_of {n : Nat} {x : Str} (h : plainB n x = true) : Plain n x := by
  unfold plainB at h
  simp only [Bool.and_eq_true, decide_eq_true_eq, List.all_eq_true] at h
  exact ⟨h.1, h.2⟩
end Lb

/-! LbV: the law's def at the end. -/
namespace Lb
open PySem PySem.Spec PyProof.Rows L2
open Evl (Ex)
theorem end_mk {P : Program} {w : World} {K : PySem.W.Frag} {mg : Str → Option Value} {fa : Addr} {x p : Str} {st : Stmt} {k : Nat} {sp : Sp} (hfa : mg x = some (.ref fa)) (h : Has K mg x st) (hb : BindsN x st [p])
    (F : ∀ (base : Heap) (f : Addr) (fd : FuncData), Fun K x x st f fd → FnG P w K mg base CX0 k f fd [p] sp) :
    ∃ fd : FuncData, (∀ (s : Shared) (u : Value), BindsTo s fd ⟨[u], []⟩ [(p, u)]) ∧ ∀ base : Heap, K.In base → base.Ns mainGlobals mg → FnG P w K mg base CX0 k fa fd [p] sp := by
  obtain ⟨f, fd, F0, e⟩ := h
  have e1 := hfa.symm.trans e
  cases e1
  obtain ⟨oc, od, kV, doc, pm, an, cdv, ct, osl, e2, lk, hcd⟩ := id F0.ex
  refine ⟨fd, fun s u => ?_, fun base _ _ => F base _ _ F0⟩
  subst e2
  exact .of_eq (hb kV doc pm an cdv ct [u] rfl)
/-- a law that is handed a script of at most 63 ints and answers True -/
def spEnd (K : PySem.W.Frag) : Sp := fun vs H Q _ => ∃ (a : Addr) (ns : List Int), vs = [.ref a] ∧ SqL K H a (ns.map V.int) ∧ ns.length ≤ 63 ∧ ∀ H', Q (.bl true) H'
theorem spEnd_len {K : PySem.W.Frag} : ∀ vs H Q E, spEnd K vs H Q E → vs.length = 1 := fun vs H Q E ⟨a, ns, e, _⟩ => by rw [e]; rfl
theorem walk63 {k : Nat} {x : Str} {l : PySem.W.OpenLaw} {q : Program} {loose : List Str} {XP : (Str → Option Value) → Heap → Prop} {YP : World → Heap → Prop} {d : DefRec} {K : Params → PySem.W.Frag} (hk : k ≤ 100) (hn : l.most = some 63) (hdf : d.params.defaults = [])
    (hY : ∀ (w : World) (h : Heap), YP w h → (K w.params).In h)
    (F : ∀ (w : World) (mg : Str → Option Value) (fa : Addr) (h : Heap), (K w.params).In h → h.Ns mainGlobals mg → mg d.name = some (.ref fa) →
      ∃ fd : FuncData, (∀ (s : Shared) (u : Value), BindsTo s fd ⟨[u], []⟩ [(x, u)]) ∧ ∀ base : Heap, (K w.params).In base → base.Ns mainGlobals mg → FnG l.prog w (K w.params) mg base CX0 k fa fd [x] (spEnd (K w.params))) :
    PySem.W.WalkO q loose XP YP l.row.toRowW d [] (fun f vs => PySem.call f vs) :=
  walk_ofG (n := 63) (k := k) (x := x) (sp := fun w => spEnd (K w.params)) hn (by decide) hdf (Room.mono (k := 100) ⟨rfl, by decide, by decide⟩ hk) hY F (fun _ _ a ns hl _ hS => ⟨a, ns, rfl, hS, hl, fun _ => rfl⟩)
end Lb

/-! LbX: own error classes over ValueError: __init__ says super().__init__(..) and stores fields. -/
namespace Lb
open PySem PySem.Spec PyProof.Rows L2
open PySem.W PySem.Calls
/-! ### the wrapper that super().__init__ gives, called -/
section
variable {prog : Program} {w : World} {A : Around} {E : Value → Shared → Prop} {h : Heap} {g : Array GenState} {d : Drawn} {t : Nat} {os : OsState}
variable {nm q : Str} {C N : Addr} {bs bm : List Value} {hdct : Bool} {sn : List Str} {sub : List Value} {ab : Bool} {col : Option Bool} {dd : Option Addr} {k0 k1 k2 k3 k5 : Option Value}
theorem call_vw {u e t0 : Addr} {rest : List Value} {Q : Value → Shared → Prop}
    (hC : h.get? C = some (excClassObj nm q C N bs bm hdct sn sub ab col dd k0 k1 k2 k3 k5 "ValueError.__new__")) (he : h.get? e = some (HandSPX.excO C t0)) (hu : h.get? u = some (kxs_mw "ValueError.__init__" e)) (hz : rest.length ≤ sizeLine)
    (hq : ∀ h' t1, (∀ b o, b ≠ e → h.get? b = some o → h'.get? b = some o) → h'.get? e = some (HandSPX.excO C t1) → Q .none ⟨h', g, d, t, os⟩) :
    wpAny (model prog w) A (call (.ref u) rest) Q E ⟨h, g, d, t, os⟩ := by
  refine wpAny_call (codeAny_of_tree ?_)
  show wpAny _ A.in1 (callAny (.ref u) ⟨rest, []⟩) _ _ _
  simp only [callAny]
  refine wpAny_bind (wpAny_load hu ?_)
  simp only [kxs_mw, show (Value.type "method-wrapper" == Value.type "method" || Value.type "method-wrapper" == Value.type "builtin_function_or_method" || Value.type "method-wrapper" == Value.type "method-wrapper") = true by decide, if_true]
  refine W.KFB.if_so (by decide) ?_
  refine wpAny_bind (check_bound_init F.excBase_ValueError.toExcCallFacts hC he rfl ?_)
  refine wpAny_bind (wpAny_pure (wpAny_pure ?_))
  refine ⟨plainId_quiet F.excBase_ValueError.init.plain _, codeAny_builtin F.excBase_ValueError.initEntry ?_⟩
  exact exc_init_tree (cls := .ref C) (t0 := t0) (dv := none) (c2 := .none) (c3 := .none) (b4 := .bool false) he hz fun h' k e' _ => hq h' _ k e'
end

/-! ### the statement super().__init__(..) -/
section
variable {prog : Program} {w : World} {A : Around} {E : Value → Shared → Prop} {h : Heap} {g : Array GenState} {d : Drawn} {t : Nat} {os : OsState} {K : Frag} {C f cc cda e t0 L : Addr} {mg mb m : Str → Option Value}
theorem sup_stmt {body : List Stmt} {qual : Str} {scope : Scope} {q0 q1 q2 q4 q5 : Pos} {a1 : Expr} {args : List Expr} {us : List Value} {fd : FuncData} {ar : Arg} {vs : Array Value} {file : Str} {tf : Tok} {oc ccl cl : Value} {od cdd cld : Option Addr} {osl ccs csl : Array (Option Value)} {Q : Flow → Shared → Prop}
    (X : K.In h) (G : h.Ns mainGlobals mg) (B : h.Ns builtinsNs mb) (hbb : mb "super" = bootBuiltins "super") (gs : mg "super" = none) (opq : nsIn K cStatics "thirdparty.any" = some none) (T : OexC K C)
    (hf : K.lookup f = some ⟨oc, od, .func fd, osl⟩) (hp : (fd.params.posonlyargs ++ fd.params.args).head? = some ar) (hn : h.Ns L m) (hv : m ar.arg = some (.ref e)) (he : h.get? e = some (HandSPX.excO C t0))
    (hcode : K.lookup cda = some ⟨ccl, cdd, .fields vs, ccs⟩) (hvs : vs[2]? = some (.str file tf)) (hfile : ((prog.main.file : Str) == file) = true)
    (hcell : K.lookup cc = some ⟨cl, cld, .cell (some (.ref C)), csl⟩) (hmro : mroIn K C (.ref C) = some true) (hsup : ks_superIn K C C "__init__" = some (some (.builtin "ValueError.__init__"))) (hsub : subIn K (.ref C) (.type "ValueError") = some true)
    (hks : scope.names.lookup ("super" : Str) = some .globalImplicit) (hkc : scope.names.lookup ("__class__" : Str) = some .free) (hka : scope.names.lookup ar.arg = some .local) (hk : scope.kind = .function)
    (htop : (prog.main.scope.names.lookup ("super" : Str)).isSome = false) (hz : us.length ≤ sizeLine)
    (hst : starEach (a1 :: args) (ksEnv qual scope L f (.ref cda) cc) = (false, eval a1 (ksEnv qual scope L f (.ref cda) cc)) :: starEach args (ksEnv qual scope L f (.ref cda) cc))
    (hpl : (backTo q4 (starEach args (ksEnv qual scope L f (.ref cda) cc))).any (·.1) = false)
    (hargs : ∀ (h' : Heap) (t' : Nat) (Q' : List Value → Shared → Prop), (∀ b o, h.get? b = some o → h'.get? b = some o) → Q' us ⟨h', g, d, t', os⟩ →
      wpAny (model prog w) A (spliced (backTo q4 (starEach (a1 :: args) (ksEnv qual scope L f (.ref cda) cc)))) Q' E ⟨h', g, d, t', os⟩)
    (hq : ∀ h' t1 tk, (∀ b o, b ≠ e → h.get? b = some o → h'.get? b = some o) → h'.get? e = some (HandSPX.excO C t1) → Q .next ⟨h', g, d, tk, os⟩)
    {pl : Sem Bool}
    (hev : eval (.Call (.Attribute (.Call (.Name "super" q0) [] [] q1) "__init__" q2) (a1 :: args) [] q4) (ksEnv qual scope L f (.ref cda) cc) = (do
      let ov ← attributeBase (.Call (.Name "super" q0) [] [] q1) "__init__" (ksEnv qual scope L f (.ref cda) cc) (eval (.Call (.Name "super" q0) [] [] q1) (ksEnv qual scope L f (.ref cda) cc))
      standAt q2.atName
      let (fu, first) ← holding [ov] (getMethod ov "__init__" pl)
      callWith q4 fu first (backTo q4 (starEach (a1 :: args) (ksEnv qual scope L f (.ref cda) cc))) []))
    (hi : interactive (ksEnv qual scope L f (.ref cda) cc) = false := by rfl)
    (hsw : swapsWith (.Call (.Attribute (.Call (.Name "super" q0) [] [] q1) "__init__" q2) (a1 :: args) [] q4) none q5.line (ksEnv qual scope L f (.ref cda) cc) = pure false := by rfl) :
    _root_.PySem.wpAt (model prog w) A (.func body (ksEnv qual scope L f (.ref cda) cc)) (exec (.Expr (.Call (.Attribute (.Call (.Name "super" q0) [] [] q1) "__init__" q2) (a1 :: args) [] q4) q5) (ksEnv qual scope L f (.ref cda) cc)) Q E ⟨h, g, d, t, os⟩ := by
  obtain ⟨nm, q, N, bs, bm, sn, sub, ab, col, dd, k0, k1, k2, k3, k5, hC, hbm⟩ := T.cls
  have hcd : clsIn K C = some { name := nm, bases := bs, mro := .ref C :: bm, ns := N, qualname := q, hasDict := true, slotNames := sn, subclasses := sub, abstract := ab, collection := col, hasDel := false } := by unfold clsIn; rw [hC] <;> rfl
  have I : InstAt h e (HandSPX.excO C t0) C none := ⟨he, rfl, rfl, trivial⟩
  have hC1 := X _ _ hC
  refine ks_wpAt_Expr_any (ks_wpAt_MethodCall ?_ hev) hi hsw
  refine ks_wpAt_super_base (env := ksEnv qual scope L f (.ref cda) cc) hks hkc (by decide) rfl (X _ _ hf) rfl hp rfl (X _ _ hcode) rfl hvs hfile htop ?_
  refine ks_loadName_global hk hks (loadGlobal_builtin (env := ksEnv qual scope L f (.ref cda) cc) G gs B (hbb.trans PyProof.Rows.Boot.«super») ⟨rfl, ?_⟩)
  refine wpAny_loadName_free hk hkc rfl ⟨_, X _ _ hcell, rfl⟩ ?_
  refine wpAny_loadName_local hk hka hn hv ?_
  refine ks_wpAny_isType_cls hC1 rfl ⟨rfl, ?_⟩
  refine ks_wpAny_call_super hC1 rfl he rfl (fun c z => by cases z) (looks_mroIn X hmro) (fun h2 hso k2' => ?_)
  have X2 : K.In h2 := X.keeps k2'
  have I2 : InstAt h2 e (HandSPX.excO C t0) C none := ⟨k2' _ _ he, rfl, rfl, trivial⟩
  have hm := hsup
  unfold ks_superIn at hm
  rw [hcd] at hm
  refine kxs_getMethod kxs_ValueError hso (looks_opaque X2 opq) (l₀ := _) ((looks_clsIn X2 hcd).andThen .now) rfl X2 hm (I2.type.andThen (looks_subIn X2 hsub)) (ks_ne X2 I2 hcd) (by decide) ?_
  have k3 : ∀ b o, h.get? b = some o → (h2.push (kxs_mw "ValueError.__init__" e)).get? b = some o := fun b o z => Heap.get?_push_of_some _ (k2' b o z)
  have hu : (h2.push (kxs_mw "ValueError.__init__" e)).get? h2.objs.size = some (kxs_mw "ValueError.__init__" e) := Heap.get?_push_at rfl rfl
  show wpAny _ _ (callWith q4 (.ref h2.objs.size) [] (backTo q4 (starEach (a1 :: args) (ksEnv qual scope L f (.ref cda) cc))) []) _ _ _
  have hA := hargs (h2.push (kxs_mw "ValueError.__init__" e)) (t + 1) (fun vs s₁ => KxsAt "ValueError.__init__" h2.objs.size e s₁.heap ∧ wpAny (model prog w) A (call (.ref h2.objs.size) ([] ++ vs)) (fun _ => Q .next) E s₁) k3 ⟨hu, ?_⟩
  · rw [hst] at hA ⊢
    refine kxs_callWith (i := "ValueError.__init__") (x := e) (by show (false || (backTo q4 (starEach args _)).any (·.1)) = false; rw [hpl]; rfl) ?_
    exact evalArgs_plain hA
  · refine call_vw (k3 _ _ hC1) (k3 _ _ he) hu hz fun h' t1 k' e' => ?_
    exact hq h' t1 _ (fun b o hb z => k' b o hb (k3 b o z)) e'
end

/-! ### self.f = v on an error that is being made -/
section
variable {prog : Program} {w : World} {A : Around} {E : Value → Shared → Prop} {h : Heap} {g : Array GenState} {d : Drawn} {t : Nat} {os : OsState} {K : Frag} {C e t0 : Addr}
abbrev excD (C t dx : Addr) : Obj := { cls := .ref C, dict := some dx, data := .fields #[.ref t, .none, .none, .none, .bool false, .none] }
theorem st_first {fl : Str} {v : Value} {Q : Unit → Shared → Prop} (X : K.In h) (T : OexC K C) (he : h.get? e = some (HandSPX.excO C t0)) (hno : findIn K (.ref C) fl = some none)
    (hq : ∀ h' tk dx, (∀ b o, b ≠ e → h.get? b = some o → h'.get? b = some o) → h.objs.size ≤ dx → dx ≠ e → h'.get? e = some (excD C t0 dx) → h'.Ns1 dx (fun y => if y = fl then some v else none) → Q () ⟨h', g, d, tk, os⟩) :
    wpAny (model prog w) A (setAttr (.ref e) fl v) Q E ⟨h, g, d, t, os⟩ := by
  obtain ⟨nm, q, N, bs, bm, sn, sub, ab, col, dd, k0, k1, k2, k3, k5, hC, hbm⟩ := T.cls
  have hcl : clsIn K C = some { name := nm, bases := bs, mro := .ref C :: bm, ns := N, qualname := q, hasDict := true, slotNames := sn, subclasses := sub, abstract := ab, collection := col, hasDel := false } := by unfold clsIn; rw [hC] <;> rfl
  refine set_plain X (ox := HandSPX.excO C t0) (od := none) ⟨he, rfl, rfl, trivial⟩ T.sa ?_
  exact HandSPX.exc_osa X he hcl (show HandSPX.refsVE (.ref C :: bm) = true from hbm) rfl hno fun h' tk' dx k dn dne hx hn => hq h' tk' dx k dn dne hx hn
theorem st_next {fl : Str} {v : Value} {dx : Addr} {m0 : Str → Option Value} {nl : List Str} {Q : Unit → Shared → Prop} (X : K.In h) (T : OexC K C) (he : h.get? e = some (excD C t0 dx)) (hn : h.Ns1 dx m0) (hw : Within m0 nl) (hz : nl.length ≤ 1000) (hno : findIn K (.ref C) fl = some none)
    (hq : ∀ h' tk, (∀ b o, b ≠ dx → h.get? b = some o → h'.get? b = some o) → h'.Ns1 dx (fun y => if y = fl then some v else m0 y) → Q () ⟨h', g, d, tk, os⟩) :
    wpAny (model prog w) A (setAttr (.ref e) fl v) Q E ⟨h, g, d, t, os⟩ := by
  obtain ⟨nm, q, N, bs, bm, sn, sub, ab, col, dd, k0, k1, k2, k3, k5, hC, hbm⟩ := T.cls
  have hcl : clsIn K C = some { name := nm, bases := bs, mro := .ref C :: bm, ns := N, qualname := q, hasDict := true, slotNames := sn, subclasses := sub, abstract := ab, collection := col, hasDel := false } := by unfold clsIn; rw [hC] <;> rfl
  obtain ⟨oD, _, _, hoD, _, _⟩ := hn.count hw
  refine set_plain X (ox := excD C t0 dx) (od := some oD) ⟨he, rfl, rfl, hoD⟩ T.sa ?_
  exact OEX.osa_old X he hn hw hz hcl (show HandSPX.refsVE (.ref C :: bm) = true from hbm) rfl hno fun h' tk' k hn' => hq h' tk' k hn'
end
/-- what the written part says of an own error class with such an __init__ -/
structure OwnI (prog : Program) (K : Frag) (C f : Addr) (st : Stmt) : Prop where
  oex : OexC K C
  fn : ∃ name qual oc od kV doc pm an cda ct cc osl, K.lookup f = some ⟨oc, od, .func (ksFn name qual (defArgs st) (defBody st) (defScope st) .none kV doc pm an (.ref cda) ct cc), osl⟩ ∧ codeIn K (.ref cda) qual = true ∧
    (∃ ccl cdd vs ccs file tf, K.lookup cda = some ⟨ccl, cdd, .fields vs, ccs⟩ ∧ vs[2]? = some (.str file tf) ∧ ((prog.main.file : Str) == file) = true) ∧ ∃ cl cld csl, K.lookup cc = some ⟨cl, cld, .cell (some (.ref C)), csl⟩
  mro : mroIn K C (.ref C) = some true
  sup : ks_superIn K C C "__init__" = some (some (.builtin "ValueError.__init__"))
  sub : subIn K (.ref C) (.type "ValueError") = some true
  ini : findIn K (.ref C) "__init__" = some (some (.ref f))
  tf : typeIn K (.ref f) = some (.type "function")
/-- the base heap: what it knows of the top -/
structure Grd (K : Frag) (mg : Str → Option Value) (h : Heap) : Prop where
  kin : K.In h
  ns : h.Ns mainGlobals mg
  bl : ∃ mb, h.Ns builtinsNs mb ∧ mb "super" = bootBuiltins "super"
  lim : h.NoLimit
theorem Grd.keeps {K : Frag} {mg : Str → Option Value} {h h' : Heap} (x : Grd K mg h) (k : ∀ b o, h.get? b = some o → h'.get? b = some o) : Grd K mg h' :=
  ⟨x.kin.keeps k, x.ns.keeps k, by obtain ⟨mb, a, b⟩ := x.bl; exact ⟨mb, a.keeps k, b⟩, x.lim.keeps k⟩
/-- names as arguments; self.p = p, row by row -/
inductive NamesL : List Expr → List Str → Prop
  | nil : NamesL [] []
  | cons {p : Str} {q : Pos} {es : List Expr} {ps : List Str} : NamesL es ps → NamesL (.Name p q :: es) (p :: ps)
inductive StoreL : List Stmt → List Str → Prop
  | nil : StoreL [] []
  | cons {p : Str} {r0 r1 r2 r3 : Pos} {ss : List Stmt} {ps : List Str} : StoreL ss ps → StoreL (.Assign [.Attribute (.Name "self" r0) p r1] (.Name p r2) r3 :: ss) (p :: ps)
/-- how such an __init__ stands -/
structure ScI (st : Stmt) (ps : List Str) : Prop where
  sup : (defScope st).names.lookup ("super" : Str) = some .globalImplicit
  cls : (defScope st).names.lookup ("__class__" : Str) = some .free
  loc : ∀ p ∈ (("self" : Str) :: ps), (defScope st).names.lookup p = some .local
  kind : (defScope st).kind = .function
  nocell : ∀ x ∈ (defScope st).names, x.2 ≠ .cell
  co : (defScope st).isCoroutine = false
  gen : (defScope st).isGenerator = false
  hd : ∃ ar : Arg, ((defArgs st).posonlyargs ++ (defArgs st).args).head? = some ar ∧ ar.arg = ("self" : Str)
  nd : (("self" : Str) :: ps).Nodup
  ndb : ∀ p ∈ (("self" : Str) :: ps), (p == ("__debug__" : Str)) = false
  few : ps.length ≤ 100
  bind : ∀ (name qual : Str) (kV doc pm : Value) (an : Option Addr) (cdv ct : Value) (cc : Addr) (us : List Value), us.length = (("self" : Str) :: ps).length →
    bindArgs (ksFn name qual (defArgs st) (defBody st) (defScope st) .none kV doc pm an cdv ct cc) ⟨us, []⟩ = pure ((("self" : Str) :: ps).zip us)
  body : ∃ (q0 q1 q2 q4 q5 : Pos) (a1 : Expr) (args : List Expr) (rest : List Stmt) (pl : Env → Sem Bool),
    defBody st = .Expr (.Call (.Attribute (.Call (.Name "super" q0) [] [] q1) "__init__" q2) (a1 :: args) [] q4) q5 :: rest ∧ NamesL (a1 :: args) ps ∧ StoreL rest ps ∧
    ∀ env : Env, eval (.Call (.Attribute (.Call (.Name "super" q0) [] [] q1) "__init__" q2) (a1 :: args) [] q4) env = (do
      let ov ← attributeBase (.Call (.Name "super" q0) [] [] q1) "__init__" env (eval (.Call (.Name "super" q0) [] [] q1) env)
      standAt q2.atName
      let (fu, first) ← holding [ov] (getMethod ov "__init__" (pl env))
      callWith q4 fu first (backTo q4 (starEach (a1 :: args) env)) [])
theorem lookup_rev {m : List (Str × Value)} (nd : (m.map (·.1)).Nodup) (x : Str) : m.reverse.lookup x = m.lookup x := by
  induction m with
  | nil => rfl
  | cons p m ih =>
    obtain ⟨a, v⟩ := p
    rw [List.map_cons, List.nodup_cons] at nd
    rw [List.reverse_cons, List.lookup_append, ih nd.2]
    by_cases hx : x = a
    · subst hx
      have : m.lookup x = none := by
        rw [List.lookup_eq_none_iff]
        intro p hp
        have : p.1 ≠ x := fun z => nd.1 (List.mem_map.mpr ⟨p, hp, z⟩)
        simpa using fun z : x = p.1 => this z.symm
      rw [this]
      simp [List.lookup]
    · have e : (x == a) = false := by simpa using hx
      rw [List.lookup_cons, e]
      simp [List.lookup, e]
theorem zip_lookup {ps : List Str} {us : List Value} (nd : ps.Nodup) {i : Nat} {p : Str} {u : Value} (h1 : ps[i]? = some p) (h2 : us[i]? = some u) : (ps.zip us).lookup p = some u := by
  induction ps generalizing us i with
  | nil => simp at h1
  | cons a ps ih =>
    cases us with
    | nil => simp at h2
    | cons v us =>
      rw [List.nodup_cons] at nd
      cases i with
      | zero =>
        simp at h1 h2
        subst h1 h2
        simp [List.lookup]
      | succ i =>
        simp at h1 h2
        have hp : p ∈ ps := List.mem_of_getElem? h1
        have e : (p == a) = false := by simpa using fun z : p = a => nd.1 (by rw [← z]; exact hp)
        rw [List.zip_cons_cons, List.lookup_cons, e]
        exact ih nd.2 h1 h2
section
variable {prog : Program} {w : World} {A : Around} {E : Value → Shared → Prop} {h : Heap} {g : Array GenState} {d : Drawn} {t : Nat} {os : OsState} {m : Str → Option Value} {env : Env}
theorem names_run {q4 : Pos} : ∀ {es : List Expr} {ps : List Str} {us : List Value} {Q : List Value → Shared → Prop}, NamesL es ps → h.Ns env.locals m → env.scope.kind = .function →
    (∀ p ∈ ps, env.kindOf p = some .local) → (∀ p ∈ ps, (p == ("__debug__" : Str)) = false) → us.length = ps.length → (∀ (i : Nat) p u, ps[i]? = some p → us[i]? = some u → m p = some u) → Q us ⟨h, g, d, t, os⟩ →
      wpAny (model prog w) A (spliced (backTo q4 (starEach es env))) Q E ⟨h, g, d, t, os⟩
  | _, _, [], _, .nil, _, _, _, _, _, _, q => Calls.spliced_nil q
  | _, _, _ :: _, _, .nil, _, _, _, _, hl, _, _ => by simp at hl
  | _, _, [], _, .cons _, _, _, _, _, hl, _, _ => by simp at hl
  | _, p :: ps, u :: us, Q, .cons hr, hn, hk, hl1, hd, hl, hm, q => by
    show wpAny _ _ (spliced ((false, eval (.Name p _) env) :: backTo q4 (starEach _ env))) _ _ _
    refine Calls.spliced_cons (wpAny_Name (wpAny_loadName_local hk (hl1 p List.mem_cons_self) hn (hm 0 p u rfl rfl) ?_) (hd p List.mem_cons_self))
    exact names_run hr hn hk (fun p' h' => hl1 p' (List.mem_cons_of_mem _ h')) (fun p' h' => hd p' (List.mem_cons_of_mem _ h')) (by simpa using hl) (fun i p' u' h1 h2 => hm (i + 1) p' u' (by simpa using h1) (by simpa using h2)) q
theorem names_star : ∀ {es : List Expr} {ps : List Str} {q4 : Pos}, NamesL es ps → (backTo q4 (starEach es env)).any (·.1) = false
  | _, _, _, .nil => rfl
  | _, _, q4, .cons hr => by
    show (false || (backTo q4 (starEach _ env)).any (·.1)) = false
    rw [names_star hr]
    rfl
end
section
variable {prog : Program} {w : World} {A : Around} {E : Value → Shared → Prop} {c : Code} {h0 : Heap} {g : Array GenState} {d : Drawn} {os : OsState} {m : Str → Option Value} {env : Env} {K : Frag} {C e t1 dx : Addr}
/-- the stores behind the first -/
theorem stores_run (T : OexC K C) (hk : env.scope.kind = .function) (hls : env.kindOf "self" = some .local) (hms : m "self" = some (.ref e)) (X0 : K.In h0) (hd0 : h0.get? dx = none) (hLd : env.locals ≠ dx) (hed : e ≠ dx) {Q : Flow → Shared → Prop} :
    ∀ {ss : List Stmt} {ps : List Str} {us : List Value} {l1 : List (Str × Value)} {h : Heap} {t : Nat} {mA : Str → Option Value}, StoreL ss ps → us.length = ps.length → (∀ (i : Nat) p u, ps[i]? = some p → us[i]? = some u → m p = some u) → (∀ p ∈ ps, env.kindOf p = some .local) →
      (∀ p ∈ ps, (p == ("__debug__" : Str)) = false) → (∀ p ∈ ps, findIn K (.ref C) p = some none) → ((l1.map (·.1)) ++ ps).Nodup → l1.length + ps.length ≤ 900 → (∀ b o, h0.get? b = some o → h.get? b = some o) → h.Ns env.locals m → h.get? e = some (excD C t1 dx) → h.Ns1 dx mA → (∀ y, mA y = l1.lookup y) →
      (∀ h' tk mB, (∀ b o, b ≠ dx → h.get? b = some o → h'.get? b = some o) → h'.Ns1 dx mB → (∀ y, mB y = (l1 ++ ps.zip us).lookup y) → Q .next ⟨h', g, d, tk, os⟩) →
      _root_.PySem.wpAt (model prog w) A c (execs ss env) Q E ⟨h, g, d, t, os⟩
  | _, _, [], l1, h, t, mA, .nil, _, _, _, _, _, _, _, _, _, _, hn, hA, q => by
    refine wpAt_of_wpAny (wpAny_execs_nil (q h t mA (fun b o _ z => z) hn fun y => ?_))
    rw [hA y, List.zip_nil_left, List.append_nil]
  | _, _, _ :: _, _, _, _, _, .nil, hl, _, _, _, _, _, _, _, _, _, _, _, _ => by simp at hl
  | _, _, [], _, _, _, _, .cons _, hl, _, _, _, _, _, _, _, _, _, _, _, _ => by simp at hl
  | _, p :: ps, u :: us, l1, h, t, mA, .cons hr, hl, hm, hlo, hdb, hno, nd, few, k0, hns, he, hn, hA, q => by
    have hw : Within mA (l1.map (·.1)) := fun y hy => by
      have : l1.lookup y ≠ none := by rw [← hA y]; exact hy
      cases e1 : l1.lookup y with
      | none => exact absurd e1 this
      | some v =>
        have := List.lookup_eq_some_iff.mp e1
        obtain ⟨l2, l3, e2, _⟩ := this
        rw [e2]
        simp
    refine ks_wpAt_execs_cons (ks_wpAt_Assign_Attr (wpAt_of_wpAny (wpAny_Name (wpAny_loadName_local hk (hlo p List.mem_cons_self) hns (hm 0 p u rfl rfl) ?_) (hdb p List.mem_cons_self))))
    refine wpAny_Name (wpAny_loadName_local hk hls hns hms ?_) (by decide)
    refine st_next (X0.keeps k0) T he hn hw (by rw [List.length_map]; omega) (hno p List.mem_cons_self) fun h' tk k hn' => ?_
    have np : p ∉ l1.map (·.1) := fun z => by
      have := (List.nodup_append.mp nd).2.2 p z p List.mem_cons_self
      exact this rfl
    refine stores_run T hk hls hms X0 hd0 hLd hed (l1 := l1 ++ [(p, u)]) hr (by simpa using hl) (fun i p' u' h1 h2 => hm (i + 1) p' u' (by simpa using h1) (by simpa using h2)) (fun p' h' => hlo p' (List.mem_cons_of_mem _ h')) (fun p' h' => hdb p' (List.mem_cons_of_mem _ h'))
      (fun p' h' => hno p' (List.mem_cons_of_mem _ h')) (by simpa using nd) (by simp at few ⊢; omega) (fun b o z => k b o (fun z2 => by rw [z2, hd0] at z; cases z) (k0 b o z)) ?_ (k _ _ hed he) hn' (fun y => ?_) fun h2 tk2 mB k2 hn2 hB => q h2 tk2 mB (fun b o hb z => k2 b o hb (k b o hb z)) hn2 fun y => ?_
    · obtain ⟨o, es, ep, ho, r⟩ := hns
      exact ⟨o, es, ep, k _ _ hLd ho, r⟩
    · rw [List.lookup_append]
      by_cases hy : y = p
      · subst hy
        have : l1.lookup y = none := by
          rw [List.lookup_eq_none_iff]
          intro p hp
          have : p.1 ≠ y := fun z => np (List.mem_map.mpr ⟨_, hp, z⟩)
          simpa using fun z : y = p.1 => this z.symm
        rw [if_pos rfl, this]
        simp [List.lookup]
      · have e1 : (y == p) = false := by simpa using hy
        rw [if_neg hy, hA y]
        simp [List.lookup, e1]
    · rw [hB y, List.append_assoc]
      rfl
end

section
variable {prog : Program} {w : World} {A : Around} {R : Result → Shared → Prop} {h0 h : Heap} {g : Array GenState} {d : Drawn} {t : Nat} {os : OsState} {K : Frag} {C f e t0 : Addr} {mg : Str → Option Value} {st : Stmt} {ps : List Str} {us : List Value}
/-- the call of such an __init__ -/
theorem init_run (I : OwnI prog K C f st) (S : ScI st ps) (hno : ∀ p ∈ ps, findIn K (.ref C) p = some none) (hl : us.length = ps.length)
    (G0 : Grd K mg h0) (gs : mg "super" = none) (opq : nsIn K cStatics "thirdparty.any" = some none) (htop : (prog.main.scope.names.lookup ("super" : Str)).isSome = false) (hr : A.depth < recursionLimit)
    (k0 : ∀ b o, h0.get? b = some o → h.get? b = some o) (he0 : h0.get? e = none) (he : h.get? e = some (HandSPX.excO C t0))
    (hq : ∀ h' tk dx t1 mA, (∀ b o, b ≠ e → h.get? b = some o → h'.get? b = some o) → h.objs.size ≤ dx → dx ≠ e → h'.get? e = some (excD C t1 dx) → h'.Ns1 dx mA → (∀ y, mA y = (ps.zip us).lookup y) → R (.ok (.ret .none)) ⟨h', g, d, tk, os⟩) :
    codeAny (model prog w) A (.call (.ref f) ⟨.ref e :: us, []⟩) R ⟨h, g, d, t, os⟩ := by
  obtain ⟨name, qual, oc, od, kV, doc, pm, an, cda, ct, cc, osl, hf, hci, ⟨ccl, cdd, vs, ccs, file, tf, hcode, hvs, hfile⟩, cl, cld, csl, hcell⟩ := I.fn
  obtain ⟨q0, q1, q2, q4, q5, a1, args, rest, pl, hb, hN, hS, hev⟩ := S.body
  obtain ⟨ar, har, ears⟩ := S.hd
  have X0 := G0.kin
  have X : K.In h := X0.keeps k0
  have G := G0.keeps k0
  have lz : (("self" : Str) :: ps).length = (Value.ref e :: us).length := by simp [hl]
  refine ks_codeAny_call_defAt (binds := (("self" : Str) :: ps).zip (.ref e :: us)) hr (X _ _ hf) rfl G.lim (codeRec_of X hci) rfl (.of_eq (S.bind name qual kV doc pm an (.ref cda) ct cc (.ref e :: us) lz.symm)) S.nocell ?_ (fun h1 hns k1 => ?_) S.co S.gen S.kind
  · intro x hx
    exact S.loc _ (List.of_mem_zip (a := x.1) (b := x.2) hx).1
  · have zf : ((("self" : Str) :: ps).zip (Value.ref e :: us)).map (·.1) = ("self" : Str) :: ps := zip_fst lz
    have hm : ∀ x, (fun x => ((("self" : Str) :: ps).zip (Value.ref e :: us)).reverse.lookup x) x = ((("self" : Str) :: ps).zip (Value.ref e :: us)).lookup x := fun x => lookup_rev (by rw [zf]; exact S.nd) x
    have hn1 : h1.Ns h.objs.size (fun x => ((("self" : Str) :: ps).zip (Value.ref e :: us)).lookup x) := by
      have e1 : (fun x => ((("self" : Str) :: ps).zip (Value.ref e :: us)).reverse.lookup x) = (fun x => ((("self" : Str) :: ps).zip (Value.ref e :: us)).lookup x) := funext hm
      rw [← e1]
      exact hns
    have ms : (fun x => ((("self" : Str) :: ps).zip (Value.ref e :: us)).lookup x) "self" = some (.ref e) := zip_lookup S.nd (i := 0) rfl rfl
    have mp : ∀ (i : Nat) p u, ps[i]? = some p → us[i]? = some u → (fun x => ((("self" : Str) :: ps).zip (Value.ref e :: us)).lookup x) p = some u := fun i p u h1 h2 => zip_lookup S.nd (i := i + 1) (by simpa using h1) (by simpa using h2)
    show _root_.PySem.wpAt (model prog w) (A.deeper (ksEnv qual (defScope st) h.objs.size f (.ref cda) cc)) (.func (defBody st) (ksEnv qual (defScope st) h.objs.size f (.ref cda) cc)) (execs (defBody st) (ksEnv qual (defScope st) h.objs.size f (.ref cda) cc)) _ _ _
    have hL : h.objs.size ≠ e := Nat.ne_of_gt (Heap.lt_size he)
    have kk1 : ∀ b o, h0.get? b = some o → h1.get? b = some o := fun b o z => k1 b o (k0 b o z)
    have G1 := G0.keeps kk1
    obtain ⟨mb, hmb, hbb⟩ := G1.bl
    have hz : us.length ≤ sizeLine := szn (by have := S.few; omega)
    rw [hb]
    have hi : interactive (ksEnv qual (defScope st) h.objs.size f (.ref cda) cc) = false := by
      show ((defScope st).kind == .module && _) = false
      rw [S.kind]
      rfl
    refine ks_wpAt_execs_cons (sup_stmt (us := us) G1.kin G1.ns hmb hbb gs opq I.oex hf har hn1 (by rw [ears]; exact ms) (k1 _ _ he) hcode hvs hfile hcell I.mro I.sup I.sub S.sup S.cls (by rw [ears]; exact S.loc _ List.mem_cons_self) S.kind htop hz
      (by cases hN; rfl) ?_ ?_ ?_ (hev _) hi (by rfl))
    · cases hN with
      | cons h' => exact names_star h'
    · intro h' t' Q' k' q'
      refine names_run hN (hn1.keeps k') S.kind (fun p hp => S.loc p (List.mem_cons_of_mem _ hp)) (fun p hp => S.ndb p (List.mem_cons_of_mem _ hp)) hl mp q'
    · intro h2 t1 tk k2 he2
      have nK : ∀ b o, h0.get? b = some o → b ≠ e := fun b o z z2 => by rw [z2, he0] at z; cases z
      have kk2 : ∀ b o, h0.get? b = some o → h2.get? b = some o := fun b o z => k2 b o (nK b o z) (kk1 b o z)
      have hn2 : h2.Ns h.objs.size (fun x => ((("self" : Str) :: ps).zip (Value.ref e :: us)).lookup x) := by
        obtain ⟨o, es, ep, ho, r⟩ := hn1
        exact ⟨o, es, ep, k2 _ _ hL ho, r⟩
      -- the first store
      cases hS with
      | nil => cases hN
      | @cons p r0 r1 r2 r3 ss ps' hS' =>
        cases us with
        | nil => simp at hl
        | cons u us =>
          refine ks_wpAt_execs_cons (ks_wpAt_Assign_Attr (wpAt_of_wpAny (wpAny_Name (wpAny_loadName_local S.kind (S.loc p (List.mem_cons_of_mem _ List.mem_cons_self)) hn2 (mp 0 p u rfl rfl) ?_) (S.ndb p (List.mem_cons_of_mem _ List.mem_cons_self)))))
          refine wpAny_Name (wpAny_loadName_local S.kind (S.loc _ List.mem_cons_self) hn2 ms ?_) (by decide)
          refine st_first (G0.kin.keeps kk2) I.oex he2 (hno p List.mem_cons_self) fun h3 tk3 dx k3 dn dne he3 hn3 => ?_
          have lt2 : ∀ b o, h2.get? b = some o → b < h2.objs.size := fun b o z => Heap.lt_size z
          have hLd : h.objs.size ≠ dx := by
            obtain ⟨o, es, ep, ho, r⟩ := hn2
            exact Nat.ne_of_lt (Nat.lt_of_lt_of_le (lt2 _ _ ho) dn)
          have hd0 : h0.get? dx = none := by
            cases z : h0.get? dx with
            | none => rfl
            | some o => exact absurd (lt2 _ _ (kk2 _ _ z)) (Nat.not_lt.mpr dn)
          have nd' := S.nd
          refine stores_run (env := ksEnv qual (defScope st) h.objs.size f (.ref cda) cc) (h0 := h0) (l1 := [(p, u)]) (us := us) I.oex S.kind (S.loc _ List.mem_cons_self) ms G0.kin hd0 hLd (Ne.symm dne) hS' (by simpa using hl) (fun i p' u' h1 h2 => mp (i + 1) p' u' (by simpa using h1) (by simpa using h2))
            (fun p' h' => S.loc p' (List.mem_cons_of_mem _ (List.mem_cons_of_mem _ h'))) (fun p' h' => S.ndb p' (List.mem_cons_of_mem _ (List.mem_cons_of_mem _ h'))) (fun p' h' => hno p' (List.mem_cons_of_mem _ h')) ?_ ?_
            (fun b o z => k3 b o (nK b o z) (kk2 b o z)) ?_ he3 hn3 (fun y => ?_) fun h4 tk4 mB k4 hn4 hB => ?_
          · exact (List.nodup_cons.mp nd').2
          · have := S.few
            simp at this ⊢
            omega
          · obtain ⟨o, es, ep, ho, r⟩ := hn2
            exact ⟨o, es, ep, k3 _ _ hL ho, r⟩
          · by_cases hy : y = p
            · subst hy
              simp [List.lookup]
            · have e1 : (y == p) = false := by simpa using hy
              simp [List.lookup, e1, hy]
          · have szh : h.objs.size ≤ dx := by
              obtain ⟨o, es, ep, ho, r⟩ := hn2
              exact Nat.le_of_lt (Nat.lt_of_lt_of_le (lt2 _ _ ho) dn)
            refine hq h4 tk4 dx t1 mB (fun b o hb z => ?_) szh dne (k4 _ _ (Ne.symm dne) he3) hn4 hB
            have z1 := k1 b o z
            have hbd : b ≠ dx := Nat.ne_of_lt (Nat.lt_of_lt_of_le (Heap.lt_size z) szh)
            exact k4 b o hbd (k3 b o hb (k2 b o hb z1))
end
end Lb

/-! LbY: own errors as values: made, read, asked for their class. -/
namespace Lb
open PySem PySem.Spec PyProof.Rows L2
open PySem.W PySem.Calls
open Evl (Ex)
theorem zip_rel : ∀ {ps : List Str} {vs : List V} {us : List Value}, Vals vs us → ∀ f, RelO ((ps.zip vs).lookup f) ((ps.zip us).lookup f)
  | [], _, _, _, f => True.intro
  | _ :: _, _, _, .nil, f => True.intro
  | p :: ps, v :: vs, u :: us, .cons r rs, f => by
    rw [List.zip_cons_cons, List.zip_cons_cons, List.lookup_cons, List.lookup_cons]
    cases f == p with
    | true => exact r
    | false => exact zip_rel rs f
theorem ne_ext {H : Hp} {a b : Addr} {φ : Heap → Prop} {u : HO} (ha : H a = some (.ext φ)) (hb : H b = some u) (d : ∀ ψ, u ≠ .ext ψ) : b ≠ a := fun z => by
  rw [z, ha] at hb
  exact d φ (Option.some.inj hb).symm
/-- two new objects behind one another, tracked -/
theorem laid2 {X : Cx} {pins : List (Addr × Obj)} {σ : L2.St} {H : Hp} {s : Shared} {h' : Heap} {a dx : Addr} {o1 o2 : HO} {t' : Nat} (I : Inv X pins σ H s) (k : ∀ b o, s.heap.get? b = some o → h'.get? b = some o)
    (ha : s.heap.get? a = none) (hd : s.heap.get? dx = none) (na : H a = none) (nd : H dx = none) (ne : a ≠ dx) (n1 : ∀ x, o1 ≠ .own x) (n2 : ∀ x, o2 ≠ .own x)
    (new1 : ObjOk X.prog X.w (upd (upd H dx o1) a o2) h' dx o1) (new2 : ObjOk X.prog X.w (upd (upd H dx o1) a o2) h' a o2) : Inv X pins σ (upd (upd H dx o1) a o2) { s with heap := h', toks := t' } := by
  have ea : ∀ {b : Addr} {o : Obj}, s.heap.get? b = some o → b ≠ a := fun {b o} q z => by rw [z, ha] at q; cases q
  have ed : ∀ {b : Addr} {o : Obj}, s.heap.get? b = some o → b ≠ dx := fun {b o} q z => by rw [z, hd] at q; cases q
  have Un1 : Un X.fs [] H (upd (upd H dx o1) a o2) s.heap h' := {
    keep := fun b o q n _ _ => k b o q
    slot := fun b o q n _ _ => ⟨o.slots, k b o q⟩
    free := fun b o q n _ => by rw [upd_ne (ea q), upd_ne (ed q)]; exact n
    there := fun b o q _ => ⟨o, k b o q⟩
    tups := fun b xs q => by rw [upd_ne (ne_of_none q na), upd_ne (ne_of_none q nd)]; exact q
    frzs := fun b o v q => by rw [upd_ne (ne_of_none q na), upd_ne (ne_of_none q nd)]; exact q
    tbls := fun b ps q => ⟨#[], by rw [upd_ne (ne_of_none q na), upd_ne (ne_of_none q nd), q]; simp⟩ }
  refine I.un Un1 fun b o q => ?_
  by_cases hb : b = a
  · subst hb
    rw [upd_same] at q
    cases q
    exact new2
  · rw [upd_ne hb] at q
    by_cases hb2 : b = dx
    · subst hb2
      rw [upd_same] at q
      cases q
      exact new1
    · rw [upd_ne hb2] at q
      exact (I.hok b o q).stay (fun c v _ z => k c v z) (fun c hc => by rw [upd_ne (ne_of_none hc na), upd_ne (ne_of_none hc nd)]; exact hc) (fun c xs hc => by rw [upd_ne (ne_of_none hc na), upd_ne (ne_of_none hc nd)]; exact hc)
/-! ### C(e, ..), C with such an __init__ -/
def tMkE (C : Addr) (ps : List Str) (ta : TA) : TE := fun σ H Q => ta σ H fun vs H1 => vs.length = ps.length ∧ ∀ a dx, H1 a = none → H1 dx = none → a ≠ dx → Q (.ref a) (upd (upd H1 dx (exd dx (ps.zip vs))) a (exo a C (some dx)))
section
variable {X : Cx} {x : Str} {C fI : Addr} {st : Stmt} {ps : List Str} {e : Expr} {es : List Expr} {ta : TA} {p pos : Pos} {k : Nat}
theorem grd_of {pins : List (Addr × Obj)} {σ : L2.St} {H : Hp} {s : Shared} (I : Inv X pins σ H s) : Grd X.K X.mg s.heap := by
  have old : ∀ b o, X.base.get? b = some o → s.heap.get? b = some o := fun b o e => (I.env0.bs b o e).1
  obtain ⟨mb, h1, h2⟩ := I.env0.mod.blt
  exact ⟨I.kIn, I.env0.mod.glob.keeps old, ⟨mb, h1.keeps old, h2 _ (by decide)⟩, I.env0.mod.nolimit.keeps old⟩
theorem pe_mkE (I0 : OwnI X.prog X.K C fI st) (S : ScI st ps) (hno : ∀ p ∈ ps, findIn X.K (.ref C) p = some none) (gs : X.mg "super" = none) (opq : nsIn X.K cStatics "thirdparty.any" = some none) (htop : (X.prog.main.scope.names.lookup ("super" : Str)).isSome = false)
    (hr : Room (k + 1) X.A) (hg : Gl X x) (hm : X.mg x = some (.ref C)) (ha : PA X (e :: es) ta)
    (hdb : (x == ("__debug__" : Str)) = false := by decide) (he : starEach (e :: es) X.env = (false, eval e X.env) :: starEach es X.env := by rfl) (hpl : (backTo pos (starEach es X.env)).any (·.1) = false := by rfl) :
    PE X (.Call (.Name x p) (e :: es) [] pos) (tMkE C ps ta) := by
  refine ⟨fun pins s σ H Q I h => ?_⟩
  have T := I0.oex
  obtain ⟨nm, q, N, bs, bm, sn, sub, ab, col, dd, k0, k1, k2, k3, k5, hC, hbm⟩ := T.cls
  refine wpAny_Call_Name_kw (ld_glob I hg hm ?_ hdb)
  refine PySem.W.callWith_K (h₀ := X.base) I.ok.mod.kin T.kC (thn (ha.run pos pins s σ H _ I h) fun us s1 ⟨vs, H1, I1, r1, hz, q1⟩ => ⟨I1.kIn, ?_⟩) he hpl
  show wpAny _ _ (call (.ref C) us) _ _ _
  have G0 := grd_of I1
  obtain ⟨hp, g, dr, tk, os⟩ := s1
  have hus : us.length = ps.length := (Paired.length r1).symm.trans hz
  have husz : us.length ≤ sizeLine := szn (by have := S.few; omega)
  have kk : ∀ b o, hp.get? b = some o → ((hp.push (PySem.W.kdv_tup us)).push (PySem.HandSPX.excO C hp.objs.size)).get? b = some o := fun b o e => Heap.get?_push_of_some _ (Heap.get?_push_of_some _ e)
  have hget : ((hp.push (PySem.W.kdv_tup us)).push (PySem.HandSPX.excO C hp.objs.size)).get? (hp.objs.size + 1) = some (PySem.HandSPX.excO C hp.objs.size) := by heap_get
  have fre : ∀ {b}, hp.objs.size ≤ b → hp.get? b = none := fun {b} hb => by
    cases z : hp.get? b with
    | none => rfl
    | some o => exact absurd (Heap.lt_size z) (Nat.not_lt.mpr hb)
  refine wpAny_call (PySem.HandSPX.call_own F.excBase_ValueError (fun Y => PySem.HandSPX.refsVE_contains Y bm hbm) (I1.kIn _ _ hC) (PySem.W.looks_findIn I1.kIn I0.ini) (fun self => PySem.W.bind_fn I1.kIn self I0.tf) husz
    (init_run (h0 := hp) I0 S hno hus G0 gs opq htop (hr.make C us []).depth kk (fre (Nat.le_succ _)) hget ?_))
  intro h' tk' dx t1 mA k' dn dne he' hn' hA
  have szl : hp.objs.size ≤ dx := by
    have := dn
    simp at this
    omega
  refine ⟨rfl, ?_⟩
  have kf : ∀ b o, hp.get? b = some o → h'.get? b = some o := fun b o z => k' b o (fun z2 => by rw [z2, fre (Nat.le_succ _)] at z; cases z) (kk b o z)
  have na : H1 (hp.objs.size + 1) = none := I1.hok.fresh (Nat.le_succ _)
  have nd : H1 dx = none := I1.hok.fresh szl
  have J := laid2 (t' := tk') (o1 := exd dx (ps.zip vs)) (o2 := exo (hp.objs.size + 1) C (some dx)) I1 kf (fre (Nat.le_succ _)) (fre szl) na nd (Ne.symm dne) (fun x => exd_own) (fun x => exo_own)
    (exd_ok hn' fun f => by rw [hA f]; exact zip_rel r1 f) (exo_ok he')
  exact ⟨.ref (hp.objs.size + 1), _, J, rfl, q1 _ dx na nd (Ne.symm dne)⟩
end

/-! ### C(..), C without an own __init__ -/
def tMkB (C : Addr) (ta : TA) : TE := fun σ H Q => ta σ H fun vs H1 => vs.length ≤ 1000 ∧ ∀ a, H1 a = none → Q (.ref a) (upd H1 a (exo a C none))
section
variable {X : Cx} {x : Str} {C : Addr} {e : Expr} {es : List Expr} {ta : TA} {p pos : Pos}
theorem mkB_run {pins : List (Addr × Obj)} {σ : L2.St} {H1 : Hp} {s1 : Shared} {Q : VK} {us : List Value} (T : OexC X.K C) (ini : findIn X.K (.ref C) "__init__" = some (some (.builtin "ValueError.__init__"))) (I1 : Inv X pins σ H1 s1) (hz : us.length ≤ sizeLine)
    (q1 : ∀ a, H1 a = none → Q (.ref a) (upd H1 a (exo a C none))) : wpAny (model X.prog X.w) X.A (call (.ref C) us) (EP X pins σ Q) X.xe s1 := by
  obtain ⟨nm, q, N, bs, bm, sn, sub, ab, col, dd, k0, k1, k2, k3, k5, hC, hbm⟩ := T.cls
  obtain ⟨hp, g, dr, tk, os⟩ := s1
  refine call_B F.excBase_ValueError (fun Y => PySem.HandSPX.refsVE_contains Y bm hbm) (I1.kIn _ _ hC) (looks_findIn I1.kIn ini) hz fun h' k he _ => ?_
  have sz : hp.objs.size ≤ hp.objs.size + 1 := Nat.le_succ _
  exact ⟨.ref (hp.objs.size + 1), _, I1.laid (t' := tk) k sz (exo_ok he), rfl, q1 _ (I1.hok.fresh sz)⟩
theorem pe_mkB (T : OexC X.K C) (ini : findIn X.K (.ref C) "__init__" = some (some (.builtin "ValueError.__init__"))) (hg : Gl X x) (hm : X.mg x = some (.ref C)) (ha : PA X (e :: es) ta)
    (hdb : (x == ("__debug__" : Str)) = false := by decide) (he : starEach (e :: es) X.env = (false, eval e X.env) :: starEach es X.env := by rfl) (hpl : (backTo pos (starEach es X.env)).any (·.1) = false := by rfl) :
    PE X (.Call (.Name x p) (e :: es) [] pos) (tMkB C ta) := by
  refine ⟨fun pins s σ H Q I h => ?_⟩
  refine wpAny_Call_Name_kw (ld_glob I hg hm ?_ hdb)
  refine PySem.W.callWith_K (h₀ := X.base) I.ok.mod.kin T.kC (thn (ha.run pos pins s σ H _ I h) fun us s1 ⟨vs, H1, I1, r1, hz, q1⟩ => ⟨I1.kIn, ?_⟩) he hpl
  exact mkB_run (us := us) T ini I1 (szn (by have := Paired.length r1; omega)) q1
theorem pe_mkB0 (T : OexC X.K C) (ini : findIn X.K (.ref C) "__init__" = some (some (.builtin "ValueError.__init__"))) (hg : Gl X x) (hm : X.mg x = some (.ref C)) (hdb : (x == ("__debug__" : Str)) = false := by decide) :
    PE X (.Call (.Name x p) [] [] pos) (tMkB C tNil) := by
  refine ⟨fun pins s σ H Q I h => ?_⟩
  refine wpAny_Call_Name_kw (ld_glob I hg hm ?_ hdb)
  exact PySem.W.callWith_K0 I.kIn T.kC (mkB_run (us := []) T ini I (Nat.zero_le _) h.2)
end
/-! ### e.f -/
def tFldE (K : Frag) (f : Str) (te : TE) : TE := fun σ H Q => te σ H fun x H1 => ∃ (a C dx : Addr) (fs : List (Str × V)) (v : V), x = .ref a ∧ H1 a = some (exo a C (some dx)) ∧ H1 dx = some (exd dx fs) ∧ XfC K C ∧ findIn K (.ref C) f = some none ∧ fs.lookup f = some v ∧ Q v H1
theorem pe_fldE {X : Cx} {e : Expr} {te : TE} {pos : Pos} {n : Str} (he : PE X e te) (hb : attributeBase e n X.env (eval e X.env) = eval e X.env := by rfl) : PE X (.Attribute e n pos) (tFldE X.K n te) := by
  refine ⟨fun pins s σ H Q I h => ?_⟩
  refine attr_of hb (thn (he.run pins s σ H _ I h) fun u s1 ⟨x, H1, I1, rx, a, C, dx, fs, v, ex, ea, ed, T, hno, l, q⟩ => ?_)
  subst ex
  obtain rfl : u = Value.ref a := rx
  obtain ⟨t1, ho⟩ := exo_at I1.hok ea
  obtain ⟨mA, hns, hr⟩ := exd_at I1.hok ed
  obtain ⟨od, hod, hl⟩ := lookIn_ns hns
  obtain ⟨u, hu, ru⟩ := RelO.some_of (v := v) (o := mA n) (by rw [← l]; exact hr n)
  have J : PySem.W.InstAt s1.heap a (excD C t1 dx) C (some od) := ⟨ho, rfl, rfl, hod⟩
  exact HandSPX.exc_get I1.kIn J T.ga T.gg T.exC (PySem.W.findObj_own T.hdC hno rfl (by rw [hl, hu])) (handed_of ru) ⟨v, H1, I1.tok _, ru, q⟩
/-! ### isinstance(e, D) -/
structure IsE (K : Frag) (C : Addr) : Prop where
  cl : (clsIn K C).isSome = true
  ga : findIn K (.ref C) "__getattribute__" = some (some (.builtin "BaseException.__getattribute__"))
  gg : findIn K (.ref C) "__getattr__" = some none
  exC : subIn K (.ref C) (.type "BaseException") = some true
  ca : findIn K (.ref C) "__class__" = some (some (.builtin "object.__class__"))
  mo : mroIn K C (.type "object") = some true
structure IsG (K : Frag) : Prop where
  gt : specialIn K (.builtin "object.__class__") "__get__" = some (some (.builtin "getset_descriptor.__get__"))
  tk : takesIn K (.builtin "object.__class__") = some true
/-- at a: a made error of the class at C -/
def ErrAt (H : Hp) (a C : Addr) : Prop := H a = some (exo a C none) ∨ ∃ dx fs, H a = some (exo a C (some dx)) ∧ H dx = some (exd dx fs)
def rIsiE (K : Frag) : List V → Hp → VK → Prop := fun xs H Q => ∃ (a C : Addr) (c : V) (u : Value) (b : Bool), xs = [.ref a, c] ∧ ClsV c u ∧ ErrAt H a C ∧ IsE K C ∧ kitOne K (.ref C) u = some b ∧ Q (.bl b) H
theorem call_isiE {X : Cx} (hG : IsG X.K) : CallR X (.builtin "isinstance") (rIsiE X.K) := by
  intro pins s σ H xs us Q I r h
  obtain ⟨a, C, c, u, b, rfl, k, ht, T, e, q⟩ := h
  obtain ⟨u1, u2, rfl, r1, r2⟩ := vals2 r
  have e2 := k.eq r2
  subst e2
  cases (show u1 = Value.ref a from r1)
  rcases ht with ea | ⟨dx, fs, ea, ed⟩
  · obtain ⟨t1, ho⟩ := exo_at I.hok ea
    exact PySem.W.kia_one (kitx_exc (x := a) (od := none) T.cl T.ga T.gg T.exC T.ca hG.gt hG.tk T.mo) I.kIn ⟨ho, rfl, rfl, trivial⟩ e (fun z => nomatch z) fun tk => ⟨.bl b, H, I.tok tk, rfl, q⟩
  · obtain ⟨t1, ho⟩ := exo_at I.hok ea
    obtain ⟨mA, hns, hr⟩ := exd_at I.hok ed
    obtain ⟨od, hod, hl⟩ := lookIn_ns hns
    exact PySem.W.kia_one (kitx_exc (x := a) (od := some od) T.cl T.ga T.gg T.exC T.ca hG.gt hG.tk T.mo) I.kIn ⟨ho, rfl, rfl, hod⟩ e (fun z => nomatch z) fun tk => ⟨.bl b, H, I.tok tk, rfl, q⟩
end Lb

/-! LbR: repr of data in which dicts lie nested. -/
namespace Lb
open PySem PySem.Spec PyProof.Rows L2
open Evl (Ex)
mutual
/-- what a value reads as; no dict of it is the table of modules -/
inductive RS (h : Heap) : Value → PyData → Prop
  | non : RS h .none .none
  | bl (b : Bool) : RS h (.bool b) (.bool b)
  | int (i : Int) (t : Tok) : RS h (.int i t) (.int i)
  | str (x : Str) (t : Tok) : RS h (.str x t) (.str x)
  | lst {a : Addr} {o : Obj} {vs : Array Value} {n : Nat} {xs : List PyData} : h.get? a = some o → o.cls = .type "list" → o.data = .seq vs n → RSs h vs.toList xs → RS h (.ref a) (.list xs)
  | tup {a : Addr} {o : Obj} {vs : Array Value} {n : Nat} {xs : List PyData} : h.get? a = some o → o.cls = .type "tuple" → o.data = .seq vs n → RSs h vs.toList xs → RS h (.ref a) (.tuple xs)
  | dct {a : Addr} {o : Obj} {es : Array DictEntry} {n : Nat} {kvs : List (PyData × PyData)} : (a == sysModules) = false → h.get? a = some o → o.cls = .type "dict" → o.data = .dict es n →
      RSs h (es.toList.map (·.key)) (kvs.map (·.1)) → RSs h (es.toList.map (·.val)) (kvs.map (·.2)) → RS h (.ref a) (.dict kvs)
inductive RSs (h : Heap) : List Value → List PyData → Prop
  | nil : RSs h [] []
  | cons {v : Value} {vs : List Value} {d : PyData} {ds : List PyData} : RS h v d → RSs h vs ds → RSs h (v :: vs) (d :: ds)
end
section
variable {h : Heap}
mutual
theorem RS.reads : ∀ {v : Value} {d : PyData}, RS h v d → ∃ as, Reads h v d as
  | _, _, .non => ⟨_, .none⟩
  | _, _, .bl b => ⟨_, .bool b⟩
  | _, _, .int i t => ⟨_, .int i t⟩
  | _, _, .str x t => ⟨_, .str x t⟩
  | _, _, .lst e1 e2 e3 s => let ⟨_, r⟩ := RSs.reads s; ⟨_, .list e1 e2 e3 r⟩
  | _, _, .tup e1 e2 e3 s => let ⟨_, r⟩ := RSs.reads s; ⟨_, .tuple e1 e2 e3 r⟩
  | _, _, .dct _ e1 e2 e3 s1 s2 => let ⟨_, r1⟩ := RSs.reads s1; let ⟨_, r2⟩ := RSs.reads s2; ⟨_, .dict e1 e2 e3 r1 r2⟩
theorem RSs.reads : ∀ {vs : List Value} {ds : List PyData}, RSs h vs ds → ∃ as, ReadsAll h vs ds as
  | _, _, .nil => ⟨_, .nil⟩
  | _, _, .cons x xs => let ⟨_, r1⟩ := RS.reads x; let ⟨_, r2⟩ := RSs.reads xs; ⟨_, .cons r1 r2⟩
end
variable {prog : Program} {w : World}
/-- the texts of a list's, a tuple's, a dict's items fit, if the whole fits -/
theorem fit_l {xs : List PyData} (z : (PyData.list xs).shown.length ≤ sizeLine) : ∀ t ∈ PyData.shownAll xs, t.length ≤ sizeLine := fun t m => by
  simp only [PyData.shown] at z
  exact Nat.le_trans (listText_mem_le m) z
theorem fit_t {xs : List PyData} (z : (PyData.tuple xs).shown.length ≤ sizeLine) : ∀ t ∈ PyData.shownAll xs, t.length ≤ sizeLine := fun t m => by
  simp only [PyData.shown] at z
  exact Nat.le_trans (tupleText_mem_le m) z
theorem fit_k {kvs : List (PyData × PyData)} (z : (PyData.dict kvs).shown.length ≤ sizeLine) : ∀ t ∈ PyData.shownAll (kvs.map (·.1)), t.length ≤ sizeLine := fun t m => by
  simp only [PyData.shown] at z
  obtain ⟨p, hp, hl⟩ := PyData.shownKv_key_le kvs t m
  exact Nat.le_trans (Nat.le_trans hl (dictText_mem_le hp)) z
theorem fit_v {kvs : List (PyData × PyData)} (z : (PyData.dict kvs).shown.length ≤ sizeLine) : ∀ t ∈ PyData.shownAll (kvs.map (·.2)), t.length ≤ sizeLine := fun t m => by
  simp only [PyData.shown] at z
  obtain ⟨p, hp, hl⟩ := PyData.shownKv_val_le kvs t m
  exact Nat.le_trans (Nat.le_trans hl (dictText_mem_le hp)) z
theorem dep_l (xs : List PyData) : (PyData.list xs).depth = PyData.depthAll xs + 1 := by simp only [PyData.depth]
theorem dep_t (xs : List PyData) : (PyData.tuple xs).depth = PyData.depthAll xs + 1 := by simp only [PyData.depth]
theorem dep_d (kvs : List (PyData × PyData)) : (PyData.dict kvs).depth = PyData.depthKv kvs + 1 := by simp only [PyData.depth]
/-- the entries, from the keys' and the values' texts -/
theorem ent_of {es : List DictEntry} {kvs : List (PyData × PyData)} {b1 b2 : List Addr} (k1 : ReprAllK prog w b1 h (PyData.depthAll (kvs.map (·.1))) (es.map (·.key)) (PyData.shownAll (kvs.map (·.1)))) (k2 : ReprAllK prog w b2 h (PyData.depthAll (kvs.map (·.2))) (es.map (·.val)) (PyData.shownAll (kvs.map (·.2)))) :
    ReprEntriesK prog w (b1 ++ b2) h (PyData.depthKv kvs) es (PyData.shownKv kvs) := by
  have q1 := k1.more_le (as' := b1 ++ b2) (fun b m => List.mem_append_left _ m) (PyData.depthAll_keys_le kvs)
  have q2 := k2.more_le (as' := b1 ++ b2) (fun b m => List.mem_append_right _ m) (PyData.depthAll_vals_le kvs)
  rw [PyData.shownKv_eq]
  exact ReprEntriesK.of_two es _ _ q1 q2
theorem am_nil {n : Nat} : ReadAtMost h n [] := fun b m => nomatch m
mutual
theorem RS.repr : ∀ {v : Value} {d : PyData}, RS h v d → d.showable = true → d.shown.length ≤ sizeLine → ∃ bs, ReadAtMost h d.depth bs ∧ ReprK prog w bs h d.depth v d.shown
  | _, _, .non, _, _ => ⟨[], am_nil, by simp only [PyData.shown]; exact ReprK.of_is ReprIs.none _ _ _⟩
  | _, _, .bl b, _, _ => ⟨[], am_nil, by simp only [PyData.shown]; exact ReprK.of_is (ReprIs.bool b) _ _ _⟩
  | _, _, .int i t, sw, _ => ⟨[], am_nil, by
    simp only [PyData.showable] at sw
    simp only [PyData.shown]
    exact ReprK.of_is (ReprIs.int t (of_decide_eq_true sw)) _ _ _⟩
  | _, _, .str x t, _, z => ⟨[], am_nil, by
    simp only [PyData.shown] at z ⊢
    exact ReprK.of_is (ReprIs.str x t z) _ _ _⟩
  | _, _, @RS.lst _ a o vs n xs e1 e2 e3 s, sw, z => by
    obtain ⟨_, r⟩ := RS.reads (RS.lst e1 e2 e3 s)
    obtain ⟨bs, am, ks⟩ := RSs.repr s (by simp only [PyData.showable] at sw; exact sw) (fit_l z)
    have no : a ∉ bs := not_mem_of_deeper r (by rw [dep_l]; exact Nat.lt_succ_self _) am
    refine ⟨a :: bs, am.cons r (by rw [dep_l]; exact Nat.le_succ _), ?_⟩
    rw [dep_l]
    simp only [PyData.shown]
    obtain ⟨l⟩ := vs
    match l, s, ks with
    | [], s, ks =>
      cases (show RSs h [] xs from s)
      simp only [PyData.shownAll]
      rw [listText_nil]
      exact ReprK.listEmpty e1 e2 e3
    | x :: l, s, ks => exact ReprK.list e1 e2 e3 no (by have := ks.length_eq; simpa using this) fun i y ey => ks.item i y (by simpa using ey)
  | _, _, @RS.tup _ a o vs n xs e1 e2 e3 s, sw, z => by
    obtain ⟨_, r⟩ := RS.reads (RS.tup e1 e2 e3 s)
    obtain ⟨bs, am, ks⟩ := RSs.repr s (by simp only [PyData.showable] at sw; exact sw) (fit_t z)
    have no : a ∉ bs := not_mem_of_deeper r (by rw [dep_t]; exact Nat.lt_succ_self _) am
    refine ⟨a :: bs, am.cons r (by rw [dep_t]; exact Nat.le_succ _), ?_⟩
    rw [dep_t]
    simp only [PyData.shown]
    exact ReprK.tuple e1 e2 e3 no ks
  | _, _, @RS.dct _ a o es n kvs sy e1 e2 e3 s1 s2, sw, z => by
    obtain ⟨_, r⟩ := RS.reads (RS.dct sy e1 e2 e3 s1 s2)
    simp only [PyData.showable] at sw
    obtain ⟨w1, w2⟩ := PyData.showableKv_split kvs sw
    obtain ⟨b1, a1, k1⟩ := RSs.repr s1 w1 (fit_k z)
    obtain ⟨b2, a2, k2⟩ := RSs.repr s2 w2 (fit_v z)
    have am : ReadAtMost h (PyData.depthKv kvs) (b1 ++ b2) := ReadAtMost.append (a1.mono (PyData.depthAll_keys_le kvs)) (a2.mono (PyData.depthAll_vals_le kvs))
    have no : a ∉ b1 ++ b2 := not_mem_of_deeper r (by rw [dep_d]; exact Nat.lt_succ_self _) am
    refine ⟨a :: (b1 ++ b2), am.cons r (by rw [dep_d]; exact Nat.le_succ _), ?_⟩
    rw [dep_d]
    simp only [PyData.shown]
    exact ReprK.dict e1 e2 e3 sy no (ent_of k1 k2)
theorem RSs.repr : ∀ {vs : List Value} {ds : List PyData}, RSs h vs ds → PyData.showableAll ds = true → (∀ t ∈ PyData.shownAll ds, t.length ≤ sizeLine) → ∃ bs, ReadAtMost h (PyData.depthAll ds) bs ∧ ReprAllK prog w bs h (PyData.depthAll ds) vs (PyData.shownAll ds)
  | _, _, .nil, _, _ => ⟨[], am_nil, by simp only [PyData.shownAll]; exact ReprAllK.nil⟩
  | _, _, @RSs.cons _ v vs d ds x xs, sw, z => by
    simp only [PyData.showableAll, Bool.and_eq_true] at sw
    simp only [PyData.shownAll] at z ⊢
    simp only [PyData.depthAll]
    obtain ⟨b1, a1, k1⟩ := RS.repr x sw.1 (z _ List.mem_cons_self)
    obtain ⟨b2, a2, k2⟩ := RSs.repr xs sw.2 fun t m => z t (List.mem_cons_of_mem _ m)
    refine ⟨b1 ++ b2, ReadAtMost.append (a1.mono (Nat.le_max_left _ _)) (a2.mono (Nat.le_max_right _ _)), ?_⟩
    exact ReprAllK.cons (ReprK.level_le (k1.more fun b m => List.mem_append_left _ m) (Nat.le_max_left _ _)) (k2.more_le (fun b m => List.mem_append_right _ m) (Nat.le_max_right _ _))
end
variable {A : Around} {E : Value → Shared → Prop} {s : Shared} {Q : Value → Shared → Prop}
/-- repr(x) of such a value on the heap -/
theorem repr_RS {a : Addr} {d : PyData} (r : RS s.heap (.ref a) d) (sw : d.showable = true) (z : d.shown.length ≤ sizeLine) (hG : A.guards = some []) (hu : A.units + (d.depth + 1) < cLine)
    (q : ∀ h' u tk, (∀ b o, s.heap.get? b = some o → h'.get? b = some o) → Q (.str d.shown u) { s with heap := h', toks := tk }) : wpAny (model prog w) A (call (.builtin "repr") [.ref a]) Q E s := by
  obtain ⟨as, rd⟩ := r.reads
  cases r with
  | @lst _ o vs n xs e1 e2 e3 rs =>
    obtain ⟨bs, am, ks⟩ := RSs.repr (prog := prog) (w := w) rs (by simp only [PyData.showable] at sw; exact sw) (fit_l z)
    have no : a ∉ bs := not_mem_of_deeper rd (by rw [dep_l]; exact Nat.lt_succ_self _) am
    rw [dep_l] at hu
    refine call_repr_slot (by omega) ⟨o, e1, e2⟩ F.slot_list_repr.toG ?_
    simp only [PyData.shown] at q z
    obtain ⟨l⟩ := vs
    match l, rs, ks with
    | [], rs, ks =>
      cases (show RSs s.heap [] xs from rs)
      simp only [PyData.shownAll] at q
      rw [listText_nil] at q
      exact call_list_repr_empty ⟨o, e1, e2⟩ e1 e3 ⟨_, _, rfl, q s.heap _ _ fun _ _ e => e⟩
    | x :: l, rs, ks => exact call_list_reprK e1 e2 e3 no (by have := ks.length_eq; simpa using this) (fun i y ey => ks.item i y (by simpa using ey)) hG (fun b _ => Clear.nil b) (by show A.units + 1 + _ < cLine; omega) (fun _ _ e => e) (fun h' u tk k => ⟨_, _, rfl, q h' u tk k⟩) z
  | @tup _ o vs n xs e1 e2 e3 rs =>
    obtain ⟨bs, am, ks⟩ := RSs.repr (prog := prog) (w := w) rs (by simp only [PyData.showable] at sw; exact sw) (fit_t z)
    have no : a ∉ bs := not_mem_of_deeper rd (by rw [dep_t]; exact Nat.lt_succ_self _) am
    rw [dep_t] at hu
    refine call_repr_slot (by omega) ⟨o, e1, e2⟩ F.slot_tuple_repr ?_
    simp only [PyData.shown] at q z
    exact call_tuple_reprK e1 e2 e3 no ks hG (fun b _ => Clear.nil b) (by show A.units + 1 + _ < cLine; omega) (fun _ _ e => e) (fun h' u tk k => ⟨_, _, rfl, q h' u tk k⟩) z
  | @dct _ o es n kvs sy e1 e2 e3 s1 s2 =>
    simp only [PyData.showable] at sw
    obtain ⟨w1, w2⟩ := PyData.showableKv_split kvs sw
    obtain ⟨b1, a1, k1⟩ := RSs.repr (prog := prog) (w := w) s1 w1 (fit_k z)
    obtain ⟨b2, a2, k2⟩ := RSs.repr (prog := prog) (w := w) s2 w2 (fit_v z)
    have am : ReadAtMost s.heap (PyData.depthKv kvs) (b1 ++ b2) := ReadAtMost.append (a1.mono (PyData.depthAll_keys_le kvs)) (a2.mono (PyData.depthAll_vals_le kvs))
    have no : a ∉ b1 ++ b2 := not_mem_of_deeper rd (by rw [dep_d]; exact Nat.lt_succ_self _) am
    rw [dep_d] at hu
    refine call_repr_slot (by omega) ⟨o, e1, e2⟩ F.slot_dict_repr ?_
    simp only [PyData.shown] at q z
    exact call_dict_reprK e1 e2 e3 sy no (ent_of k1 k2) hG (fun b _ => Clear.nil b) (by show A.units + 1 + _ < cLine; omega) (fun _ _ e => e) (fun h' u tk k => ⟨_, _, rfl, q h' u tk k⟩) z
end

mutual
/-- nothing raw -/
def D.nr : D → Bool
  | .non => true
  | .bl _ => true
  | .int _ => true
  | .str _ => true
  | .lst ds => D.nrs ds
  | .tup ds => D.nrs ds
  | .dct kvs => D.nrk kvs
  | .err _ _ => false
  | .raw _ => false
def D.nrs : List D → Bool
  | [] => true
  | d :: ds => d.nr && D.nrs ds
def D.nrk : List (D × D) → Bool
  | [] => true
  | (a, b) :: r => a.nr && b.nr && D.nrk r
end
theorem nrk_split : ∀ kvs : List (D × D), D.nrk kvs = true → D.nrs (kvs.map (·.1)) = true ∧ D.nrs (kvs.map (·.2)) = true
  | [], _ => by simp [D.nrs]
  | (a, b) :: r, h => by
    simp only [D.nrk, Bool.and_eq_true] at h
    obtain ⟨h1, h2⟩ := nrk_split r h.2
    simp [D.nrs, h.1.1, h.1.2, h1, h2]
theorem ent_vals {P : Program} {w : World} : ∀ {es : List DictEntry} {vs : List (Key × Value)} {kvs : List (Key × V)}, Pairs (mixKind P w) es vs → KV kvs vs → Vals (kvs.map fun p => kV p.1) (es.map (·.key)) ∧ Vals (kvs.map (·.2)) (es.map (·.val))
  | _, _, _, .nil, .nil => ⟨.nil, .nil⟩
  | e :: es, kv :: vs, p :: kvs, .cons hk hv hr, .cons hp hps => by
    obtain ⟨i1, i2⟩ := ent_vals hr hps
    obtain ⟨hp1, hp2⟩ := hp
    have rk : RelV (kV p.1) e.key := by
      rw [hp1]
      rcases keyIs_shape hk with ⟨i, t, e1, e2⟩ | ⟨x, t, e1, e2⟩
      · rw [e1, e2]; exact ⟨t, rfl⟩
      · rw [e1, e2]; exact ⟨t, rfl⟩
    have rv : RelV p.2 e.val := by rw [hv]; exact hp2
    exact ⟨.cons rk i1, .cons rv i2⟩
section
variable {X : Cx} {pins : List (Addr × Obj)} {σ : L2.St} {H : Hp} {s : Shared} {B : Addr → Prop}
mutual
theorem rs_of (I : Inv X pins σ H s) : ∀ {v : V} {d : D} {u : Value}, DV X.K B H v d → d.nr = true → RelV v u → RS s.heap u d.py
  | _, _, _, .non, _, r => by cases r; simp only [D.py]; exact .non
  | _, _, _, .bl b, _, r => by cases r; simp only [D.py]; exact .bl b
  | _, _, _, .int i, _, r => by obtain ⟨t, rfl⟩ := r; simp only [D.py]; exact .int i t
  | _, _, _, .str x, _, r => by obtain ⟨t, rfl⟩ := r; simp only [D.py]; exact .str x t
  | _, _, _, .lst h hs, p, r => by
    cases r
    simp only [D.nr] at p
    simp only [D.py]
    obtain ⟨its, rv, ⟨o, n, e, c1, _, c2⟩, _⟩ := I.list h.sq
    exact .lst e c1 c2 (by simpa using rss_of I hs p rv)
  | _, _, _, .tup h hs, p, r => by
    cases r
    simp only [D.nr] at p
    simp only [D.py]
    obtain ⟨its, rv, ⟨o, e, c1, n, c2⟩, _⟩ := I.tuple h.sq
    exact .tup e c1 c2 (by simpa using rss_of I hs p rv)
  | _, _, _, @DV.dct _ _ _ a kvs ds _ ha h1 h2, p, r => by
    cases r
    simp only [D.nr] at p
    simp only [D.py]
    obtain ⟨p1, p2⟩ := nrk_split ds p
    obtain ⟨_, hsy, vs, rk, o, es, ep, ho, hx, hd, _, hp, _⟩ := (show ObjOk X.prog X.w H s.heap a (.dK kvs) from I.hok a _ ha)
    obtain ⟨v1, v2⟩ := ent_vals hp rk
    refine .dct (by simpa using hsy) ho hx.1 hd ?_ ?_
    · rw [pyKv_fst]
      exact rss_of I h1 p1 v1
    · rw [pyKv_snd]
      exact rss_of I h2 p2 v2
  | _, _, _, .err _ _ _ _ _ _, p, _ => by simp [D.nr] at p
  | _, _, _, .err0 _ _, p, _ => by simp [D.nr] at p
  | _, _, _, .raw v, p, _ => by simp [D.nr] at p
theorem rss_of (I : Inv X pins σ H s) : ∀ {vs : List V} {ds : List D} {us : List Value}, DVs X.K B H vs ds → D.nrs ds = true → Vals vs us → RSs s.heap us (D.pys ds)
  | _, _, _, .nil, _, .nil => by simp only [D.pys]; exact .nil
  | _, _, _, .cons x xs, p, .cons r rs => by
    simp only [D.nrs, Bool.and_eq_true] at p
    simp only [D.pys]
    exact .cons (rs_of I x p.1 r) (rss_of I xs p.2 rs)
end
end
def rReprS (K : PySem.W.Frag) : List V → Hp → VK → Prop := fun xs H Q =>
  ∃ (x : V) (d : D) (B : Addr → Prop), xs = [x] ∧ DV K B H x d ∧ d.nr = true ∧ d.py.showable = true ∧ d.py.depth ≤ 64 ∧ d.py.shown.length ≤ sizeLine ∧ Q (.str d.py.shown) H
theorem call_reprS {X : Cx} (hG : X.A.guards = some []) (hu : X.A.units + 70 < cLine) : CallR X (.builtin "repr") (rReprS X.K) := by
  intro pins s σ H xs us Q I r h
  obtain ⟨x, d, B, rfl, dv, nr, sw, dp, sz, q⟩ := h
  obtain ⟨u, rfl, rx⟩ := vals1 r
  have rs := rs_of I dv nr rx
  cases dv with
  | non =>
    cases rx
    simp only [D.py, PyData.shown] at q
    exact PySem.P.repr_of_none ⟨.str _, H, I.tok _, ⟨_, rfl⟩, q⟩
  | bl b =>
    cases rx
    simp only [D.py, PyData.shown] at q
    exact PySem.P.repr_of_bool ⟨.str _, H, I.tok _, ⟨_, rfl⟩, q⟩
  | int i =>
    obtain ⟨t, rfl⟩ := rx
    simp only [D.py, PyData.shown] at q
    exact PySem.P.repr_of_int (by simpa [D.py, PyData.showable] using sw) ⟨.str _, H, I.tok _, ⟨_, rfl⟩, q⟩
  | str z =>
    obtain ⟨t, rfl⟩ := rx
    simp only [D.py, PyData.shown] at q sz
    exact PySem.P.repr_of_str ⟨.str _, H, I.tok _, ⟨_, rfl⟩, q⟩ sz
  | lst hl hs =>
    cases rx
    exact repr_RS rs sw sz hG (by omega) fun h' u tk k => ⟨.str _, H, I.kept k, ⟨_, rfl⟩, q⟩
  | tup hl hs =>
    cases rx
    exact repr_RS rs sw sz hG (by omega) fun h' u tk k => ⟨.str _, H, I.kept k, ⟨_, rfl⟩, q⟩
  | dct n ha h1 h2 =>
    cases rx
    exact repr_RS rs sw sz hG (by omega) fun h' u tk k => ⟨.str _, H, I.kept k, ⟨_, rfl⟩, q⟩
  | err _ _ _ _ _ _ => simp [D.nr] at nr
  | err0 _ _ => simp [D.nr] at nr
  | raw v => simp [D.nr] at nr
theorem rc_reprS {W : Wd} {S : D → Prop} {d : D} (nr : d.nr = true) (sw : d.py.showable = true) (dp : d.py.depth ≤ 64) (sz : d.py.shown.length ≤ sizeLine) (s : S (.str d.py.shown)) : Rc W (rReprS W.K) [d] S := fun H xs hi dx Q q => by
  cases dx with
  | cons h1 h2 =>
    cases h2
    exact ⟨_, d, W.B, rfl, h1, nr, sw, dp, sz, q _ H _ (W.rfl' H) hi s (.str _)⟩
end Lb

/-! LbZ: errors, enumerate, [x] * n over data. -/
namespace Lb
open PySem PySem.Spec PyProof.Rows L2
open PySem.W PySem.Calls
open Evl (Ex)
section
variable {W : Wd} {ρ : List (Option D)} {S : D → Prop} {te : TE} {ta : TA}
theorem ev_mkE {C : Addr} {ps : List Str} (h : Ea W ta ρ fun ds => ds.length = ps.length ∧ S (.err C (ps.zip ds))) : Ev W (tMkE C ps ta) ρ S := fun σ H e hi Q q =>
  h σ H e hi _ fun vs H1 ds r1 i1 s dv => ⟨by rw [dv.len]; exact s.1, fun a dx na nd ne => by
    have n2 : upd H1 dx (exd dx (ps.zip vs)) a = none := by rw [upd_ne ne]; exact na
    have ex : Ex H1 (upd (upd H1 dx (exd dx (ps.zip vs))) a (exo a C (some dx))) := Evl.Ex.trans (Evl.Ex.new nd) (Evl.Ex.new n2)
    refine q _ _ _ (W.trans' r1 (W.ofEx ex)) (W.inv ex i1) s.2 (.err (W.fresh i1 na) (W.fresh i1 nd) upd_same (by rw [upd_ne (Ne.symm ne)]; exact upd_same) ?_ ?_)
    · rw [zip_fst (by rw [dv.len]; exact s.1.symm), zip_fst s.1.symm]
    · rw [zip_snd (by rw [dv.len]; exact s.1.symm), zip_snd s.1.symm]
      exact dv.mono (Xt.of ex)⟩
theorem ev_mkB {C : Addr} (h : Ea W ta ρ fun ds => ds.length ≤ 1000 ∧ S (.err C [])) : Ev W (tMkB C ta) ρ S := fun σ H e hi Q q =>
  h σ H e hi _ fun vs H1 ds r1 i1 s dv => ⟨by rw [dv.len]; exact s.1, fun a na => by
    have ex : Ex H1 (upd H1 a (exo a C none)) := Evl.Ex.new na
    exact q _ _ _ (W.trans' r1 (W.ofEx ex)) (W.inv ex i1) s.2 (.err0 (W.fresh i1 na) upd_same)⟩
theorem lookup_dv {K : Frag} {B : Addr → Prop} {H : Hp} {f : Str} {d : D} : ∀ {fvs : List (Str × V)} {fds : List (Str × D)}, fvs.map (·.1) = fds.map (·.1) → DVs K B H (fvs.map (·.2)) (fds.map (·.2)) → fds.lookup f = some d → ∃ v, fvs.lookup f = some v ∧ DV K B H v d
  | [], [], _, _, h => by cases h
  | [], _ :: _, h, _, _ => by simp at h
  | _ :: _, [], h, _, _ => by simp at h
  | (a, v) :: fvs, (b, c) :: fds, hm, hd, h => by
    simp only [List.map_cons, List.cons.injEq] at hm
    obtain ⟨rfl, hm⟩ := hm
    cases hd with
    | cons h1 h2 =>
      rw [List.lookup_cons] at h
      rw [List.lookup_cons]
      cases e : f == a with
      | true =>
        rw [e] at h
        cases h
        exact ⟨v, rfl, h1⟩
      | false =>
        rw [e] at h
        exact lookup_dv hm h2 h
theorem ev_fldE {f : Str} (h : Ev W te ρ fun d => ∃ C fs d', d = .err C fs ∧ XfC W.K C ∧ findIn W.K (.ref C) f = some none ∧ fs.lookup f = some d' ∧ S d') : Ev W (tFldE W.K f te) ρ S := fun σ H e hi Q q =>
  h σ H e hi _ fun x H1 d r1 i1 s dx => by
    obtain ⟨C, fs, d', rfl, T, hno, hl, s⟩ := s
    cases dx with
    | @err a ax _ fvs _ n1 n2 h1 h2 hm hs =>
      obtain ⟨v, hv, dv⟩ := lookup_dv hm hs hl
      exact ⟨a, C, ax, fvs, v, rfl, h1, h2, T, hno, hv, q v H1 d' r1 i1 s dv⟩
    | err0 n1 h1 => cases hl
theorem rc_isiE {C : Addr} {fs : List (Str × D)} {c : V} {u : Value} {b : Bool} (hc : ClsV c u) (T : IsE W.K C) (hk : kitOne W.K (.ref C) u = some b) (s : S (.bl b)) : Rc W (rIsiE W.K) [.err C fs, .raw c] S := fun H xs hi dx Q q => by
  cases dx with
  | cons h1 h2 =>
    cases h2 with
    | cons h3 h4 =>
      cases h4
      cases h3
      cases h1 with
      | err n1 n2 e1 e2 hm hs => exact ⟨_, C, c, u, b, rfl, hc, Or.inr ⟨_, _, e1, e2⟩, T, hk, q _ H _ (W.rfl' H) hi s (.bl b)⟩
      | err0 n1 e1 => exact ⟨_, C, c, u, b, rfl, hc, Or.inl e1, T, hk, q _ H _ (W.rfl' H) hi s (.bl b)⟩
/-- [x] * n -/
theorem ev_rep1 {n : Int} (h0 : 0 ≤ n) (h1 : n ≤ 100000) (h : Ev W te ρ fun d => S (.lst (List.replicate n.toNat d))) : Ev W (tOp rRep (tLst (tCons te tNil)) (tC (.int n))) ρ S := fun σ H e hi Q q =>
  h σ H e hi _ fun x H1 d r1 i1 s dx => by
    refine ⟨by show 1 ≤ sizeLine; decide, fun p np => ?_⟩
    have ex1 : Ex H1 (upd H1 p (.lst [x])) := Evl.Ex.new np
    refine ⟨p, n, [x], rfl, rfl, upd_same, by omega, by omega, szn (by simp; omega), fun p2 np2 => ?_⟩
    have ex2 : Ex (upd H1 p (.lst [x])) (upd (upd H1 p (.lst [x])) p2 (.lst (List.replicate n.toNat [x]).flatten)) := Evl.Ex.new np2
    have ex := Evl.Ex.trans ex1 ex2
    have i2 := W.inv ex1 i1
    refine q _ _ _ (W.trans' r1 (W.ofEx ex)) (W.inv ex i1) s (.lst (Or.inl ⟨W.fresh i2 np2, Or.inl upd_same⟩) ?_)
    have key : ∀ k : Nat, DVs W.K W.B H1 (List.replicate k [x]).flatten (List.replicate k d) := by
      intro k
      induction k with
      | zero => exact .nil
      | succ k ih => exact .cons dx ih
    exact (key _).mono (Xt.of ex)
/-- True in a list of truths -/
theorem rb_inB {bs : List Bool} {b : Bool} (s : S (.bl (bs.any fun c => c == b))) : Rb W (rIn W.K false) (.bl b) (.lst (bs.map D.bl)) S := fun H x y hi dx dy Q q => by
  cases dx
  cases dy with
  | lst hl hs =>
    have e := bls_of hs
    subst e
    have fl : (bs.map V.bl).all flatV = true := by
      rw [List.all_eq_true]
      intro z hz
      obtain ⟨c, _, rfl⟩ := List.mem_map.mp hz
      rfl
    refine ⟨_, _, rfl, Or.inl hl.sq, rfl, fl, ?_⟩
    have e2 : inV (.bl b) (bs.map V.bl) = bs.any fun c => c == b := by
      unfold inV
      rw [List.any_map]
      have ef : (fun y => eqV y (.bl b)) ∘ V.bl = fun c => c == b := by
        funext c
        cases c <;> cases b <;> rfl
      rw [ef]
    show Q (.bl (if false = true then _ else inV (.bl b) (bs.map V.bl))) H
    rw [if_neg Bool.false_ne_true, e2]
    exact q _ H _ (W.rfl' H) hi s (.bl _)
end
/-! ### enumerate -/
def enumD : Nat → List D → List D
  | _, [] => []
  | k, d :: ds => .tup [.int (k : Nat), d] :: enumD (k + 1) ds
theorem enumD_len : ∀ (k : Nat) (ds : List D), (enumD k ds).length = ds.length
  | _, [] => rfl
  | k, d :: ds => by rw [enumD, List.length_cons, enumD_len (k + 1) ds, List.length_cons]
theorem enumD_get : ∀ {k : Nat} {ds : List D} {i : Nat} {d : D}, ds[i]? = some d → (enumD k ds)[i]? = some (.tup [.int ((k + i : Nat) : Int), d])
  | k, [], i, d, h => by simp at h
  | k, c :: ds, 0, d, h => by
    simp at h
    subst h
    rfl
  | k, c :: ds, i + 1, d, h => by
    have := enumD_get (k := k + 1) (ds := ds) (i := i) (d := d) (by simpa using h)
    rw [enumD, List.getElem?_cons_succ, this]
    have e : k + 1 + i = k + (i + 1) := by omega
    rw [e]
theorem enumD_of {k : Nat} {ds : List D} {i : Nat} {e : D} (h : (enumD k ds)[i]? = some e) : ∃ d, ds[i]? = some d ∧ e = .tup [.int ((k + i : Nat) : Int), d] := by
  have hl : i < ds.length := by
    have := (List.getElem?_eq_some_iff.mp h).1
    rwa [enumD_len] at this
  have e1 : ds[i]? = some ds[i] := List.getElem?_eq_getElem hl
  have e2 := enumD_get (k := k) e1
  rw [h] at e2
  exact ⟨_, e1, Option.some.inj e2⟩
section
variable {K : Frag} {B : Addr → Prop} {H0 : Hp}
theorem dit_enum {a : Addr} {xs : List V} {ds : List D} (h : LB K B H0 a xs) (hs : DVs K B H0 xs ds) : DIt K B (Ite K a) H0 (enumD 0 ds) := by
  intro B' H w e hf
  have h1 : SqL K H a xs := ((h.weak w).mono e).sq
  have hl := hs.len
  rw [enumD_len]
  refine ⟨fun i hi => ⟨xs, xs[i]'(by omega), h1, by simp [hl, hi]⟩, ⟨xs, h1, by omega⟩, fun i x H' hi y => ?_⟩
  obtain ⟨T, v, rfl, nT, rfl, hv⟩ := y
  have ex : Ex H (upd H T (.tup [.int (i : Nat), v])) := Evl.Ex.new nT
  have e1 : ds[i]? = some ds[i] := List.getElem?_eq_getElem hi
  obtain ⟨v', h2, h3⟩ := ((hs.weak w).mono e).get e1
  rw [hv xs h1] at h2
  cases h2
  refine ⟨ex, _, enumD_get (k := 0) e1, .tup (Or.inl ⟨hf T nT, Or.inl upd_same⟩) (.cons ?_ (.cons (h3.mono (Xt.of ex)) .nil))⟩
  rw [Nat.zero_add]
  exact .int _
end
theorem iw_enum {W : Wd} {ρ : List (Option D)} {P : List D → Prop} {te : TE} (h : Ev W te ρ fun d => ∃ ds, d = .lst ds ∧ P (enumD 0 ds)) : Iw W (iEnum W.K (tCons te tNil)) ρ P := fun σ H e hi Rk q =>
  h σ H e hi _ fun x H1 d r1 i1 s dx => by
    obtain ⟨ds, rfl, s⟩ := s
    cases dx with
    | lst hl hs => exact ⟨_, _, rfl, hl.sq, q _ H1 _ r1 i1 (dit_enum hl hs) s⟩
end Lb

/-! LbQ: what the top says of the own error classes, gathered. -/
namespace Lb
open PySem PySem.Spec PyProof.Rows L2
open PySem.W PySem.Calls
open Evl (Ex)
abbrev veM : List Value := [.type "ValueError", .type "Exception", .type "BaseException", .type "object"]
structure OwnK (K : Frag) (mg : Str → Option Value) (x : Str) (C : Addr) (ms : List Value) : Prop where
  at_ : mg x = some (.ref C)
  oex : OexC K C
  isE : IsE K C
  xf : XfC K C
  mro : (clsIn K C).map (·.mro) = some ms
structure OwnX (P : Program) (K : Frag) (mg : Str → Option Value) (x : Str) (C : Addr) (ms : List Value) (st : Stmt) (ps : List Str) : Prop extends OwnK K mg x C ms where
  ini : ∃ f, OwnI P K C f st
  no : ∀ p ∈ ps, findIn K (.ref C) p = some none
structure OwnY (K : Frag) (mg : Str → Option Value) (x : Str) (C : Addr) (ms : List Value) : Prop extends OwnK K mg x C ms where
  ini : findIn K (.ref C) "__init__" = some (some (.builtin "ValueError.__init__"))
theorem kit_same {K : Frag} {C : Addr} : kitOne K (.ref C) (.ref C) = some true := by
  unfold kitOne
  rw [if_pos (by simp)]
theorem mro_of {K : Frag} {mg : Str → Option Value} {x : Str} {C : Addr} {ms : List Value} (h : OwnK K mg x C ms) (hn : ms.isEmpty = false) (b : Value) : mroIn K C b = some (ms.contains b) := by
  have hm := h.mro
  cases e : clsIn K C with
  | none => rw [e] at hm; cases hm
  | some cd =>
    rw [e] at hm
    have e2 : cd.mro = ms := Option.some.inj hm
    unfold mroIn
    rw [e, Option.bind_some, e2, hn]
    rfl
theorem kit_cls' {K : Frag} {mg : Str → Option Value} {x y : Str} {C D : Addr} {ms ns : List Value} (h : OwnK K mg x C ms) (g : OwnK K mg y D ns) (hn : ms.isEmpty = false) (ne : C ≠ D) : kitOne K (.ref C) (.ref D) = some (ms.contains (.ref D)) := by
  unfold kitOne
  rw [if_neg (by simpa using ne)]
  unfold kitCls
  have t := g.oex.tyC
  have c := g.isE.cl
  show (if ((clsIn K D).isSome && typeIn K (.ref D) == some (.type "type")) = true then subIn K (.ref C) (.ref D) else none) = _
  rw [c, t, if_pos (by decide)]
  exact mro_of h hn _
theorem kit_ty {K : Frag} {mg : Str → Option Value} {x : Str} {C : Addr} {ms : List Value} (h : OwnK K mg x C ms) (hn : ms.isEmpty = false) {T : String} (hT : kitMeta T = true) : kitOne K (.ref C) (.type T) = some (ms.contains (.type T)) := by
  unfold kitOne
  rw [if_neg (by simp)]
  unfold kitCls
  show (if kitMeta T = true then subIn K (.ref C) (.type T) else none) = _
  rw [if_pos hT]
  exact mro_of h hn _
section
variable {X : Cx} {x : Str} {C : Addr} {ms : List Value} {st : Stmt} {ps : List Str} {e : Expr} {es : List Expr} {ta : TA} {p pos : Pos} {k : Nat}
/-- the top's own facts for super() -/
structure SupG (P : Program) (K : Frag) (mg : Str → Option Value) : Prop where
  gs : mg "super" = none
  opq : nsIn K cStatics "thirdparty.any" = some none
  htop : (P.main.scope.names.lookup ("super" : Str)).isSome = false
theorem pe_ownX (O : OwnX X.prog X.K X.mg x C ms st ps) (G : SupG X.prog X.K X.mg) (S : ScI st ps) (hr : Room k X.A) (hk : 1 ≤ k) (hg : Gl X x) (ha : PA X (e :: es) ta)
    (hdb : (x == ("__debug__" : Str)) = false := by decide) (he : starEach (e :: es) X.env = (false, eval e X.env) :: starEach es X.env := by rfl) (hpl : (backTo pos (starEach es X.env)).any (·.1) = false := by rfl) :
    PE X (.Call (.Name x p) (e :: es) [] pos) (tMkE C ps ta) := by
  obtain ⟨f, I⟩ := O.ini
  exact pe_mkE (k := 0) I S O.no G.gs G.opq G.htop (hr.mono hk) hg O.at_ ha hdb he hpl
theorem pe_ownY (O : OwnY X.K X.mg x C ms) (hg : Gl X x) (ha : PA X (e :: es) ta)
    (hdb : (x == ("__debug__" : Str)) = false := by decide) (he : starEach (e :: es) X.env = (false, eval e X.env) :: starEach es X.env := by rfl) (hpl : (backTo pos (starEach es X.env)).any (·.1) = false := by rfl) :
    PE X (.Call (.Name x p) (e :: es) [] pos) (tMkB C ta) := pe_mkB O.oex O.ini hg O.at_ ha hdb he hpl
theorem pe_ownY0 (O : OwnY X.K X.mg x C ms) (hg : Gl X x) (hdb : (x == ("__debug__" : Str)) = false := by decide) : PE X (.Call (.Name x p) [] [] pos) (tMkB C tNil) := pe_mkB0 O.oex O.ini hg O.at_ hdb
end
/-! ### from the written part -/
/-- a class object of such a class -/
theorem oex_mk {K : Frag} {C N : Addr} {nm q : Str} {bs bm : List Value} {sn : List Str} {sub : List Value} {ab : Bool} {col : Option Bool} {dd : Option Addr} {k0 k1 k2 k3 k5 : Option Value}
    (l : K.lookup C = some (excClassObj nm q C N bs bm true sn sub ab col dd k0 k1 k2 k3 k5 "ValueError.__new__")) (hbm : HandSPX.refsVE bm = true)
    (sa : findIn K (.ref C) "__setattr__" = some (some (.builtin "object.__setattr__"))) (exC : subIn K (.ref C) (.type "BaseException") = some true) (kC : keepIn K (.ref C) = true) : OexC K C :=
  ⟨⟨nm, q, N, bs, bm, sn, sub, ab, col, dd, k0, k1, k2, k3, k5, l, hbm⟩, sa, exC, by show (K.lookup C).map (·.cls) = _; rw [l]; rfl, kC⟩
theorem ownK_mk {K : Frag} {h : Heap} {mg : Str → Option Value} (X : K.In h) (G : h.Ns mainGlobals mg) {x : Str} {C N : Addr} {nm q : Str} {bs bm : List Value} {sn : List Str} {sub : List Value} {ab : Bool} {col : Option Bool} {dd : Option Addr} {k0 k1 k2 k3 k5 : Option Value}
    (a : nsIn K mainGlobals x = some (some (.ref C)))
    (l : K.lookup C = some (excClassObj nm q C N bs bm true sn sub ab col dd k0 k1 k2 k3 k5 "ValueError.__new__")) (hbm : HandSPX.refsVE bm = true)
    (sa : findIn K (.ref C) "__setattr__" = some (some (.builtin "object.__setattr__"))) (kC : keepIn K (.ref C) = true)
    (ga : findIn K (.ref C) "__getattribute__" = some (some (.builtin "BaseException.__getattribute__"))) (gg : findIn K (.ref C) "__getattr__" = some none) (ca : findIn K (.ref C) "__class__" = some (some (.builtin "object.__class__"))) : OwnK K mg x C (.ref C :: bm) := by
  have hcl : clsIn K C = some { name := nm, bases := bs, mro := .ref C :: bm, ns := N, qualname := q, hasDict := true, slotNames := sn, subclasses := sub, abstract := ab, collection := col, hasDel := false } := by unfold clsIn; rw [l] <;> rfl
  have mr : ∀ b, mroIn K C b = some ((Value.ref C :: bm).contains b) := fun b => by
    unfold mroIn
    rw [hcl]
    rfl
  have ct : ∀ Y : String, (Value.ref C :: bm).contains (.type Y) = HandSPX.veTail.contains (.type Y) := fun Y => by
    rw [List.contains_cons, HandSPX.refsVE_contains Y bm hbm]
    rfl
  have exC : subIn K (.ref C) (.type "BaseException") = some true := (mr _).trans (by rw [ct]; decide +kernel)
  have mo : mroIn K C (.type "object") = some true := (mr _).trans (by rw [ct]; decide +kernel)
  have hd : hasDictIn K C = true := by
    unfold hasDictIn
    rw [hcl]
    rfl
  exact ⟨mg_of X G a, oex_mk l hbm sa exC kC, ⟨by rw [hcl]; rfl, ga, gg, exC, ca, mo⟩, ⟨ga, gg, exC, hd⟩, by rw [hcl]; rfl⟩
theorem ownI_mk {P : Program} {K : Frag} {mg : Str → Option Value} {x : Str} {C f : Addr} {ms : List Value} {st : Stmt} {name qual : Str} {oc kV doc pm ct ccl cl : Value} {od an cdd cld : Option Addr} {cda cc : Addr} {osl ccs csl : Array (Option Value)} {vs : Array Value} {file : Str} {tf : Tok}
    (O : OwnK K mg x C (.ref C :: ms)) (hve : HandSPX.refsVE ms = true) (ini : findIn K (.ref C) "__init__" = some (some (.ref f))) (sup : ks_superIn K C C "__init__" = some (some (.builtin "ValueError.__init__")))
    (hf : K.lookup f = some ⟨oc, od, .func (ksFn name qual (defArgs st) (defBody st) (defScope st) .none kV doc pm an (.ref cda) ct cc), osl⟩) (hoc : oc = .type "function") (hci : codeIn K (.ref cda) qual = true)
    (hcode : K.lookup cda = some ⟨ccl, cdd, .fields vs, ccs⟩) (hvs : vs[2]? = some (.str file tf)) (hfile : ((P.main.file : Str) == file) = true) (hcell : K.lookup cc = some ⟨cl, cld, .cell (some (.ref C)), csl⟩) : OwnI P K C f st := by
  refine ⟨O.oex, ⟨name, qual, oc, od, kV, doc, pm, an, cda, ct, cc, osl, hf, hci, ⟨ccl, cdd, vs, ccs, file, tf, hcode, hvs, hfile⟩, cl, cld, csl, hcell⟩, ?_, sup, ?_, ini, ?_⟩
  · rw [mro_of O rfl, List.contains_cons]
    simp
  · show mroIn K C (.type "ValueError") = some true
    rw [mro_of O rfl, List.contains_cons, HandSPX.refsVE_contains "ValueError" ms hve, show HandSPX.veTail.contains (.type "ValueError") = true from by decide +kernel, Bool.or_true]
  · show (K.lookup f).map (·.cls) = _
    rw [hf, hoc]
    rfl

/-- super() of a class right over BackError finds what BackError finds -/
theorem sup_of {K : Frag} {mg : Str → Option Value} {x y n : Str} {C D : Addr} {ms : List Value} {r : Option (Option Value)} (O : OwnK K mg x C (.ref C :: ms)) (B : OwnK K mg y D ms) (h : findIn K (.ref D) n = r) : ks_superIn K C C n = r := by
  have h1 := O.mro
  have h2 := B.mro
  cases e1 : clsIn K C with
  | none => rw [e1] at h1; cases h1
  | some c1 =>
    cases e2 : clsIn K D with
    | none => rw [e2] at h2; cases h2
    | some c2 =>
      rw [e1] at h1
      rw [e2] at h2
      have m1 : c1.mro = .ref C :: ms := Option.some.inj h1
      have m2 : c2.mro = ms := Option.some.inj h2
      have hd : ((Value.ref C :: ms).dropWhile (· != .ref C)).drop 1 = ms := by simp [List.dropWhile_cons]
      unfold ks_superIn
      rw [e1, Option.bind_some, m1, hd, ← m2, ← h]
      unfold clsIn at e2
      unfold findIn
      split at e2
      · rename_i ho
        cases e2
        simp only [ho]
      · cases e2
end Lb

/-! LbQ2: the facts of an own error class, from what k_is finds. -/
namespace Lb
open PySem PySem.Spec PyProof.Rows L2
open PySem.W PySem.Calls
theorem all1 {p : Str} {F : Str → Prop} (h : F p) : ∀ q ∈ [p], F q := fun q hq => by rw [List.mem_singleton.mp hq]; exact h
theorem all2 {p r : Str} {F : Str → Prop} (h : F p) (g : F r) : ∀ q ∈ [p, r], F q := fun q hq => by
  rcases List.mem_cons.mp hq with rfl | hq
  · exact h
  · exact all1 g q hq
theorem all3 {p r s : Str} {F : Str → Prop} (h : F p) (g : F r) (k : F s) : ∀ q ∈ [p, r, s], F q := fun q hq => by
  rcases List.mem_cons.mp hq with rfl | hq
  · exact h
  · exact all2 g k q hq
theorem mkY {K : Frag} {h : Heap} {mg : Str → Option Value} (X : K.In h) (G : h.Ns mainGlobals mg) {x : Str} {C N : Addr} {nm q : Str} {bs bm : List Value} {sn : List Str} {sub : List Value} {ab : Bool} {col : Option Bool} {dd : Option Addr} {k0 k1 k2 k3 k5 : Option Value}
    (hbm : HandSPX.refsVE bm = true) (a : nsIn K mainGlobals x = some (some (.ref C)))
    (l : K.lookup C = some (excClassObj nm q C N bs bm true sn sub ab col dd k0 k1 k2 k3 k5 "ValueError.__new__"))
    (sa : findIn K (.ref C) "__setattr__" = some (some (.builtin "object.__setattr__"))) (kC : keepIn K (.ref C) = true)
    (ga : findIn K (.ref C) "__getattribute__" = some (some (.builtin "BaseException.__getattribute__"))) (gg : findIn K (.ref C) "__getattr__" = some none) (ca : findIn K (.ref C) "__class__" = some (some (.builtin "object.__class__")))
    (ini : findIn K (.ref C) "__init__" = some (some (.builtin "ValueError.__init__"))) : OwnY K mg x C (.ref C :: bm) :=
  ⟨ownK_mk X G a l hbm sa kC ga gg ca, ini⟩
theorem mkX {P : Program} {K : Frag} {h : Heap} {mg : Str → Option Value} (X : K.In h) (G : h.Ns mainGlobals mg) {x y : Str} {C N D f : Addr} {nm q : Str} {bs bm : List Value} {sn : List Str} {sub : List Value} {ab : Bool} {col : Option Bool} {dd : Option Addr} {k0 k1 k2 k3 k5 : Option Value}
    {st : Stmt} {ps : List Str} {name qual : Str} {oc kV doc pm ct ccl cl : Value} {od an cdd cld : Option Addr} {cda cc : Addr} {osl ccs csl : Array (Option Value)} {vs : Array Value} {file : Str} {tf : Tok}
    (Bk : OwnY K mg y D bm) (hbm : HandSPX.refsVE bm = true) (hoc : oc = .type "function") (hfile : ((P.main.file : Str) == file) = true) (hvs : vs[2]? = some (.str file tf)) (a : nsIn K mainGlobals x = some (some (.ref C)))
    (l : K.lookup C = some (excClassObj nm q C N bs bm true sn sub ab col dd k0 k1 k2 k3 k5 "ValueError.__new__"))
    (sa : findIn K (.ref C) "__setattr__" = some (some (.builtin "object.__setattr__"))) (kC : keepIn K (.ref C) = true)
    (ga : findIn K (.ref C) "__getattribute__" = some (some (.builtin "BaseException.__getattribute__"))) (gg : findIn K (.ref C) "__getattr__" = some none) (ca : findIn K (.ref C) "__class__" = some (some (.builtin "object.__class__")))
    (ini : findIn K (.ref C) "__init__" = some (some (.ref f)))
    (hf : K.lookup f = some ⟨oc, od, .func (ksFn name qual (defArgs st) (defBody st) (defScope st) .none kV doc pm an (.ref cda) ct cc), osl⟩) (hci : codeIn K (.ref cda) qual = true)
    (hcode : K.lookup cda = some ⟨ccl, cdd, .fields vs, ccs⟩) (hcell : K.lookup cc = some ⟨cl, cld, .cell (some (.ref C)), csl⟩)
    (no : ∀ p ∈ ps, findIn K (.ref C) p = some none) : OwnX P K mg x C (.ref C :: bm) st ps := by
  have O := ownK_mk X G a l hbm sa kC ga gg ca
  exact ⟨O, ⟨f, ownI_mk O hbm ini (sup_of O Bk.toOwnK Bk.ini) hf hoc hci hcode hvs hfile hcell⟩, no⟩
end Lb

namespace K11
open PySem PySem.Spec PyProof.Rows L2 Lb
open PySem.W (ksFn)
open Evl (Ex)
/-! ### promises -/
def spBag' (K : PySem.W.Frag) (cs : Nat → Addr) : Sp := spBag K
def spTake' (K : PySem.W.Frag) (cs : Nat → Addr) : Sp := spTake K
/-- the errors as they are made of three things -/
def errD (cs : Nat → Addr) (a b c : D) : List D :=
  [.err (cs 0) [("place", a)], .err (cs 1) [("function", a), ("address", b)], .err (cs 2) [("many", a)], .err (cs 3) [("function", a), ("name", b)], .err (cs 4) [("function", a), ("address", b)], .err (cs 5) [("function", a)], .err (cs 6) [("name", a)], .err (cs 7) []] ++
  [.err (cs 8) [], .err (cs 9) [], .err (cs 10) [("at", a)], .err (cs 11) [("at", a)], .err (cs 12) [("limit", a)], .err (cs 13) [("word", a), ("function", b), ("address", c)], .err (cs 14) [("why", a)], .err (cs 15) []] ++
  [.err (cs 16) [("limit", a)], .err (cs 17) [("deed", a), ("why", b)], .err (cs 18) [("many", a)], .err (cs 19) [], .err (cs 20) []]
def spErrors (K : PySem.W.Frag) (cs : Nat → Addr) : Sp := DSp K 3 (fun _ => True) fun ds r => ∃ a b c, ds = [a, b, c] ∧ r = .lst (errD cs a b c)
def kindsD (i : Nat) : List Bool := (List.range 21).map fun j => j == i
def spKinds (K : PySem.W.Frag) (cs : Nat → Addr) : Sp := DSp K 1 (fun ds => ∃ i fs, i < 22 ∧ ds = [.err (cs i) fs]) fun ds r => ∀ i fs, i < 22 → ds = [.err (cs i) fs] → r = .lst ((kindsD i).map D.bl)
def fieldsD (a b c : D) : D := .lst [.lst (List.replicate 15 a), .lst (List.replicate 5 b), .lst [c]]
def spFields (K : PySem.W.Frag) (cs : Nat → Addr) : Sp := DSp K 1 (fun ds => ∃ a b c, ds = [.lst (errD cs a b c)]) fun ds r => ∃ a b c, ds = [.lst (errD cs a b c)] ∧ r = fieldsD a b c
def spAlike (K : PySem.W.Frag) (cs : Nat → Addr) : Sp := fun vs H Q _ => ∃ (x y : V) (B : Addr → Prop) (d : D) (n : Nat), vs = [x, y] ∧ DV K B H x d ∧ DV K B H y d ∧ d.nr = true ∧ d.py.showable = true ∧ d.py.depth ≤ 64 ∧ d.py.shown.length ≤ sizeLine ∧
  n ≤ 60 ∧ EqR K H (EqV K H n) x y ∧ Q (.bl true) H
/-- small data -/
structure Sml (d : D) : Prop where
  nr : d.nr = true
  sw : d.py.showable = true
  dp : d.py.depth ≤ 2
  ls : d.py.leavesShort 50 = true
  bk : d.py.bulk ≤ 20
/-- a thing; ms: what can be changed (B holds it); n: how long a list may be -/
inductive Th (K : PySem.W.Frag) (B : Addr → Prop) (H : Hp) (ms : List Addr) (n : Nat) : V → Prop
  | imm {v : V} {d : D} {T : String} : DV K B H v d → Sml d → d.ty = some T → T ≠ "list" → T ≠ "dict" → Th K B H ms n v
  | lst {p : Addr} {xs : List V} {ds : List D} : p ∈ ms → H p = some (.lst xs) → DVs K B H xs ds → (∀ d ∈ ds, Sml d) → ds.length ≤ n → Th K B H ms n (.ref p)
  | dct {p : Addr} {kvs : List (Key × V)} : p ∈ ms → H p = some (.dK kvs) → (kvs = [(.inr "a", .int 1)] ∨ kvs = [(.inr "a", .int 1), (.inr "b", .int 2)]) → Th K B H ms n (.ref p)
def spThing (K : PySem.W.Frag) (cs : Nat → Addr) : Sp := fun vs H Q _ => ∃ (b bl : Addr) (ns : List Int) (B : Addr → Prop), vs = [.ref b] ∧ B b ∧ BagAt K H b bl ns ∧ (∀ p, H p = none → ¬ B p) ∧
  ∀ v H' ms, Xt (· = b) H H' → BagAt K H' b bl ns → (∀ p ∈ ms, H p = none ∧ H' p ≠ none) → Th K (fun a => B a ∨ a ∈ ms) H' ms 2 v → Q v H'
def spLaw (K : PySem.W.Frag) (cs : Nat → Addr) : Sp := spEnd K
def top (i : Nat) : Stmt := PySem.Challenge.pw_landedback_k11_errors_kept.main.body.getD i (.Pass ⟨0, 0, 0, 0⟩)
abbrev s_F_law_bag : Stmt := top 24
abbrev N_F_law_bag : List Str := ["_law_script", "_law_cell"]
theorem sc_F_law_bag : FnScope N_F_law_bag ["_law_script"] (defScope s_F_law_bag) := ⟨rfl, rfl, rfl, by decide +kernel, rfl, by decide +kernel, by decide +kernel⟩
theorem bn_F_law_bag : BindsN "_law_bag" s_F_law_bag ["_law_script"] := fun _ _ _ _ _ _ us hl => match us, hl with | [_], _ => rfl
abbrev s_F_law_take : Stmt := top 25
abbrev N_F_law_take : List Str := ["_law_bag_here", "_law_many", "_law_cell", "_law_more", "_law_drawn", "_law_first", "_law_second"]
theorem sc_F_law_take : FnScope N_F_law_take ["_law_bag_here", "_law_many"] (defScope s_F_law_take) := ⟨rfl, rfl, rfl, by decide +kernel, rfl, by decide +kernel, by decide +kernel⟩
theorem bn_F_law_take : BindsN "_law_take" s_F_law_take ["_law_bag_here", "_law_many"] := fun _ _ _ _ _ _ us hl => match us, hl with | [_, _], _ => rfl
abbrev s_F_law_alike : Stmt := top 26
abbrev N_F_law_alike : List Str := ["_law_found", "_law_due"]
theorem sc_F_law_alike : FnScope N_F_law_alike ["_law_found", "_law_due"] (defScope s_F_law_alike) := ⟨rfl, rfl, rfl, by decide +kernel, rfl, by decide +kernel, by decide +kernel⟩
theorem bn_F_law_alike : BindsN "_law_alike" s_F_law_alike ["_law_found", "_law_due"] := fun _ _ _ _ _ _ us hl => match us, hl with | [_, _], _ => rfl
abbrev s_F_law_thing : Stmt := top 27
abbrev N_F_law_thing : List Str := ["_law_bag_here", "_law_some"]
theorem sc_F_law_thing : FnScope N_F_law_thing ["_law_bag_here"] (defScope s_F_law_thing) := ⟨rfl, rfl, rfl, by decide +kernel, rfl, by decide +kernel, by decide +kernel⟩
theorem bn_F_law_thing : BindsN "_law_thing" s_F_law_thing ["_law_bag_here"] := fun _ _ _ _ _ _ us hl => match us, hl with | [_], _ => rfl
abbrev s_F_law_errors : Stmt := top 28
abbrev N_F_law_errors : List Str := ["_law_a", "_law_b", "_law_c", "_law_found"]
theorem sc_F_law_errors : FnScope N_F_law_errors ["_law_a", "_law_b", "_law_c"] (defScope s_F_law_errors) := ⟨rfl, rfl, rfl, by decide +kernel, rfl, by decide +kernel, by decide +kernel⟩
theorem bn_F_law_errors : BindsN "_law_errors" s_F_law_errors ["_law_a", "_law_b", "_law_c"] := fun _ _ _ _ _ _ us hl => match us, hl with | [_, _, _], _ => rfl
abbrev s_F_law_kinds : Stmt := top 29
abbrev N_F_law_kinds : List Str := ["_law_e", "_law_found"]
theorem sc_F_law_kinds : FnScope N_F_law_kinds ["_law_e"] (defScope s_F_law_kinds) := ⟨rfl, rfl, rfl, by decide +kernel, rfl, by decide +kernel, by decide +kernel⟩
theorem bn_F_law_kinds : BindsN "_law_kinds" s_F_law_kinds ["_law_e"] := fun _ _ _ _ _ _ us hl => match us, hl with | [_], _ => rfl
abbrev s_F_law_fields : Stmt := top 30
abbrev N_F_law_fields : List Str := ["_law_some", "_law_first", "_law_second"]
theorem sc_F_law_fields : FnScope N_F_law_fields ["_law_some"] (defScope s_F_law_fields) := ⟨rfl, rfl, rfl, by decide +kernel, rfl, by decide +kernel, by decide +kernel⟩
theorem bn_F_law_fields : BindsN "_law_fields" s_F_law_fields ["_law_some"] := fun _ _ _ _ _ _ us hl => match us, hl with | [_], _ => rfl
abbrev s_F_law : Stmt := top 31
abbrev N_F_law : List Str := ["_law_script", "_law_bag_here", "_law_turn", "_law_things", "_law_some", "_law_thing_here", "_law_at", "_law_e", "_law_k"]
theorem sc_F_law : FnScope N_F_law ["_law_script"] (defScope s_F_law) := ⟨rfl, rfl, rfl, by decide +kernel, rfl, by decide +kernel, by decide +kernel⟩
theorem bn_F_law : BindsN "law" s_F_law ["_law_script"] := fun _ _ _ _ _ _ us hl => match us, hl with | [_], _ => rfl
abbrev i_Wrong : Stmt := inClass (top 2) 0
theorem si_Wrong : ScI i_Wrong ["place"] := ⟨rfl, rfl, by decide +kernel, rfl, by decide +kernel, rfl, rfl, ⟨_, rfl, rfl⟩, by decide +kernel, by decide +kernel, by decide,
  fun _ _ _ _ _ _ _ _ _ us hl => match us, hl with | [_, _], _ => rfl, ⟨_, _, _, _, _, _, _, _, fun _ => _, rfl, .cons (.nil), .cons (.nil), fun _ => rfl⟩⟩
abbrev i_BadStatement : Stmt := inClass (top 3) 0
theorem si_BadStatement : ScI i_BadStatement ["function", "address"] := ⟨rfl, rfl, by decide +kernel, rfl, by decide +kernel, rfl, rfl, ⟨_, rfl, rfl⟩, by decide +kernel, by decide +kernel, by decide,
  fun _ _ _ _ _ _ _ _ _ us hl => match us, hl with | [_, _, _], _ => rfl, ⟨_, _, _, _, _, _, _, _, fun _ => _, rfl, .cons (.cons (.nil)), .cons (.cons (.nil)), fun _ => rfl⟩⟩
abbrev i_BadCells : Stmt := inClass (top 4) 0
theorem si_BadCells : ScI i_BadCells ["many"] := ⟨rfl, rfl, by decide +kernel, rfl, by decide +kernel, rfl, rfl, ⟨_, rfl, rfl⟩, by decide +kernel, by decide +kernel, by decide,
  fun _ _ _ _ _ _ _ _ _ us hl => match us, hl with | [_, _], _ => rfl, ⟨_, _, _, _, _, _, _, _, fun _ => _, rfl, .cons (.nil), .cons (.nil), fun _ => rfl⟩⟩
abbrev i_BadKept : Stmt := inClass (top 5) 0
theorem si_BadKept : ScI i_BadKept ["function", "name"] := ⟨rfl, rfl, by decide +kernel, rfl, by decide +kernel, rfl, rfl, ⟨_, rfl, rfl⟩, by decide +kernel, by decide +kernel, by decide,
  fun _ _ _ _ _ _ _ _ _ us hl => match us, hl with | [_, _, _], _ => rfl, ⟨_, _, _, _, _, _, _, _, fun _ => _, rfl, .cons (.cons (.nil)), .cons (.cons (.nil)), fun _ => rfl⟩⟩
abbrev i_BadShut : Stmt := inClass (top 6) 0
theorem si_BadShut : ScI i_BadShut ["function", "address"] := ⟨rfl, rfl, by decide +kernel, rfl, by decide +kernel, rfl, rfl, ⟨_, rfl, rfl⟩, by decide +kernel, by decide +kernel, by decide,
  fun _ _ _ _ _ _ _ _ _ us hl => match us, hl with | [_, _, _], _ => rfl, ⟨_, _, _, _, _, _, _, _, fun _ => _, rfl, .cons (.cons (.nil)), .cons (.cons (.nil)), fun _ => rfl⟩⟩
abbrev i_Unknown : Stmt := inClass (top 7) 0
theorem si_Unknown : ScI i_Unknown ["function"] := ⟨rfl, rfl, by decide +kernel, rfl, by decide +kernel, rfl, rfl, ⟨_, rfl, rfl⟩, by decide +kernel, by decide +kernel, by decide,
  fun _ _ _ _ _ _ _ _ _ us hl => match us, hl with | [_, _], _ => rfl, ⟨_, _, _, _, _, _, _, _, fun _ => _, rfl, .cons (.nil), .cons (.nil), fun _ => rfl⟩⟩
abbrev i_NoName : Stmt := inClass (top 8) 0
theorem si_NoName : ScI i_NoName ["name"] := ⟨rfl, rfl, by decide +kernel, rfl, by decide +kernel, rfl, rfl, ⟨_, rfl, rfl⟩, by decide +kernel, by decide +kernel, by decide,
  fun _ _ _ _ _ _ _ _ _ us hl => match us, hl with | [_, _], _ => rfl, ⟨_, _, _, _, _, _, _, _, fun _ => _, rfl, .cons (.nil), .cons (.nil), fun _ => rfl⟩⟩
abbrev i_Broken : Stmt := inClass (top 12) 0
theorem si_Broken : ScI i_Broken ["at"] := ⟨rfl, rfl, by decide +kernel, rfl, by decide +kernel, rfl, rfl, ⟨_, rfl, rfl⟩, by decide +kernel, by decide +kernel, by decide,
  fun _ _ _ _ _ _ _ _ _ us hl => match us, hl with | [_, _], _ => rfl, ⟨_, _, _, _, _, _, _, _, fun _ => _, rfl, .cons (.nil), .cons (.nil), fun _ => rfl⟩⟩
abbrev i_BadPlacing : Stmt := inClass (top 13) 0
theorem si_BadPlacing : ScI i_BadPlacing ["at"] := ⟨rfl, rfl, by decide +kernel, rfl, by decide +kernel, rfl, rfl, ⟨_, rfl, rfl⟩, by decide +kernel, by decide +kernel, by decide,
  fun _ _ _ _ _ _ _ _ _ us hl => match us, hl with | [_, _], _ => rfl, ⟨_, _, _, _, _, _, _, _, fun _ => _, rfl, .cons (.nil), .cons (.nil), fun _ => rfl⟩⟩
abbrev i_TooMany : Stmt := inClass (top 14) 0
theorem si_TooMany : ScI i_TooMany ["limit"] := ⟨rfl, rfl, by decide +kernel, rfl, by decide +kernel, rfl, rfl, ⟨_, rfl, rfl⟩, by decide +kernel, by decide +kernel, by decide,
  fun _ _ _ _ _ _ _ _ _ us hl => match us, hl with | [_, _], _ => rfl, ⟨_, _, _, _, _, _, _, _, fun _ => _, rfl, .cons (.nil), .cons (.nil), fun _ => rfl⟩⟩
abbrev i_Faulty : Stmt := inClass (top 15) 0
theorem si_Faulty : ScI i_Faulty ["word", "function", "address"] := ⟨rfl, rfl, by decide +kernel, rfl, by decide +kernel, rfl, rfl, ⟨_, rfl, rfl⟩, by decide +kernel, by decide +kernel, by decide,
  fun _ _ _ _ _ _ _ _ _ us hl => match us, hl with | [_, _, _, _], _ => rfl, ⟨_, _, _, _, _, _, _, _, fun _ => _, rfl, .cons (.cons (.cons (.nil))), .cons (.cons (.cons (.nil))), fun _ => rfl⟩⟩
abbrev i_Unsteady : Stmt := inClass (top 16) 0
theorem si_Unsteady : ScI i_Unsteady ["why"] := ⟨rfl, rfl, by decide +kernel, rfl, by decide +kernel, rfl, rfl, ⟨_, rfl, rfl⟩, by decide +kernel, by decide +kernel, by decide,
  fun _ _ _ _ _ _ _ _ _ us hl => match us, hl with | [_, _], _ => rfl, ⟨_, _, _, _, _, _, _, _, fun _ => _, rfl, .cons (.nil), .cons (.nil), fun _ => rfl⟩⟩
abbrev i_Full : Stmt := inClass (top 18) 0
theorem si_Full : ScI i_Full ["limit"] := ⟨rfl, rfl, by decide +kernel, rfl, by decide +kernel, rfl, rfl, ⟨_, rfl, rfl⟩, by decide +kernel, by decide +kernel, by decide,
  fun _ _ _ _ _ _ _ _ _ us hl => match us, hl with | [_, _], _ => rfl, ⟨_, _, _, _, _, _, _, _, fun _ => _, rfl, .cons (.nil), .cons (.nil), fun _ => rfl⟩⟩
abbrev i_Refused : Stmt := inClass (top 19) 0
theorem si_Refused : ScI i_Refused ["deed", "why"] := ⟨rfl, rfl, by decide +kernel, rfl, by decide +kernel, rfl, rfl, ⟨_, rfl, rfl⟩, by decide +kernel, by decide +kernel, by decide,
  fun _ _ _ _ _ _ _ _ _ us hl => match us, hl with | [_, _, _], _ => rfl, ⟨_, _, _, _, _, _, _, _, fun _ => _, rfl, .cons (.cons (.nil)), .cons (.cons (.nil)), fun _ => rfl⟩⟩
abbrev i_NoEntry : Stmt := inClass (top 20) 0
theorem si_NoEntry : ScI i_NoEntry ["many"] := ⟨rfl, rfl, by decide +kernel, rfl, by decide +kernel, rfl, rfl, ⟨_, rfl, rfl⟩, by decide +kernel, by decide +kernel, by decide,
  fun _ _ _ _ _ _ _ _ _ us hl => match us, hl with | [_, _], _ => rfl, ⟨_, _, _, _, _, _, _, _, fun _ => _, rfl, .cons (.nil), .cons (.nil), fun _ => rfl⟩⟩
structure Tx (P : Program) (K : PySem.W.Frag) (mg : Str → Option Value) (cs : Nat → Addr) : Prop where
  sg : SupG P K mg
  isg : IsG K
  inj : ∀ i j, i < 22 → j < 22 → cs i = cs j → i = j
  k_Wrong : OwnX P K mg "Wrong" (cs 0) (.ref (cs 0) :: .ref (cs 21) :: veM) i_Wrong ["place"]
  k_BadStatement : OwnX P K mg "BadStatement" (cs 1) (.ref (cs 1) :: .ref (cs 21) :: veM) i_BadStatement ["function", "address"]
  k_BadCells : OwnX P K mg "BadCells" (cs 2) (.ref (cs 2) :: .ref (cs 21) :: veM) i_BadCells ["many"]
  k_BadKept : OwnX P K mg "BadKept" (cs 3) (.ref (cs 3) :: .ref (cs 21) :: veM) i_BadKept ["function", "name"]
  k_BadShut : OwnX P K mg "BadShut" (cs 4) (.ref (cs 4) :: .ref (cs 21) :: veM) i_BadShut ["function", "address"]
  k_Unknown : OwnX P K mg "Unknown" (cs 5) (.ref (cs 5) :: .ref (cs 21) :: veM) i_Unknown ["function"]
  k_NoName : OwnX P K mg "NoName" (cs 6) (.ref (cs 6) :: .ref (cs 21) :: veM) i_NoName ["name"]
  k_Over : OwnY K mg "Over" (cs 7) (.ref (cs 7) :: .ref (cs 21) :: veM)
  k_Unfit : OwnY K mg "Unfit" (cs 8) (.ref (cs 8) :: .ref (cs 21) :: veM)
  k_Nothing : OwnY K mg "Nothing" (cs 9) (.ref (cs 9) :: .ref (cs 21) :: veM)
  k_Broken : OwnX P K mg "Broken" (cs 10) (.ref (cs 10) :: .ref (cs 21) :: veM) i_Broken ["at"]
  k_BadPlacing : OwnX P K mg "BadPlacing" (cs 11) (.ref (cs 11) :: .ref (cs 21) :: veM) i_BadPlacing ["at"]
  k_TooMany : OwnX P K mg "TooMany" (cs 12) (.ref (cs 12) :: .ref (cs 21) :: veM) i_TooMany ["limit"]
  k_Faulty : OwnX P K mg "Faulty" (cs 13) (.ref (cs 13) :: .ref (cs 21) :: veM) i_Faulty ["word", "function", "address"]
  k_Unsteady : OwnX P K mg "Unsteady" (cs 14) (.ref (cs 14) :: .ref (cs 21) :: veM) i_Unsteady ["why"]
  k_NoDeed : OwnY K mg "NoDeed" (cs 15) (.ref (cs 15) :: .ref (cs 21) :: veM)
  k_Full : OwnX P K mg "Full" (cs 16) (.ref (cs 16) :: .ref (cs 21) :: veM) i_Full ["limit"]
  k_Refused : OwnX P K mg "Refused" (cs 17) (.ref (cs 17) :: .ref (cs 21) :: veM) i_Refused ["deed", "why"]
  k_NoEntry : OwnX P K mg "NoEntry" (cs 18) (.ref (cs 18) :: .ref (cs 21) :: veM) i_NoEntry ["many"]
  k_NoText : OwnY K mg "NoText" (cs 19) (.ref (cs 19) :: .ref (cs 21) :: veM)
  k_NoCommand : OwnY K mg "NoCommand" (cs 20) (.ref (cs 20) :: .ref (cs 21) :: veM)
  k_BackError : OwnY K mg "BackError" (cs 21) (.ref (cs 21) :: veM)
  h_F_law_bag : Has K mg "_law_bag" s_F_law_bag
  h_F_law_take : Has K mg "_law_take" s_F_law_take
  h_F_law_alike : Has K mg "_law_alike" s_F_law_alike
  h_F_law_thing : Has K mg "_law_thing" s_F_law_thing
  h_F_law_errors : Has K mg "_law_errors" s_F_law_errors
  h_F_law_kinds : Has K mg "_law_kinds" s_F_law_kinds
  h_F_law_fields : Has K mg "_law_fields" s_F_law_fields
  h_F_law : Has K mg "law" s_F_law
  n_ValueError : mg "ValueError" = none
  n_abs : mg "abs" = none
  n_dict : mg "dict" = none
  n_enumerate : mg "enumerate" = none
  n_int : mg "int" = none
  n_isinstance : mg "isinstance" = none
  n_len : mg "len" = none
  n_list : mg "list" = none
  n_range : mg "range" = none
  n_repr : mg "repr" = none
section
variable {P : Program} {w : World} {K : PySem.W.Frag} {mg : Str → Option Value} {base : Heap} {cs : Nat → Addr}
def t_F_law_bag (K : PySem.W.Frag) (cs : Nat → Addr) : TS :=
    (tRet (tLst (tCons (tC (.int 0)) (tCons (tC (.int 1234567891)) (tCons (tC (.int 0)) (tCons (tLc (iList K (tSl (rSl3 K) (tVar 0) tNoPart (tPart (tC (.int 63))))) (gName 1) tYes (tCB rAbs (tCons (tVar 1) tNil)) [1]) tNil))))))
theorem der_F_law_bag (T : Tx P K mg cs)  : Der P w K mg base N_F_law_bag "_law_bag" s_F_law_bag 0 (t_F_law_bag K cs) := by
  intro f cdv A outer s H E hr
  exact (pss_one (ps_ret (pe_lst (pa_cons pe_int (pa_cons pe_int (pa_cons pe_int (pa_cons (pe_lc (own := [("_law_cell", 1)]) (by rfl) sc_F_law_bag.nd (pi_list (pe_slice sl3 (pv 0) po_none (po_some pe_int))) (blkOk_by (own := [("_law_cell", 1)]) (N := N_F_law_bag) (sc := defScope s_F_law_bag) (by decide +kernel)) (fun _ _ _ _ _ => (pg_name (i := 1) sc_F_law_bag.nd rfl (Or.inl rfl))) (fun _ _ _ _ _ => pts_nil) (fun _ _ _ _ _ => (pe_callB call_abs (by rfl) T.n_abs (by decide +kernel) (pa_cons (pv 1) pa_nil)))) pa_nil)))))))
def t_F_law_take_c2 (K : PySem.W.Frag) (cs : Nat → Addr) : TS :=
    (tSeq (tAsg (tOp (rI (fun _ j => 0 < j) fun i j => .int (i % j)) (tCB rInt1 (tCons (tOp rMul2 (tOp (rAdd4 K) (tOp (rIx K) (tVar 0) (tC (.int 1))) (tC (.int 1))) (tC (.int 39373))) tNil)) (tC (.int 1000000007))) (gName 5))
    (tSeq (tAsg (tOp (rI (fun _ j => 0 < j) fun i j => .int (i % j)) (tCB rInt1 (tCons (tOp rMul2 (tOp (rI (fun _ j => 0 < j) fun i j => .int (i % j)) (tCB rInt1 (tCons (tOp rMul2 (tVar 5) (tVar 5)) tNil)) (tC (.int 998244353))) (tC (.int 30011))) tNil)) (tC (.int 998244353))) (gName 6))
    (tSeq (tIfS (tTest (tOp (rI0 fun i j => .bl (decide (j < i))) (tVar 1) (tC (.int 1000000)))) (tRet (tOp (rI (fun _ j => 0 < j) fun i j => .int (i % j)) (tCB rInt1 (tCons (tOp (rAdd4 K) (tOp rMul2 (tVar 6) (tC (.int 1000000007))) (tVar 5)) tNil)) (tVar 1))) tNext)
    (tRet (tOp (rI (fun _ j => 0 < j) fun i j => .int (i % j)) (tCB rInt1 (tCons (tOp (rI CDiv fun i j => .int (i / j)) (tVar 6) (tC (.int 7))) tNil)) (tVar 1))))))
def t_F_law_take_c1 (K : PySem.W.Frag) (cs : Nat → Addr) : TS :=
    (tSeq (tIfS (tTest (tOp (rI0 fun i j => .bl (decide (j < i))) (tOp (rIx K) (tVar 0) (tC (.int 0))) (tC (.int 0)))) (tSeq (tAsg (tOp (rI (fun _ j => 0 < j) fun i j => .int (i % j)) (tCB rInt1 (tCons (tOp (rIx K) (tVar 0) (tC (.int 0))) tNil)) (tVar 1)) (gName 4))
    (tSeq (tAsg (tOp (rI CDiv fun i j => .int (i / j)) (tOp (rIx K) (tVar 0) (tC (.int 0))) (tVar 1)) (gSub (tVar 0) (tC (.int 0)) rSetL))
    (tRet (tVar 4)))) tNext)
    (t_F_law_take_c2 K cs))
def t_F_law_take (K : PySem.W.Frag) (cs : Nat → Addr) : TS :=
    (tSeq (tIfS (tTest (tOp rEq (tOp (rIx K) (tVar 0) (tC (.int 0))) (tC (.int 0)))) (tSeq (tAsg (tC (.int 0)) (gName 2))
    (tSeq (tIfS (tTest (tOp (rI0 fun i j => .bl (decide (i < j))) (tOp (rIx K) (tVar 0) (tC (.int 2))) (tCB (Lb.rLen K) (tCons (tOp (rIx K) (tVar 0) (tC (.int 3))) tNil)))) (tAsg (tOp (rIx K) (tOp (rIx K) (tVar 0) (tC (.int 3))) (tOp (rIx K) (tVar 0) (tC (.int 2)))) (gName 2)) tNext)
    (tSeq (tAugS (tVar 0) (tC (.int 2)) (tC (.int 1)) (rGetL K) (ipI fun i j => i + j) rSetL)
    (tSeq (tIfS (tTest (tOp (rI0 fun i j => .bl (decide (j ≤ i))) (tVar 2) (tC (.int 1000000000000000000)))) (tAsg (tVar 2) (gSub (tVar 0) (tC (.int 0)) rSetL)) tNext)
    (tSeq (tAsg (tOp (rAdd4 K) (tOp (rI (fun _ j => 0 < j) fun i j => .int (i % j)) (tCB rInt1 (tCons (tVar 2) tNil)) (tC (.int 2147483647))) (tOp rMul2 (tC (.int 7919)) (tOp (rIx K) (tVar 0) (tC (.int 2))))) (gName 3))
    (tAsg (tOp (rI (fun _ j => 0 < j) fun i j => .int (i % j)) (tCB rInt1 (tCons (tOp (rAdd4 K) (tOp rMul2 (tOp (rIx K) (tVar 0) (tC (.int 1))) (tC (.int 48271))) (tVar 3)) tNil)) (tC (.int 2147483647))) (gSub (tVar 0) (tC (.int 1)) rSetL))))))) tNext)
    (t_F_law_take_c1 K cs))
theorem der_F_law_take (T : Tx P K mg cs)  : Der P w K mg base N_F_law_take "_law_take" s_F_law_take 0 (t_F_law_take K cs) := by
  intro f cdv A outer s H E hr
  exact (pss_cons (ps_if (pt_cmpR op_eq (pe_ix ix_seq (pv 0) pe_int (fun _ _ => rfl)) pe_int (nomark _)) (pss_cons (ps_set (i := 2) sc_F_law_take.nd rfl (Or.inl rfl) pe_int)
      (pss_cons (ps_if (pt_cmpR op_lt (pe_ix ix_seq (pv 0) pe_int (fun _ _ => rfl)) (pe_callB call_len (by rfl) T.n_len (by decide +kernel) (pa_cons (pe_ix ix_seq (pv 0) pe_int (fun _ _ => rfl)) pa_nil)) (nomark _)) (pss_one (ps_set (i := 2) sc_F_law_take.nd rfl (Or.inl rfl) (pe_ix ix_seq (pe_ix ix_seq (pv 0) pe_int (fun _ _ => rfl)) (pe_ix ix_seq (pv 0) pe_int (fun _ _ => rfl)) (fun _ _ => rfl)))) pss_nil)
      (pss_cons (ps_augS (pv 0) pe_int get_list pe_int ip_add set_list)
      (pss_cons (ps_if (pt_cmpR op_ge (pv 2) pe_int (nomark _)) (pss_one (ps_asg (pv 2) (pg_sub (pv 0) pe_int set_list))) pss_nil)
      (pss_cons (ps_set (i := 3) sc_F_law_take.nd rfl (Or.inl rfl) (pe_op oAdd (pe_op op_mod (pe_callTy call_int1 (by rfl) T.n_int (by decide +kernel) (pa_cons (pv 2) pa_nil)) pe_int) (pe_op oMul pe_int (pe_ix ix_seq (pv 0) pe_int (fun _ _ => rfl)))))
      (pss_one (ps_asg (pe_op op_mod (pe_callTy call_int1 (by rfl) T.n_int (by decide +kernel) (pa_cons (pe_op oAdd (pe_op oMul (pe_ix ix_seq (pv 0) pe_int (fun _ _ => rfl)) pe_int) (pv 3)) pa_nil)) pe_int) (pg_sub (pv 0) pe_int set_list)))))))) pss_nil)
      (pss_cons (ps_if (pt_cmpR op_gt (pe_ix ix_seq (pv 0) pe_int (fun _ _ => rfl)) pe_int (nomark _)) (pss_cons (ps_set (i := 4) sc_F_law_take.nd rfl (Or.inl rfl) (pe_op op_mod (pe_callTy call_int1 (by rfl) T.n_int (by decide +kernel) (pa_cons (pe_ix ix_seq (pv 0) pe_int (fun _ _ => rfl)) pa_nil)) (pv 1)))
      (pss_cons (ps_asg (pe_op op_fdiv (pe_ix ix_seq (pv 0) pe_int (fun _ _ => rfl)) (pv 1)) (pg_sub (pv 0) pe_int set_list))
      (pss_one (ps_ret (pv 4))))) pss_nil)
      (pss_cons (ps_set (i := 5) sc_F_law_take.nd rfl (Or.inl rfl) (pe_op op_mod (pe_callTy call_int1 (by rfl) T.n_int (by decide +kernel) (pa_cons (pe_op oMul (pe_op oAdd (pe_ix ix_seq (pv 0) pe_int (fun _ _ => rfl)) pe_int) pe_int) pa_nil)) pe_int))
      (pss_cons (ps_set (i := 6) sc_F_law_take.nd rfl (Or.inl rfl) (pe_op op_mod (pe_callTy call_int1 (by rfl) T.n_int (by decide +kernel) (pa_cons (pe_op oMul (pe_op op_mod (pe_callTy call_int1 (by rfl) T.n_int (by decide +kernel) (pa_cons (pe_op oMul (pv 5) (pv 5)) pa_nil)) pe_int) pe_int) pa_nil)) pe_int))
      (pss_cons (ps_if (pt_cmpR op_gt (pv 1) pe_int (nomark _)) (pss_one (ps_ret (pe_op op_mod (pe_callTy call_int1 (by rfl) T.n_int (by decide +kernel) (pa_cons (pe_op oAdd (pe_op oMul (pv 6) pe_int) (pv 5)) pa_nil)) (pv 1)))) pss_nil)
      (pss_one (ps_ret (pe_op op_mod (pe_callTy call_int1 (by rfl) T.n_int (by decide +kernel) (pa_cons (pe_op op_fdiv (pv 6) pe_int) pa_nil)) (pv 1)))))))))
def t_F_law_alike (K : PySem.W.Frag) (cs : Nat → Addr) : TS :=
    (tRet (tAndV (tOp (rEqV K) (tVar 0) (tVar 1)) (tOp rEq (tCB (rReprS K) (tCons (tVar 0) tNil)) (tCB (rReprS K) (tCons (tVar 1) tNil)))))
theorem der_F_law_alike (T : Tx P K mg cs)  : DerG P w K mg base N_F_law_alike "_law_alike" s_F_law_alike 0 (t_F_law_alike K cs) := by
  intro f cdv A outer s H E hG hr
  exact (pss_one (ps_ret (pe_and (pe_cmpR (op_eqV (hu64 hr)) (pv 0) (pv 1) (nomark _)) (pe_one (pe_cmpR op_eq (pe_callB (call_reprS hG (hu70 hr)) (by rfl) T.n_repr (by decide +kernel) (pa_cons (pv 0) pa_nil)) (pe_callB (call_reprS hG (hu70 hr)) (by rfl) T.n_repr (by decide +kernel) (pa_cons (pv 1) pa_nil)) (nomark _))))))
def t_F_law_thing (K : PySem.W.Frag) (cs : Nat → Addr) : TS :=
    (tSeq (tAsg (tLst (tCons (tOp (rI0 fun i j => .int (i - j)) (tCall (spTake' K cs) [] E0 (tCons (tVar 0) (tCons (tC (.int 1000)) tNil))) (tC (.int 500))) (tCons (tOp (rI CPow fun i j => .int (i ^ j.toNat)) (tC (.int 10)) (tC (.int 39))) (tCons (tC (.str "main")) (tCons (tC (.str "")) (tCons (tC (.bl true)) (tCons (tC .non) (tCons (tTup (tCons (tC (.int 1)) (tCons (tTup (tCons (tC (.int 2)) tNil)) tNil))) (tCons (tLst (tCons (tC (.int 3)) (tCons (tLst (tCons (tC (.int 4)) tNil)) tNil))) (tCons (tDisp [((tC (.str "a")), (tC (.int 1)))]) (tCons (tLst tNil) (tCons (tLst (tCons (tC (.str "old")) tNil)) tNil)))))))))))) (gName 1))
    (tRet (tOp (rIx K) (tVar 1) (tCall (spTake' K cs) [] E0 (tCons (tVar 0) (tCons (tC (.int 11)) tNil))))))
theorem der_F_law_thing (T : Tx P K mg cs) (d_F_law_take : Def P w K mg base "_law_take" 1 ["_law_bag_here", "_law_many"] (spTake' K cs)) : Der P w K mg base N_F_law_thing "_law_thing" s_F_law_thing 1 (t_F_law_thing K cs) := by
  intro f cdv A outer s H E hr
  exact (pss_cons (ps_set (i := 1) sc_F_law_thing.nd rfl (Or.inl rfl) (pe_lst (pa_cons (pe_op op_sub (pe_def d_F_law_take  hr (by decide) (by rfl) (pa_cons (pv 0) (pa_cons pe_int pa_nil))) pe_int) (pa_cons (pe_op op_pow pe_int pe_int) (pa_cons pe_str (pa_cons pe_str (pa_cons pe_bl (pa_cons pe_non (pa_cons (pe_tup (pa_cons pe_int (pa_cons (pe_tup (pa_cons pe_int pa_nil)) pa_nil))) (pa_cons (pe_lst (pa_cons pe_int (pa_cons (pe_lst (pa_cons pe_int pa_nil)) pa_nil))) (pa_cons (pe_disp (pps_cons pe_str pe_int pps_nil) (by rfl) (by rfl) (fun z => by cases z) (by decide)) (pa_cons (pe_lst pa_nil) (pa_cons (pe_lst (pa_cons pe_str pa_nil)) pa_nil)))))))))))))
      (pss_one (ps_ret (pe_ix ix_seq (pv 1) (pe_def d_F_law_take  hr (by decide) (by rfl) (pa_cons (pv 0) (pa_cons pe_int pa_nil))) (fun _ _ => rfl)))))
def t_F_law_errors (K : PySem.W.Frag) (cs : Nat → Addr) : TS :=
    (tSeq (tAsg (tLst (tCons (tMkE (cs 0) ["place"] (tCons (tVar 0) tNil)) (tCons (tMkE (cs 1) ["function", "address"] (tCons (tVar 0) (tCons (tVar 1) tNil))) (tCons (tMkE (cs 2) ["many"] (tCons (tVar 0) tNil)) (tCons (tMkE (cs 3) ["function", "name"] (tCons (tVar 0) (tCons (tVar 1) tNil))) (tCons (tMkE (cs 4) ["function", "address"] (tCons (tVar 0) (tCons (tVar 1) tNil))) (tCons (tMkE (cs 5) ["function"] (tCons (tVar 0) tNil)) (tCons (tMkE (cs 6) ["name"] (tCons (tVar 0) tNil)) (tCons (tMkB (cs 7) tNil) tNil))))))))) (gName 3))
    (tSeq (tAsg (tOp (rAdd4 K) (tVar 3) (tLst (tCons (tMkB (cs 8) tNil) (tCons (tMkB (cs 9) tNil) (tCons (tMkE (cs 10) ["at"] (tCons (tVar 0) tNil)) (tCons (tMkE (cs 11) ["at"] (tCons (tVar 0) tNil)) (tCons (tMkE (cs 12) ["limit"] (tCons (tVar 0) tNil)) (tCons (tMkE (cs 13) ["word", "function", "address"] (tCons (tVar 0) (tCons (tVar 1) (tCons (tVar 2) tNil)))) (tCons (tMkE (cs 14) ["why"] (tCons (tVar 0) tNil)) (tCons (tMkB (cs 15) tNil) tNil)))))))))) (gName 3))
    (tRet (tOp (rAdd4 K) (tVar 3) (tLst (tCons (tMkE (cs 16) ["limit"] (tCons (tVar 0) tNil)) (tCons (tMkE (cs 17) ["deed", "why"] (tCons (tVar 0) (tCons (tVar 1) tNil))) (tCons (tMkE (cs 18) ["many"] (tCons (tVar 0) tNil)) (tCons (tMkB (cs 19) tNil) (tCons (tMkB (cs 20) tNil) tNil))))))))))
theorem der_F_law_errors (T : Tx P K mg cs)  : Der P w K mg base N_F_law_errors "_law_errors" s_F_law_errors 1 (t_F_law_errors K cs) := by
  intro f cdv A outer s H E hr
  exact (pss_cons (ps_set (i := 3) sc_F_law_errors.nd rfl (Or.inl rfl) (pe_lst (pa_cons (pe_ownX T.k_Wrong T.sg si_Wrong hr (by decide) (by rfl) (pa_cons (pv 0) pa_nil)) (pa_cons (pe_ownX T.k_BadStatement T.sg si_BadStatement hr (by decide) (by rfl) (pa_cons (pv 0) (pa_cons (pv 1) pa_nil))) (pa_cons (pe_ownX T.k_BadCells T.sg si_BadCells hr (by decide) (by rfl) (pa_cons (pv 0) pa_nil)) (pa_cons (pe_ownX T.k_BadKept T.sg si_BadKept hr (by decide) (by rfl) (pa_cons (pv 0) (pa_cons (pv 1) pa_nil))) (pa_cons (pe_ownX T.k_BadShut T.sg si_BadShut hr (by decide) (by rfl) (pa_cons (pv 0) (pa_cons (pv 1) pa_nil))) (pa_cons (pe_ownX T.k_Unknown T.sg si_Unknown hr (by decide) (by rfl) (pa_cons (pv 0) pa_nil)) (pa_cons (pe_ownX T.k_NoName T.sg si_NoName hr (by decide) (by rfl) (pa_cons (pv 0) pa_nil)) (pa_cons (pe_ownY0 T.k_Over (by rfl)) pa_nil))))))))))
      (pss_cons (ps_set (i := 3) sc_F_law_errors.nd rfl (Or.inl rfl) (pe_op oAdd (pv 3) (pe_lst (pa_cons (pe_ownY0 T.k_Unfit (by rfl)) (pa_cons (pe_ownY0 T.k_Nothing (by rfl)) (pa_cons (pe_ownX T.k_Broken T.sg si_Broken hr (by decide) (by rfl) (pa_cons (pv 0) pa_nil)) (pa_cons (pe_ownX T.k_BadPlacing T.sg si_BadPlacing hr (by decide) (by rfl) (pa_cons (pv 0) pa_nil)) (pa_cons (pe_ownX T.k_TooMany T.sg si_TooMany hr (by decide) (by rfl) (pa_cons (pv 0) pa_nil)) (pa_cons (pe_ownX T.k_Faulty T.sg si_Faulty hr (by decide) (by rfl) (pa_cons (pv 0) (pa_cons (pv 1) (pa_cons (pv 2) pa_nil)))) (pa_cons (pe_ownX T.k_Unsteady T.sg si_Unsteady hr (by decide) (by rfl) (pa_cons (pv 0) pa_nil)) (pa_cons (pe_ownY0 T.k_NoDeed (by rfl)) pa_nil)))))))))))
      (pss_one (ps_ret (pe_op oAdd (pv 3) (pe_lst (pa_cons (pe_ownX T.k_Full T.sg si_Full hr (by decide) (by rfl) (pa_cons (pv 0) pa_nil)) (pa_cons (pe_ownX T.k_Refused T.sg si_Refused hr (by decide) (by rfl) (pa_cons (pv 0) (pa_cons (pv 1) pa_nil))) (pa_cons (pe_ownX T.k_NoEntry T.sg si_NoEntry hr (by decide) (by rfl) (pa_cons (pv 0) pa_nil)) (pa_cons (pe_ownY0 T.k_NoText (by rfl)) (pa_cons (pe_ownY0 T.k_NoCommand (by rfl)) pa_nil)))))))))))
def t_F_law_kinds (K : PySem.W.Frag) (cs : Nat → Addr) : TS :=
    (tSeq (tAsg (tLst (tCons (tCB (rIsiE K) (tCons (tVar 0) (tCons (tC (.ref (cs 0))) tNil))) (tCons (tCB (rIsiE K) (tCons (tVar 0) (tCons (tC (.ref (cs 1))) tNil))) (tCons (tCB (rIsiE K) (tCons (tVar 0) (tCons (tC (.ref (cs 2))) tNil))) (tCons (tCB (rIsiE K) (tCons (tVar 0) (tCons (tC (.ref (cs 3))) tNil))) tNil))))) (gName 1))
    (tSeq (tAsg (tOp (rAdd4 K) (tVar 1) (tLst (tCons (tCB (rIsiE K) (tCons (tVar 0) (tCons (tC (.ref (cs 4))) tNil))) (tCons (tCB (rIsiE K) (tCons (tVar 0) (tCons (tC (.ref (cs 5))) tNil))) (tCons (tCB (rIsiE K) (tCons (tVar 0) (tCons (tC (.ref (cs 6))) tNil))) (tCons (tCB (rIsiE K) (tCons (tVar 0) (tCons (tC (.ref (cs 7))) tNil))) tNil)))))) (gName 1))
    (tSeq (tAsg (tOp (rAdd4 K) (tVar 1) (tLst (tCons (tCB (rIsiE K) (tCons (tVar 0) (tCons (tC (.ref (cs 8))) tNil))) (tCons (tCB (rIsiE K) (tCons (tVar 0) (tCons (tC (.ref (cs 9))) tNil))) (tCons (tCB (rIsiE K) (tCons (tVar 0) (tCons (tC (.ref (cs 10))) tNil))) (tCons (tCB (rIsiE K) (tCons (tVar 0) (tCons (tC (.ref (cs 11))) tNil))) tNil)))))) (gName 1))
    (tSeq (tAsg (tOp (rAdd4 K) (tVar 1) (tLst (tCons (tCB (rIsiE K) (tCons (tVar 0) (tCons (tC (.ref (cs 12))) tNil))) (tCons (tCB (rIsiE K) (tCons (tVar 0) (tCons (tC (.ref (cs 13))) tNil))) (tCons (tCB (rIsiE K) (tCons (tVar 0) (tCons (tC (.ref (cs 14))) tNil))) (tCons (tCB (rIsiE K) (tCons (tVar 0) (tCons (tC (.ref (cs 15))) tNil))) tNil)))))) (gName 1))
    (tSeq (tAsg (tOp (rAdd4 K) (tVar 1) (tLst (tCons (tCB (rIsiE K) (tCons (tVar 0) (tCons (tC (.ref (cs 16))) tNil))) (tCons (tCB (rIsiE K) (tCons (tVar 0) (tCons (tC (.ref (cs 17))) tNil))) (tCons (tCB (rIsiE K) (tCons (tVar 0) (tCons (tC (.ref (cs 18))) tNil))) (tCons (tCB (rIsiE K) (tCons (tVar 0) (tCons (tC (.ref (cs 19))) tNil))) tNil)))))) (gName 1))
    (tRet (tOp (rAdd4 K) (tVar 1) (tLst (tCons (tCB (rIsiE K) (tCons (tVar 0) (tCons (tC (.ref (cs 20))) tNil))) tNil)))))))))
theorem der_F_law_kinds (T : Tx P K mg cs)  : Der P w K mg base N_F_law_kinds "_law_kinds" s_F_law_kinds 0 (t_F_law_kinds K cs) := by
  intro f cdv A outer s H E hr
  exact (pss_cons (ps_set (i := 1) sc_F_law_kinds.nd rfl (Or.inl rfl) (pe_lst (pa_cons (pe_callB (call_isiE T.isg) (by rfl) T.n_isinstance (by decide +kernel) (pa_cons (pv 0) (pa_cons (pe_glob (v := .ref (cs 0)) (by rfl) T.k_Wrong.at_ rfl) pa_nil))) (pa_cons (pe_callB (call_isiE T.isg) (by rfl) T.n_isinstance (by decide +kernel) (pa_cons (pv 0) (pa_cons (pe_glob (v := .ref (cs 1)) (by rfl) T.k_BadStatement.at_ rfl) pa_nil))) (pa_cons (pe_callB (call_isiE T.isg) (by rfl) T.n_isinstance (by decide +kernel) (pa_cons (pv 0) (pa_cons (pe_glob (v := .ref (cs 2)) (by rfl) T.k_BadCells.at_ rfl) pa_nil))) (pa_cons (pe_callB (call_isiE T.isg) (by rfl) T.n_isinstance (by decide +kernel) (pa_cons (pv 0) (pa_cons (pe_glob (v := .ref (cs 3)) (by rfl) T.k_BadKept.at_ rfl) pa_nil))) pa_nil))))))
      (pss_cons (ps_set (i := 1) sc_F_law_kinds.nd rfl (Or.inl rfl) (pe_op oAdd (pv 1) (pe_lst (pa_cons (pe_callB (call_isiE T.isg) (by rfl) T.n_isinstance (by decide +kernel) (pa_cons (pv 0) (pa_cons (pe_glob (v := .ref (cs 4)) (by rfl) T.k_BadShut.at_ rfl) pa_nil))) (pa_cons (pe_callB (call_isiE T.isg) (by rfl) T.n_isinstance (by decide +kernel) (pa_cons (pv 0) (pa_cons (pe_glob (v := .ref (cs 5)) (by rfl) T.k_Unknown.at_ rfl) pa_nil))) (pa_cons (pe_callB (call_isiE T.isg) (by rfl) T.n_isinstance (by decide +kernel) (pa_cons (pv 0) (pa_cons (pe_glob (v := .ref (cs 6)) (by rfl) T.k_NoName.at_ rfl) pa_nil))) (pa_cons (pe_callB (call_isiE T.isg) (by rfl) T.n_isinstance (by decide +kernel) (pa_cons (pv 0) (pa_cons (pe_glob (v := .ref (cs 7)) (by rfl) T.k_Over.at_ rfl) pa_nil))) pa_nil)))))))
      (pss_cons (ps_set (i := 1) sc_F_law_kinds.nd rfl (Or.inl rfl) (pe_op oAdd (pv 1) (pe_lst (pa_cons (pe_callB (call_isiE T.isg) (by rfl) T.n_isinstance (by decide +kernel) (pa_cons (pv 0) (pa_cons (pe_glob (v := .ref (cs 8)) (by rfl) T.k_Unfit.at_ rfl) pa_nil))) (pa_cons (pe_callB (call_isiE T.isg) (by rfl) T.n_isinstance (by decide +kernel) (pa_cons (pv 0) (pa_cons (pe_glob (v := .ref (cs 9)) (by rfl) T.k_Nothing.at_ rfl) pa_nil))) (pa_cons (pe_callB (call_isiE T.isg) (by rfl) T.n_isinstance (by decide +kernel) (pa_cons (pv 0) (pa_cons (pe_glob (v := .ref (cs 10)) (by rfl) T.k_Broken.at_ rfl) pa_nil))) (pa_cons (pe_callB (call_isiE T.isg) (by rfl) T.n_isinstance (by decide +kernel) (pa_cons (pv 0) (pa_cons (pe_glob (v := .ref (cs 11)) (by rfl) T.k_BadPlacing.at_ rfl) pa_nil))) pa_nil)))))))
      (pss_cons (ps_set (i := 1) sc_F_law_kinds.nd rfl (Or.inl rfl) (pe_op oAdd (pv 1) (pe_lst (pa_cons (pe_callB (call_isiE T.isg) (by rfl) T.n_isinstance (by decide +kernel) (pa_cons (pv 0) (pa_cons (pe_glob (v := .ref (cs 12)) (by rfl) T.k_TooMany.at_ rfl) pa_nil))) (pa_cons (pe_callB (call_isiE T.isg) (by rfl) T.n_isinstance (by decide +kernel) (pa_cons (pv 0) (pa_cons (pe_glob (v := .ref (cs 13)) (by rfl) T.k_Faulty.at_ rfl) pa_nil))) (pa_cons (pe_callB (call_isiE T.isg) (by rfl) T.n_isinstance (by decide +kernel) (pa_cons (pv 0) (pa_cons (pe_glob (v := .ref (cs 14)) (by rfl) T.k_Unsteady.at_ rfl) pa_nil))) (pa_cons (pe_callB (call_isiE T.isg) (by rfl) T.n_isinstance (by decide +kernel) (pa_cons (pv 0) (pa_cons (pe_glob (v := .ref (cs 15)) (by rfl) T.k_NoDeed.at_ rfl) pa_nil))) pa_nil)))))))
      (pss_cons (ps_set (i := 1) sc_F_law_kinds.nd rfl (Or.inl rfl) (pe_op oAdd (pv 1) (pe_lst (pa_cons (pe_callB (call_isiE T.isg) (by rfl) T.n_isinstance (by decide +kernel) (pa_cons (pv 0) (pa_cons (pe_glob (v := .ref (cs 16)) (by rfl) T.k_Full.at_ rfl) pa_nil))) (pa_cons (pe_callB (call_isiE T.isg) (by rfl) T.n_isinstance (by decide +kernel) (pa_cons (pv 0) (pa_cons (pe_glob (v := .ref (cs 17)) (by rfl) T.k_Refused.at_ rfl) pa_nil))) (pa_cons (pe_callB (call_isiE T.isg) (by rfl) T.n_isinstance (by decide +kernel) (pa_cons (pv 0) (pa_cons (pe_glob (v := .ref (cs 18)) (by rfl) T.k_NoEntry.at_ rfl) pa_nil))) (pa_cons (pe_callB (call_isiE T.isg) (by rfl) T.n_isinstance (by decide +kernel) (pa_cons (pv 0) (pa_cons (pe_glob (v := .ref (cs 19)) (by rfl) T.k_NoText.at_ rfl) pa_nil))) pa_nil)))))))
      (pss_one (ps_ret (pe_op oAdd (pv 1) (pe_lst (pa_cons (pe_callB (call_isiE T.isg) (by rfl) T.n_isinstance (by decide +kernel) (pa_cons (pv 0) (pa_cons (pe_glob (v := .ref (cs 20)) (by rfl) T.k_NoCommand.at_ rfl) pa_nil))) pa_nil))))))))))
def t_F_law_fields (K : PySem.W.Frag) (cs : Nat → Addr) : TS :=
    (tSeq (tAsg (tLst (tCons (tFldE K "place" (tOp (rIx K) (tVar 0) (tC (.int 0)))) (tCons (tFldE K "function" (tOp (rIx K) (tVar 0) (tC (.int 1)))) (tCons (tFldE K "many" (tOp (rIx K) (tVar 0) (tC (.int 2)))) (tCons (tFldE K "function" (tOp (rIx K) (tVar 0) (tC (.int 3)))) (tCons (tFldE K "function" (tOp (rIx K) (tVar 0) (tC (.int 4)))) (tCons (tFldE K "function" (tOp (rIx K) (tVar 0) (tC (.int 5)))) tNil))))))) (gName 1))
    (tSeq (tAsg (tOp (rAdd4 K) (tVar 1) (tLst (tCons (tFldE K "name" (tOp (rIx K) (tVar 0) (tC (.int 6)))) (tCons (tFldE K "at" (tOp (rIx K) (tVar 0) (tC (.int 10)))) (tCons (tFldE K "at" (tOp (rIx K) (tVar 0) (tC (.int 11)))) (tCons (tFldE K "limit" (tOp (rIx K) (tVar 0) (tC (.int 12)))) (tCons (tFldE K "word" (tOp (rIx K) (tVar 0) (tC (.int 13)))) (tCons (tFldE K "why" (tOp (rIx K) (tVar 0) (tC (.int 14)))) tNil)))))))) (gName 1))
    (tSeq (tAsg (tOp (rAdd4 K) (tVar 1) (tLst (tCons (tFldE K "limit" (tOp (rIx K) (tVar 0) (tC (.int 16)))) (tCons (tFldE K "deed" (tOp (rIx K) (tVar 0) (tC (.int 17)))) (tCons (tFldE K "many" (tOp (rIx K) (tVar 0) (tC (.int 18)))) tNil))))) (gName 1))
    (tSeq (tAsg (tLst (tCons (tFldE K "address" (tOp (rIx K) (tVar 0) (tC (.int 1)))) (tCons (tFldE K "name" (tOp (rIx K) (tVar 0) (tC (.int 3)))) (tCons (tFldE K "address" (tOp (rIx K) (tVar 0) (tC (.int 4)))) (tCons (tFldE K "function" (tOp (rIx K) (tVar 0) (tC (.int 13)))) (tCons (tFldE K "why" (tOp (rIx K) (tVar 0) (tC (.int 17)))) tNil)))))) (gName 2))
    (tRet (tLst (tCons (tVar 1) (tCons (tVar 2) (tCons (tLst (tCons (tFldE K "address" (tOp (rIx K) (tVar 0) (tC (.int 13)))) tNil)) tNil)))))))))
theorem der_F_law_fields (T : Tx P K mg cs)  : Der P w K mg base N_F_law_fields "_law_fields" s_F_law_fields 0 (t_F_law_fields K cs) := by
  intro f cdv A outer s H E hr
  exact (pss_cons (ps_set (i := 1) sc_F_law_fields.nd rfl (Or.inl rfl) (pe_lst (pa_cons (pe_fldE (pe_ix ix_seq (pv 0) pe_int (fun _ _ => rfl))) (pa_cons (pe_fldE (pe_ix ix_seq (pv 0) pe_int (fun _ _ => rfl))) (pa_cons (pe_fldE (pe_ix ix_seq (pv 0) pe_int (fun _ _ => rfl))) (pa_cons (pe_fldE (pe_ix ix_seq (pv 0) pe_int (fun _ _ => rfl))) (pa_cons (pe_fldE (pe_ix ix_seq (pv 0) pe_int (fun _ _ => rfl))) (pa_cons (pe_fldE (pe_ix ix_seq (pv 0) pe_int (fun _ _ => rfl))) pa_nil))))))))
      (pss_cons (ps_set (i := 1) sc_F_law_fields.nd rfl (Or.inl rfl) (pe_op oAdd (pv 1) (pe_lst (pa_cons (pe_fldE (pe_ix ix_seq (pv 0) pe_int (fun _ _ => rfl))) (pa_cons (pe_fldE (pe_ix ix_seq (pv 0) pe_int (fun _ _ => rfl))) (pa_cons (pe_fldE (pe_ix ix_seq (pv 0) pe_int (fun _ _ => rfl))) (pa_cons (pe_fldE (pe_ix ix_seq (pv 0) pe_int (fun _ _ => rfl))) (pa_cons (pe_fldE (pe_ix ix_seq (pv 0) pe_int (fun _ _ => rfl))) (pa_cons (pe_fldE (pe_ix ix_seq (pv 0) pe_int (fun _ _ => rfl))) pa_nil)))))))))
      (pss_cons (ps_set (i := 1) sc_F_law_fields.nd rfl (Or.inl rfl) (pe_op oAdd (pv 1) (pe_lst (pa_cons (pe_fldE (pe_ix ix_seq (pv 0) pe_int (fun _ _ => rfl))) (pa_cons (pe_fldE (pe_ix ix_seq (pv 0) pe_int (fun _ _ => rfl))) (pa_cons (pe_fldE (pe_ix ix_seq (pv 0) pe_int (fun _ _ => rfl))) pa_nil))))))
      (pss_cons (ps_set (i := 2) sc_F_law_fields.nd rfl (Or.inl rfl) (pe_lst (pa_cons (pe_fldE (pe_ix ix_seq (pv 0) pe_int (fun _ _ => rfl))) (pa_cons (pe_fldE (pe_ix ix_seq (pv 0) pe_int (fun _ _ => rfl))) (pa_cons (pe_fldE (pe_ix ix_seq (pv 0) pe_int (fun _ _ => rfl))) (pa_cons (pe_fldE (pe_ix ix_seq (pv 0) pe_int (fun _ _ => rfl))) (pa_cons (pe_fldE (pe_ix ix_seq (pv 0) pe_int (fun _ _ => rfl))) pa_nil)))))))
      (pss_one (ps_ret (pe_lst (pa_cons (pv 1) (pa_cons (pv 2) (pa_cons (pe_lst (pa_cons (pe_fldE (pe_ix ix_seq (pv 0) pe_int (fun _ _ => rfl))) pa_nil)) pa_nil))))))))))
def t_F_law_c1 (K : PySem.W.Frag) (cs : Nat → Addr) : TS :=
    (tSeq (tFor (iRng1 (tCons (tC (.int 5)) tNil)) (gName 2) (tSeq (tAsg (tLc (iRng1 (tCons (tC (.int 3)) tNil)) (gName 8) tYes (tCall (spThing K cs) [] E0 (tCons (tVar 1) tNil)) [8]) (gName 3))
    (tSeq (tAsg (tCall (spErrors K cs) [] E0 (tCons (tOp (rIx K) (tVar 3) (tC (.int 0))) (tCons (tOp (rIx K) (tVar 3) (tC (.int 1))) (tCons (tOp (rIx K) (tVar 3) (tC (.int 2))) tNil)))) (gName 4))
    (tSeq (tIfS (tNot (tB (tCall (spAlike K cs) [] E0 (tCons (tCall (spFields K cs) [] E0 (tCons (tVar 4) tNil)) (tCons (tLst (tCons (tOp rRep (tLst (tCons (tOp (rIx K) (tVar 3) (tC (.int 0))) tNil)) (tC (.int 15))) (tCons (tOp rRep (tLst (tCons (tOp (rIx K) (tVar 3) (tC (.int 1))) tNil)) (tC (.int 5))) (tCons (tLst (tCons (tOp (rIx K) (tVar 3) (tC (.int 2))) tNil)) tNil)))) tNil))))) (tRet (tC (.bl false))) tNext)
    (tSeq (tFor (iList K (tVar 3)) (gName 5) (tSeq (tIfS (tB (tCB (rIsi K) (tCons (tVar 5) (tCons (tC (.ty "list")) tNil)))) (tDrop (tBM K "list" rAppend (tVar 5) (tCons (tC (.str "new")) tNil))) tNext)
    (tIfS (tB (tCB (rIsi K) (tCons (tVar 5) (tCons (tC (.ty "dict")) tNil)))) (tAsg (tC (.int 2)) (gSub (tVar 5) (tC (.str "b")) rSetD)) tNext)))
    (tSeq (tIfS (tNot (tB (tCall (spAlike K cs) [] E0 (tCons (tCall (spFields K cs) [] E0 (tCons (tVar 4) tNil)) (tCons (tLst (tCons (tOp rRep (tLst (tCons (tOp (rIx K) (tVar 3) (tC (.int 0))) tNil)) (tC (.int 15))) (tCons (tOp rRep (tLst (tCons (tOp (rIx K) (tVar 3) (tC (.int 1))) tNil)) (tC (.int 5))) (tCons (tLst (tCons (tOp (rIx K) (tVar 3) (tC (.int 2))) tNil)) tNil)))) tNil))))) (tRet (tC (.bl false))) tNext)
    (tSeq (tFor (iEnum K (tCons (tVar 4) tNil)) (gTup K 2 (gCons (gName 6) (gCons (gName 7) gNil))) (tSeq (tIfS (tTest (tOp (rNeD K) (tCall (spKinds K cs) [] E0 (tCons (tVar 7) tNil)) (tLc (iRng1 (tCons (tC (.int 21)) tNil)) (gName 8) tYes (tOp rEq (tVar 8) (tVar 6)) [8]))) (tRet (tC (.bl false))) tNext)
    (tIfS (tOr (tNot (tB (tCB (rIsiE K) (tCons (tVar 7) (tCons (tC (.ref (cs 21))) tNil))))) (tNot (tB (tCB (rIsiE K) (tCons (tVar 7) (tCons (tC (.ty "ValueError")) tNil)))))) (tRet (tC (.bl false))) tNext)))
    (tFor (iList K (tLst (tCons (tMkB (cs 21) (tCons (tOp (rIx K) (tVar 3) (tC (.int 0))) tNil)) (tCons (tMkB (cs 21) tNil) (tCons (tMkB (cs 21) (tCons (tC (.str "a")) (tCons (tC (.int 1)) tNil))) tNil))))) (gName 7) (tIfS (tOr (tTest (tOp (rIn K false) (tC (.bl true)) (tCall (spKinds K cs) [] E0 (tCons (tVar 7) tNil)))) (tNot (tB (tCB (rIsiE K) (tCons (tVar 7) (tCons (tC (.ty "ValueError")) tNil)))))) (tRet (tC (.bl false))) tNext)))))))))
    (tRet (tC (.bl true))))
def t_F_law (K : PySem.W.Frag) (cs : Nat → Addr) : TS :=
    (tSeq (tAsg (tCall (spBag' K cs) [] E0 (tCons (tVar 0) tNil)) (gName 1))
    (t_F_law_c1 K cs))
theorem der_F_law (T : Tx P K mg cs) (d_F_law_bag : Def P w K mg base "_law_bag" 1 ["_law_script"] (spBag' K cs)) (d_F_law_thing : Def P w K mg base "_law_thing" 2 ["_law_bag_here"] (spThing K cs)) (d_F_law_errors : Def P w K mg base "_law_errors" 2 ["_law_a", "_law_b", "_law_c"] (spErrors K cs)) (d_F_law_alike : DefG P w K mg base "_law_alike" 1 ["_law_found", "_law_due"] (spAlike K cs)) (d_F_law_fields : Def P w K mg base "_law_fields" 1 ["_law_some"] (spFields K cs)) (d_F_law_kinds : Def P w K mg base "_law_kinds" 1 ["_law_e"] (spKinds K cs)) : DerG P w K mg base N_F_law "law" s_F_law 2 (t_F_law K cs) := by
  intro f cdv A outer s H E hG hr
  exact (pss_cons (ps_set (i := 1) sc_F_law.nd rfl (Or.inr rfl) (pe_def d_F_law_bag  hr (by decide) (by rfl) (pa_cons (pv 0) pa_nil)))
      (pss_cons (ps_for PassesOwn.never (by rfl) (pi_range1 (by rfl) T.n_range (pa_cons pe_int pa_nil)) (pg_name (i := 2) sc_F_law.nd rfl (Or.inl rfl)) (pss_cons (ps_setLc (i := 3) (own := [("_law_k", 8)]) (by rfl) sc_F_law.nd rfl rfl (sw_true rfl rfl rfl (by decide +kernel)) (pi_range1 (by rfl) T.n_range (pa_cons pe_int pa_nil)) (blkOk_by (own := [("_law_k", 8)]) (N := N_F_law) (sc := defScope s_F_law) (by decide +kernel)) (fun _ _ _ _ _ => (pg_name (i := 8) sc_F_law.nd rfl (Or.inl rfl))) (fun _ _ _ _ _ => pts_nil) (fun _ _ _ _ _ => (pe_def d_F_law_thing  hr (by decide) (by rfl) (pa_cons (pv 1) pa_nil))))
      (pss_cons (ps_set (i := 4) sc_F_law.nd rfl (Or.inl rfl) (pe_def d_F_law_errors  hr (by decide) (by rfl) (pa_cons (pe_ix ix_seq (pv 3) pe_int (fun _ _ => rfl)) (pa_cons (pe_ix ix_seq (pv 3) pe_int (fun _ _ => rfl)) (pa_cons (pe_ix ix_seq (pv 3) pe_int (fun _ _ => rfl)) pa_nil)))))
      (pss_cons (ps_if (pt_not (pt_val (pe_defG d_F_law_alike hG  hr (by decide) (by rfl) (pa_cons (pe_def d_F_law_fields  hr (by decide) (by rfl) (pa_cons (pv 4) pa_nil)) (pa_cons (pe_lst (pa_cons (pe_op op_rep (pe_lst (pa_cons (pe_ix ix_seq (pv 3) pe_int (fun _ _ => rfl)) pa_nil)) pe_int) (pa_cons (pe_op op_rep (pe_lst (pa_cons (pe_ix ix_seq (pv 3) pe_int (fun _ _ => rfl)) pa_nil)) pe_int) (pa_cons (pe_lst (pa_cons (pe_ix ix_seq (pv 3) pe_int (fun _ _ => rfl)) pa_nil)) pa_nil)))) pa_nil))))) (pss_one (ps_ret pe_bl)) pss_nil)
      (pss_cons (ps_for PassesOwn.never (by rfl) (pi_list (pv 3)) (pg_name (i := 5) sc_F_law.nd rfl (Or.inl rfl)) (pss_cons (ps_if (pt_val (pe_callB call_isi (by rfl) T.n_isinstance (by decide +kernel) (pa_cons (pv 5) (pa_cons (pe_bltn (v := .ty "list") (by rfl) T.n_list (by decide +kernel) rfl) pa_nil)))) (pss_one (ps_expr (pe_bm PySem.F.plainAttrs_list PySem.F.slot_list_append PySem.F.type_list_append mt_append (pv 5) (pa_cons pe_str pa_nil)))) pss_nil)
      (pss_one (ps_if (pt_val (pe_callB call_isi (by rfl) T.n_isinstance (by decide +kernel) (pa_cons (pv 5) (pa_cons (pe_bltn (v := .ty "dict") (by rfl) T.n_dict (by decide +kernel) rfl) pa_nil)))) (pss_one (ps_asg pe_int (pg_sub (pv 5) pe_str (set_dict (hu1 hr))))) pss_nil))))
      (pss_cons (ps_if (pt_not (pt_val (pe_defG d_F_law_alike hG  hr (by decide) (by rfl) (pa_cons (pe_def d_F_law_fields  hr (by decide) (by rfl) (pa_cons (pv 4) pa_nil)) (pa_cons (pe_lst (pa_cons (pe_op op_rep (pe_lst (pa_cons (pe_ix ix_seq (pv 3) pe_int (fun _ _ => rfl)) pa_nil)) pe_int) (pa_cons (pe_op op_rep (pe_lst (pa_cons (pe_ix ix_seq (pv 3) pe_int (fun _ _ => rfl)) pa_nil)) pe_int) (pa_cons (pe_lst (pa_cons (pe_ix ix_seq (pv 3) pe_int (fun _ _ => rfl)) pa_nil)) pa_nil)))) pa_nil))))) (pss_one (ps_ret pe_bl)) pss_nil)
      (pss_cons (ps_for PassesOwn.never (by rfl) (pi_enum (by rfl) T.n_enumerate (pa_cons (pv 4) pa_nil)) (pg_tup (by rfl) (pgs_cons (pg_name (i := 6) sc_F_law.nd rfl (Or.inr rfl)) (pgs_cons (pg_name (i := 7) sc_F_law.nd rfl (Or.inl rfl)) pgs_nil))) (pss_cons (ps_if (pt_cmpR (op_neD (hu64 hr)) (pe_def d_F_law_kinds  hr (by decide) (by rfl) (pa_cons (pv 7) pa_nil)) (pe_lc (own := [("_law_k", 8)]) (by rfl) sc_F_law.nd (pi_range1 (by rfl) T.n_range (pa_cons pe_int pa_nil)) (blkOk_by (own := [("_law_k", 8)]) (N := N_F_law) (sc := defScope s_F_law) (by decide +kernel)) (fun _ _ _ _ _ => (pg_name (i := 8) sc_F_law.nd rfl (Or.inl rfl))) (fun _ _ _ _ _ => pts_nil) (fun _ _ _ _ _ => (pe_cmpR op_eq (pv 8) (pv 6) (nomark _)))) (nomark _)) (pss_one (ps_ret pe_bl)) pss_nil)
      (pss_one (ps_if ((pw_or (pt_not (pt_val (pe_callB (call_isiE T.isg) (by rfl) T.n_isinstance (by decide +kernel) (pa_cons (pv 7) (pa_cons (pe_glob (v := .ref (cs 21)) (by rfl) T.k_BackError.at_ rfl) pa_nil))))) (pw_or1 (pt_not (pt_val (pe_callB (call_isiE T.isg) (by rfl) T.n_isinstance (by decide +kernel) (pa_cons (pv 7) (pa_cons (pe_bltn (v := .ty "ValueError") (by rfl) T.n_ValueError (by decide +kernel) rfl) pa_nil)))))))).pt (pss_one (ps_ret pe_bl)) pss_nil))))
      (pss_one (ps_for PassesOwn.never (by rfl) (pi_list (pe_lst (pa_cons (pe_ownY T.k_BackError (by rfl) (pa_cons (pe_ix ix_seq (pv 3) pe_int (fun _ _ => rfl)) pa_nil)) (pa_cons (pe_ownY0 T.k_BackError (by rfl)) (pa_cons (pe_ownY T.k_BackError (by rfl) (pa_cons pe_str (pa_cons pe_int pa_nil))) pa_nil))))) (pg_name (i := 7) sc_F_law.nd rfl (Or.inl rfl)) (pss_one (ps_if ((pw_or (pt_cmpR op_in_seq pe_bl (pe_def d_F_law_kinds  hr (by decide) (by rfl) (pa_cons (pv 7) pa_nil)) rfl) (pw_or1 (pt_not (pt_val (pe_callB (call_isiE T.isg) (by rfl) T.n_isinstance (by decide +kernel) (pa_cons (pv 7) (pa_cons (pe_bltn (v := .ty "ValueError") (by rfl) T.n_ValueError (by decide +kernel) rfl) pa_nil)))))))).pt (pss_one (ps_ret pe_bl)) pss_nil)))))))))))
      (pss_one (ps_ret pe_bl))))
end
end K11

namespace K11
open PySem PySem.Spec PyProof.Rows L2 Lb
open PySem.W (kitOne)
open Evl (Ex)
section
variable {P : Program} {w : World} {K : PySem.W.Frag} {mg : Str → Option Value} {base : Heap} {cs : Nat → Addr}
theorem d_law_bag (T : Tx P K mg cs) : Def P w K mg base "_law_bag" 1 ["_law_script"] (spBag' K cs) :=
  defS T.h_F_law_bag sc_F_law_bag bn_F_law_bag spBag_len (der_F_law_bag T) (bag_body rfl)
theorem d_law_take (T : Tx P K mg cs) : Def P w K mg base "_law_take" 1 ["_law_bag_here", "_law_many"] (spTake' K cs) :=
  defS T.h_F_law_take sc_F_law_take bn_F_law_take (bsp_len rfl) (der_F_law_take T) (take_body rfl)
theorem d_law_alike (T : Tx P K mg cs) : DefG P w K mg base "_law_alike" 1 ["_law_found", "_law_due"] (spAlike K cs) :=
  defG_mk T.h_F_law_alike bn_F_law_alike fun f fd F => okG F sc_F_law_alike (fun vs H Q E ⟨x, y, _, _, _, e, _⟩ => by rw [e]; rfl) fun cdv A outer s H vs Q E hG hr hs =>
    ⟨t_F_law_alike K cs, der_F_law_alike T f cdv A outer s H E hG hr, by
      obtain ⟨x, y, B, d, n, rfl, dx, dy, nr, sw, dp, sz, hn, eq, q⟩ := hs
      refine ⟨x, rfl, y, rfl, n, hn, eq, true, rfl, ?_⟩
      refine ⟨x, rfl, x, d, B, rfl, dx, nr, sw, dp, sz, ?_⟩
      refine ⟨y, rfl, y, d, B, rfl, dy, nr, sw, dp, sz, rfl, ?_⟩
      rw [decide_eq_true rfl]
      exact q⟩
/-! ### making and reading -/
section
variable {W : Wd} {ρ : List (Option D)} {S : D → Prop} {C : Addr} {i j l : Nat} {a b c : D} {p q r : Str}
theorem mk1 (ha : ρ[i]? = some (some a)) (s : S (.err C [(p, a)])) : Ev W (tMkE C [p] (tCons (tVar i) tNil)) ρ S := ev_mkE (ea_cons (ev_var ha (ea_nil ⟨rfl, s⟩)))
theorem mk2 (ha : ρ[i]? = some (some a)) (hb : ρ[j]? = some (some b)) (s : S (.err C [(p, a), (q, b)])) : Ev W (tMkE C [p, q] (tCons (tVar i) (tCons (tVar j) tNil))) ρ S := ev_mkE (ea_cons (ev_var ha (ea_cons (ev_var hb (ea_nil ⟨rfl, s⟩)))))
theorem mk3 (ha : ρ[i]? = some (some a)) (hb : ρ[j]? = some (some b)) (hc : ρ[l]? = some (some c)) (s : S (.err C [(p, a), (q, b), (r, c)])) : Ev W (tMkE C [p, q, r] (tCons (tVar i) (tCons (tVar j) (tCons (tVar l) tNil)))) ρ S :=
  ev_mkE (ea_cons (ev_var ha (ea_cons (ev_var hb (ea_cons (ev_var hc (ea_nil ⟨rfl, s⟩)))))))
theorem mk0 (s : S (.err C [])) : Ev W (tMkB C tNil) ρ S := ev_mkB (ea_nil ⟨Nat.zero_le _, s⟩)
theorem fe {ds : List D} {n : Int} {mg : Str → Option Value} {x : Str} {ms : List Value} {fs : List (Str × D)} {f : Str} {d : D} (hi : ρ[i]? = some (some (.lst ds))) (ha : atI ds n = some (.err C fs)) (O : OwnK W.K mg x C ms) (no : PySem.W.findIn W.K (.ref C) f = some none)
    (hl : fs.lookup f = some d) (s : S d) : Ev W (tFldE W.K f (tOp (rIx W.K) (tVar i) (tC (.int n)))) ρ S := ev_fldE (ev_op (ev_var hi (ev_int (rb_ix1 ha ⟨C, fs, d, rfl, O.xf, no, hl, s⟩))))
theorem isi {D' : Addr} {fs : List (Str × D)} {b : Bool} (hi : ρ[i]? = some (some (.err C fs))) (T : IsE W.K C) (hk : kitOne W.K (.ref C) (.ref D') = some b) (s : S (.bl b)) : Ev W (tCB (rIsiE W.K) (tCons (tVar i) (tCons (tC (.ref D')) tNil))) ρ S :=
  ev_CB (ea_cons (ev_var hi (ea_cons (ev_raw (ea_nil (rc_isiE (.own D') T hk s))))))
end
theorem d_law_errors (T : Tx P K mg cs) : Def P w K mg base "_law_errors" 2 ["_law_a", "_law_b", "_law_c"] (spErrors K cs) :=
  defD T.h_F_law_errors sc_F_law_errors bn_F_law_errors rfl (der_F_law_errors T) (by
    rintro B ds hl -
    match ds, hl with
    | [a, b, c], _ =>
      refine sm_seq (sm_set (ev_lst (ea_cons (mk1 rfl (ea_cons (mk2 rfl rfl (ea_cons (mk1 rfl (ea_cons (mk2 rfl rfl (ea_cons (mk2 rfl rfl (ea_cons (mk1 rfl (ea_cons (mk1 rfl (ea_cons (mk0 (ea_nil ⟨szl, ?_⟩)))))))))))))))))))
      refine sm_seq (sm_set (ev_op (ev_var rfl (ev_lst (ea_cons (mk0 (ea_cons (mk0 (ea_cons (mk1 rfl (ea_cons (mk1 rfl (ea_cons (mk1 rfl (ea_cons (mk3 rfl rfl rfl (ea_cons (mk1 rfl (ea_cons (mk0 (ea_nil ⟨szl, rb_addL (Nat.le_of_ble_eq_true rfl) ?_⟩)))))))))))))))))))))
      exact sm_ret (ev_op (ev_var rfl (ev_lst (ea_cons (mk1 rfl (ea_cons (mk2 rfl rfl (ea_cons (mk1 rfl (ea_cons (mk0 (ea_cons (mk0 (ea_nil ⟨szl, rb_addL (Nat.le_of_ble_eq_true rfl) ⟨a, b, c, rfl, rfl⟩⟩)))))))))))))))
/-- the mro of the i-th class -/
def msO (cs : Nat → Addr) (i : Nat) : List Value := .ref (cs i) :: (if i = 21 then veM else .ref (cs 21) :: veM)
theorem own (T : Tx P K mg cs) : ∀ i, i < 22 → ∃ x, OwnK K mg x (cs i) (msO cs i)
  | 0, _ => ⟨_, T.k_Wrong.toOwnK⟩
  | 1, _ => ⟨_, T.k_BadStatement.toOwnK⟩
  | 2, _ => ⟨_, T.k_BadCells.toOwnK⟩
  | 3, _ => ⟨_, T.k_BadKept.toOwnK⟩
  | 4, _ => ⟨_, T.k_BadShut.toOwnK⟩
  | 5, _ => ⟨_, T.k_Unknown.toOwnK⟩
  | 6, _ => ⟨_, T.k_NoName.toOwnK⟩
  | 7, _ => ⟨_, T.k_Over.toOwnK⟩
  | 8, _ => ⟨_, T.k_Unfit.toOwnK⟩
  | 9, _ => ⟨_, T.k_Nothing.toOwnK⟩
  | 10, _ => ⟨_, T.k_Broken.toOwnK⟩
  | 11, _ => ⟨_, T.k_BadPlacing.toOwnK⟩
  | 12, _ => ⟨_, T.k_TooMany.toOwnK⟩
  | 13, _ => ⟨_, T.k_Faulty.toOwnK⟩
  | 14, _ => ⟨_, T.k_Unsteady.toOwnK⟩
  | 15, _ => ⟨_, T.k_NoDeed.toOwnK⟩
  | 16, _ => ⟨_, T.k_Full.toOwnK⟩
  | 17, _ => ⟨_, T.k_Refused.toOwnK⟩
  | 18, _ => ⟨_, T.k_NoEntry.toOwnK⟩
  | 19, _ => ⟨_, T.k_NoText.toOwnK⟩
  | 20, _ => ⟨_, T.k_NoCommand.toOwnK⟩
  | 21, _ => ⟨_, T.k_BackError.toOwnK⟩
  | n + 22, h => by omega
theorem kit_ij (T : Tx P K mg cs) {i j : Nat} (hi : i < 22) (hj : j < 21) : kitOne K (.ref (cs i)) (.ref (cs j)) = some (j == i) := by
  by_cases e : j = i
  · subst e
    rw [kit_same]
    simp
  · obtain ⟨x, O⟩ := own T i hi
    obtain ⟨y, O2⟩ := own T j (by omega)
    have n1 : cs i ≠ cs j := fun z => e (T.inj j i (by omega) hi z.symm)
    have n2 : cs 21 ≠ cs j := fun z => by
      have := T.inj 21 j (by decide) (by omega) z
      omega
    rw [kit_cls' O O2 rfl n1]
    have c : (msO cs i).contains (.ref (cs j)) = false := by
      unfold msO
      split <;> simp [veM, Ne.symm n1, Ne.symm n2]
    rw [c]
    simp [e]
theorem d_law_kinds (T : Tx P K mg cs) : Def P w K mg base "_law_kinds" 1 ["_law_e"] (spKinds K cs) :=
  defD T.h_F_law_kinds sc_F_law_kinds bn_F_law_kinds rfl (der_F_law_kinds T) (by
    rintro B ds hl ⟨i, fs, hi, rfl⟩
    obtain ⟨x, O⟩ := own T i hi
    have t := O.isE
    have kk : ∀ j, j < 21 → kitOne K (.ref (cs i)) (.ref (cs j)) = some (j == i) := fun j hj => kit_ij T hi hj
    refine sm_seq (sm_set (ev_lst (ea_cons (isi rfl t (kk 0 (by decide)) (ea_cons (isi rfl t (kk 1 (by decide)) (ea_cons (isi rfl t (kk 2 (by decide)) (ea_cons (isi rfl t (kk 3 (by decide)) (ea_nil ⟨szl, ?_⟩)))))))))))
    refine sm_seq (sm_set (ev_op (ev_var rfl (ev_lst (ea_cons (isi rfl t (kk 4 (by decide)) (ea_cons (isi rfl t (kk 5 (by decide)) (ea_cons (isi rfl t (kk 6 (by decide)) (ea_cons (isi rfl t (kk 7 (by decide)) (ea_nil ⟨szl, rb_addL (Nat.le_of_ble_eq_true rfl) ?_⟩)))))))))))))
    refine sm_seq (sm_set (ev_op (ev_var rfl (ev_lst (ea_cons (isi rfl t (kk 8 (by decide)) (ea_cons (isi rfl t (kk 9 (by decide)) (ea_cons (isi rfl t (kk 10 (by decide)) (ea_cons (isi rfl t (kk 11 (by decide)) (ea_nil ⟨szl, rb_addL (Nat.le_of_ble_eq_true rfl) ?_⟩)))))))))))))
    refine sm_seq (sm_set (ev_op (ev_var rfl (ev_lst (ea_cons (isi rfl t (kk 12 (by decide)) (ea_cons (isi rfl t (kk 13 (by decide)) (ea_cons (isi rfl t (kk 14 (by decide)) (ea_cons (isi rfl t (kk 15 (by decide)) (ea_nil ⟨szl, rb_addL (Nat.le_of_ble_eq_true rfl) ?_⟩)))))))))))))
    refine sm_seq (sm_set (ev_op (ev_var rfl (ev_lst (ea_cons (isi rfl t (kk 16 (by decide)) (ea_cons (isi rfl t (kk 17 (by decide)) (ea_cons (isi rfl t (kk 18 (by decide)) (ea_cons (isi rfl t (kk 19 (by decide)) (ea_nil ⟨szl, rb_addL (Nat.le_of_ble_eq_true rfl) ?_⟩)))))))))))))
    refine sm_ret (ev_op (ev_var rfl (ev_lst (ea_cons (isi rfl t (kk 20 (by decide)) (ea_nil ⟨szl, rb_addL (Nat.le_of_ble_eq_true rfl) ?_⟩))))))
    intro i' fs' hi' e
    have e1 : cs i = cs i' := by
      simp only [List.cons.injEq, D.err.injEq] at e
      exact e.1.1
    have e2 := T.inj i i' hi hi' e1
    subst e2
    rfl)
theorem d_law_fields (T : Tx P K mg cs) : Def P w K mg base "_law_fields" 1 ["_law_some"] (spFields K cs) :=
  defD T.h_F_law_fields sc_F_law_fields bn_F_law_fields rfl (der_F_law_fields T) (by
    rintro B ds hl ⟨a, b, c, rfl⟩
    refine sm_seq (sm_set (ev_lst (ea_cons (fe rfl rfl T.k_Wrong.toOwnK (T.k_Wrong.no "place" (by decide)) rfl (ea_cons (fe rfl rfl T.k_BadStatement.toOwnK (T.k_BadStatement.no "function" (by decide)) rfl (ea_cons (fe rfl rfl T.k_BadCells.toOwnK (T.k_BadCells.no "many" (by decide)) rfl (ea_cons (fe rfl rfl T.k_BadKept.toOwnK (T.k_BadKept.no "function" (by decide)) rfl (ea_cons (fe rfl rfl T.k_BadShut.toOwnK (T.k_BadShut.no "function" (by decide)) rfl (ea_cons (fe rfl rfl T.k_Unknown.toOwnK (T.k_Unknown.no "function" (by decide)) rfl (ea_nil ⟨szl, ?_⟩)))))))))))))))
    refine sm_seq (sm_set (ev_op (ev_var rfl (ev_lst (ea_cons (fe rfl rfl T.k_NoName.toOwnK (T.k_NoName.no "name" (by decide)) rfl (ea_cons (fe rfl rfl T.k_Broken.toOwnK (T.k_Broken.no "at" (by decide)) rfl (ea_cons (fe rfl rfl T.k_BadPlacing.toOwnK (T.k_BadPlacing.no "at" (by decide)) rfl (ea_cons (fe rfl rfl T.k_TooMany.toOwnK (T.k_TooMany.no "limit" (by decide)) rfl (ea_cons (fe rfl rfl T.k_Faulty.toOwnK (T.k_Faulty.no "word" (by decide)) rfl (ea_cons (fe rfl rfl T.k_Unsteady.toOwnK (T.k_Unsteady.no "why" (by decide)) rfl (ea_nil ⟨szl, rb_addL (Nat.le_of_ble_eq_true rfl) ?_⟩)))))))))))))))))
    refine sm_seq (sm_set (ev_op (ev_var rfl (ev_lst (ea_cons (fe rfl rfl T.k_Full.toOwnK (T.k_Full.no "limit" (by decide)) rfl (ea_cons (fe rfl rfl T.k_Refused.toOwnK (T.k_Refused.no "deed" (by decide)) rfl (ea_cons (fe rfl rfl T.k_NoEntry.toOwnK (T.k_NoEntry.no "many" (by decide)) rfl (ea_nil ⟨szl, rb_addL (Nat.le_of_ble_eq_true rfl) ?_⟩)))))))))))
    refine sm_seq (sm_set (ev_lst (ea_cons (fe rfl rfl T.k_BadStatement.toOwnK (T.k_BadStatement.no "address" (by decide)) rfl (ea_cons (fe rfl rfl T.k_BadKept.toOwnK (T.k_BadKept.no "name" (by decide)) rfl (ea_cons (fe rfl rfl T.k_BadShut.toOwnK (T.k_BadShut.no "address" (by decide)) rfl (ea_cons (fe rfl rfl T.k_Faulty.toOwnK (T.k_Faulty.no "function" (by decide)) rfl (ea_cons (fe rfl rfl T.k_Refused.toOwnK (T.k_Refused.no "why" (by decide)) rfl (ea_nil ⟨szl, ?_⟩)))))))))))))
    refine sm_ret (ev_lst (ea_cons (ev_var rfl (ea_cons (ev_var rfl (ea_cons (ev_lst (ea_cons (fe rfl rfl T.k_Faulty.toOwnK (T.k_Faulty.no "address" (by decide)) rfl (ea_nil ⟨szl, ea_nil ⟨szl, a, b, c, rfl, rfl⟩⟩)))))))))))
end
end K11

namespace K11
open PySem PySem.Spec PyProof.Rows L2 Lb
open Evl (Ex)
section
variable {P : Program} {w : World} {K : PySem.W.Frag} {mg : Str → Option Value} {base : Heap} {cs : Nat → Addr}
theorem bag_fr {H : Hp} {b bl : Addr} {ns : List Int} (bag : BagAt K H b bl ns) : ∀ p, H p = none → ¬ p = b := fun p n e => bag.ne (by rw [← e]; exact n)
theorem take_raw {σ : L2.St} {H : Hp} {Q : VK} {E : XK} {b bl : Addr} {ns : List Int} {i : Nat} {m : Int} (hσ : σ[i]? = some (some (.ref b))) (bag : BagAt K H b bl ns) (h0 : 0 < m) (h1 : m < 1073741824)
    (q : ∀ k H1, 0 ≤ k → k < m → Xt (· = b) H H1 → BagAt K H1 b bl ns → Q (.int k) H1) : tCall (spTake' K cs) [] E (tCons (tVar i) (tCons (tC (.int m)) tNil)) σ H Q := by
  refine ⟨.ref b, hσ, b, bl, ns, (· = b), [.int m], [.int m], rfl, rfl, rfl, bag, bag_fr bag, .cons (.int m) .nil, ⟨m, rfl, h0, h1⟩, ?_⟩
  rintro v H1 d xt bag1 ⟨m', k, e, rfl, k0, k1⟩ dv
  cases dv
  cases e
  exact q k H1 k0 k1 xt bag1
theorem sml_mk {d : D} (h : (d.nr && d.py.showable && decide (d.py.depth ≤ 2) && d.py.leavesShort 50 && decide (d.py.bulk ≤ 20)) = true) : Sml d := by
  simp only [Bool.and_eq_true, decide_eq_true_eq] at h
  exact ⟨h.1.1.1.1, h.1.1.1.2, h.1.1.2, h.1.2, h.2⟩
theorem sml_int {i : Int} (h : decide (i.natAbs.log2 < 1920) = true) (h2 : decide ((PyData.shown (.int i)).length ≤ 50) = true) : Sml (.int i) := by
  refine ⟨by simp [D.nr], by simp only [D.py, PyData.showable]; exact h, by simp [D.py, PyData.depth], by simp only [D.py, PyData.leavesShort]; exact h2, by simp [D.py, PyData.bulk]⟩
theorem int_all : ∀ k : Fin 1000, decide ((((k.val : Int) - 500).natAbs).log2 < 1920) = true ∧ decide ((PyData.shown (.int ((k.val : Int) - 500))).length ≤ 50) = true := by decide +kernel
theorem sml_k {k : Int} (h0 : 0 ≤ k) (h1 : k < 1000) : Sml (.int (k - 500)) := by
  have hk : k.toNat < 1000 := by omega
  have h := int_all ⟨k.toNat, hk⟩
  have e : ((k.toNat : Nat) : Int) = k := Int.toNat_of_nonneg h0
  simp only [e] at h
  exact sml_int h.1 h.2
theorem ex_at {H H' : Hp} {a : Addr} {o : HO} (e : Ex H H') (h : H a = some o) : H' a = some o := e a o h
theorem thing_body : ∀ vs H Q E, spThing K cs vs H Q E → t_F_law_thing K cs { nx := fun _ H' => Q .non H', rt := Q } (L2.start N_F_law_thing vs) H := by
  rintro vs H Q E ⟨b, bl, ns, B, rfl, hB, bag, fr, q⟩
  refine take_raw (b := b) (cs := cs) rfl bag (by decide) (by decide) fun k0 H1 k00 k01 x1 b1 => ?_
  refine ⟨_, _, rfl, rfl, ?_⟩
  refine ⟨_, _, rfl, rfl, ⟨by decide, by decide, by decide⟩, ?_⟩
  refine ⟨by show 1 ≤ sizeLine; decide, fun t1 n1 => ⟨by show 2 ≤ sizeLine; decide, fun t2 n2 => ?_⟩⟩
  refine ⟨by show 1 ≤ sizeLine; decide, fun l1 n3 => ⟨by show 2 ≤ sizeLine; decide, fun l2 n4 => ?_⟩⟩
  have e1 : Ex H1 (upd H1 t1 (.tup [.int 2])) := Evl.Ex.new n1
  have f1 : upd H1 t1 (.tup [.int 2]) t1 = some (.tup [.int 2]) := upd_same
  generalize hA : upd H1 t1 (.tup [.int 2]) = HA at *
  have e2 : Ex HA (upd HA t2 (.tup [.int 1, .ref t1])) := Evl.Ex.new n2
  have f2 : upd HA t2 (.tup [.int 1, .ref t1]) t2 = some (.tup [.int 1, .ref t1]) := upd_same
  generalize hB : upd HA t2 (.tup [.int 1, .ref t1]) = HB at *
  have e3 : Ex HB (upd HB l1 (.lst [.int 4])) := Evl.Ex.new n3
  have f3 : upd HB l1 (.lst [.int 4]) l1 = some (.lst [.int 4]) := upd_same
  generalize hC : upd HB l1 (.lst [.int 4]) = HC at *
  have e4 : Ex HC (upd HC l2 (.lst [.int 3, .ref l1])) := Evl.Ex.new n4
  have f4 : upd HC l2 (.lst [.int 3, .ref l1]) l2 = some (.lst [.int 3, .ref l1]) := upd_same
  generalize hD : upd HC l2 (.lst [.int 3, .ref l1]) = HD at *
  intro dd n5
  refine ⟨upd_same, [(.inr "a", .int 1)], rfl, by decide, ?_⟩
  have e5 : Ex HD (upd (upd HD dd (.dK [])) dd (.dK [(.inr "a", .int 1)])) := Evl.Ex.mut (Evl.Ex.new n5) n5
  have f5 : upd (upd HD dd (.dK [])) dd (.dK [(.inr "a", .int 1)]) dd = some (.dK [(.inr "a", .int 1)]) := upd_same
  show (tCons (tLst tNil) (tCons (tLst (tCons (tC (.str "old")) tNil)) tNil)) _ (upd (upd HD dd (.dK [])) dd (.dK [(.inr "a", .int 1)])) _
  generalize hE : upd (upd HD dd (.dK [])) dd (.dK [(.inr "a", .int 1)]) = HE at *
  refine ⟨by show 0 ≤ sizeLine; decide, fun l3 n6 => ⟨by show 1 ≤ sizeLine; decide, fun l4 n7 => ⟨by show 11 ≤ sizeLine; decide, fun L n8 => ?_⟩⟩⟩
  have e6 : Ex HE (upd HE l3 (.lst [])) := Evl.Ex.new n6
  have f6 : upd HE l3 (.lst []) l3 = some (.lst []) := upd_same
  generalize hF : upd HE l3 (.lst []) = HF at *
  have e7 : Ex HF (upd HF l4 (.lst [.str "old"])) := Evl.Ex.new n7
  have f7 : upd HF l4 (.lst [.str "old"]) l4 = some (.lst [.str "old"]) := upd_same
  generalize hG : upd HF l4 (.lst [.str "old"]) = HG at *
  have e8 : Ex HG (upd HG L (.lst [.int (k0 - 500), .int (10 ^ (39 : Int).toNat), .str "main", .str "", .bl true, .non, .ref t2, .ref l2, .ref dd, .ref l3, .ref l4])) := Evl.Ex.new n8
  have f8 : upd HG L (.lst [.int (k0 - 500), .int (10 ^ (39 : Int).toNat), .str "main", .str "", .bl true, .non, .ref t2, .ref l2, .ref dd, .ref l3, .ref l4]) L = some (.lst [.int (k0 - 500), .int (10 ^ (39 : Int).toNat), .str "main", .str "", .bl true, .non, .ref t2, .ref l2, .ref dd, .ref l3, .ref l4]) := upd_same
  show (tRet (tOp (rIx K) (tVar 1) (tCall (spTake' K cs) [] E0 (tCons (tVar 0) (tCons (tC (.int 11)) tNil))))) _ [some (.ref b), some (.ref L)] (upd HG L (.lst [.int (k0 - 500), .int (10 ^ (39 : Int).toNat), .str "main", .str "", .bl true, .non, .ref t2, .ref l2, .ref dd, .ref l3, .ref l4]))
  generalize hH : upd HG L (.lst [.int (k0 - 500), .int (10 ^ (39 : Int).toNat), .str "main", .str "", .bl true, .non, .ref t2, .ref l2, .ref dd, .ref l3, .ref l4]) = HH at *
  have c7 : Ex HG HH := e8
  have c6 : Ex HF HH := Evl.Ex.trans e7 c7
  have c5 : Ex HE HH := Evl.Ex.trans e6 c6
  have c4 : Ex HD HH := Evl.Ex.trans e5 c5
  have c3 : Ex HC HH := Evl.Ex.trans e4 c4
  have c2 : Ex HB HH := Evl.Ex.trans e3 c3
  have c1 : Ex HA HH := Evl.Ex.trans e2 c2
  have c0 : Ex H1 HH := Evl.Ex.trans e1 c1
  have bagH : BagAt K HH b bl ns := b1.ex c0
  -- a new address is not b, and H does not know it
  have nb : ∀ {H' : Hp} {p : Addr}, Ex H1 H' → H' p = none → p ≠ b ∧ H p = none ∧ ¬ B p := by
    intro H' p ex n
    have n1 := Ex.none ex n
    have pb : p ≠ b := bag_fr b1 p n1
    have nH : H p = none := by
      cases z : H p with
      | none => rfl
      | some o => rw [x1 p o pb z] at n1; cases n1
    exact ⟨pb, nH, fr p nH⟩
  refine ⟨.ref L, rfl, take_raw (b := b) (cs := cs) rfl bagH (by decide) (by decide) fun k H9 k90 k91 x9 b9 => ?_⟩
  have k91' : k < ((11 : Nat) : Int) := k91
  obtain ⟨v, ev, hm, _⟩ := atI_in (xs := [V.int (k0 - 500), .int (10 ^ (39 : Int).toNat), .str "main", .str "", .bl true, .non, .ref t2, .ref l2, .ref dd, .ref l3, .ref l4]) k90 k91'
  have xt : Xt (· = b) H H9 := Xt.trans (Xt.trans x1 (Xt.of c0)) x9
  have g1 := nb (Evl.Ex.refl _) n1
  have g2 := nb e1 n2
  have g3 := nb (Evl.Ex.trans e1 e2) n3
  have g4 := nb (Evl.Ex.trans (Evl.Ex.trans e1 e2) e3) n4
  have x4 : Ex H1 HD := Evl.Ex.trans (Evl.Ex.trans (Evl.Ex.trans e1 e2) e3) e4
  have g5 := nb x4 n5
  have x5 : Ex H1 HE := Evl.Ex.trans x4 e5
  have g6 := nb x5 n6
  have x6 : Ex H1 HF := Evl.Ex.trans x5 e6
  have g7 := nb x6 n7
  have g8 := nb (Evl.Ex.trans x6 e7) n8
  refine Or.inl ⟨L, _, k, v, rfl, rfl, SqL.of (x9 L _ g8.1 f8), ev, ?_⟩
  have im : ∀ {u : V} {d : D} {T : String}, DV K (fun a => B a ∨ a ∈ ([] : List Addr)) H9 u d → Sml d → d.ty = some T → T ≠ "list" → T ≠ "dict" → Q u H9 := fun a c1 c2 c3 c4 => q _ H9 [] xt b9 (fun p hp => nomatch hp) (.imm a c1 c2 c3 c4)
  have one : ∀ {p : Addr} {o : HO}, H p = none → H9 p = some o → ∀ r ∈ [p], H r = none ∧ H9 r ≠ none := fun {p o} h1 h2 r hr => by
    rw [List.mem_singleton.mp hr]
    exact ⟨h1, by rw [h2]; simp⟩
  simp only [List.mem_cons, List.not_mem_nil, or_false] at hm
  rcases hm with rfl | rfl | rfl | rfl | rfl | rfl | rfl | rfl | rfl | rfl | rfl
  · exact im (.int _) (sml_k k00 k01) rfl (by decide) (by decide)
  · exact im (.int _) (sml_int (by decide +kernel) (by decide +kernel)) rfl (by decide) (by decide)
  · exact im (.str _) (sml_mk (by decide +kernel)) rfl (by decide) (by decide)
  · exact im (.str _) (sml_mk (by decide +kernel)) rfl (by decide) (by decide)
  · exact im (.bl _) (sml_mk (by decide +kernel)) rfl (by decide) (by decide)
  · exact im .non (sml_mk (by decide +kernel)) rfl (by decide) (by decide)
  · have nB : ∀ {p : Addr}, ¬ B p → ¬ (B p ∨ p ∈ ([] : List Addr)) := fun h z => z.elim h fun y => nomatch y
    refine im (d := .tup [.int 1, .tup [.int 2]]) (.tup (Or.inl ⟨nB g2.2.2, Or.inl (x9 _ _ g2.1 (c2 _ _ f2))⟩) (.cons (.int 1) (.cons (.tup (Or.inl ⟨nB g1.2.2, Or.inl (x9 _ _ g1.1 (c1 _ _ f1))⟩) (.cons (.int 2) .nil)) .nil))) (sml_mk (by decide +kernel)) rfl (by decide) (by decide)
  · have n34 : l1 ≠ l2 := fun z => by
      rw [← z] at n4
      rw [f3] at n4
      cases n4
    have h9 := x9 _ _ g4.1 (c4 _ _ f4)
    refine q _ H9 [l2] xt b9 (one g4.2.1 h9) (.lst (ds := [.int 3, .lst [.int 4]]) (List.mem_singleton.mpr rfl) h9 (.cons (.int 3) (.cons (.lst (Or.inl ⟨fun z => z.elim g3.2.2 fun y => n34 (List.mem_singleton.mp y), Or.inl (x9 _ _ g3.1 (c3 _ _ f3))⟩) (.cons (.int 4) .nil)) .nil)) ?_ (by decide))
    intro d hd
    simp only [List.mem_cons, List.not_mem_nil, or_false] at hd
    rcases hd with rfl | rfl <;> exact sml_mk (by decide +kernel)
  · have h9 := x9 _ _ g5.1 (c5 _ _ f5)
    exact q _ H9 [dd] xt b9 (one g5.2.1 h9) (.dct (List.mem_singleton.mpr rfl) h9 (Or.inl rfl))
  · have h9 := x9 _ _ g6.1 (c6 _ _ f6)
    exact q _ H9 [l3] xt b9 (one g6.2.1 h9) (.lst (ds := []) (List.mem_singleton.mpr rfl) h9 .nil (fun d hd => nomatch hd) (by decide))
  · have h9 := x9 _ _ g7.1 (c7 _ _ f7)
    refine q _ H9 [l4] xt b9 (one g7.2.1 h9) (.lst (ds := [.str "old"]) (List.mem_singleton.mpr rfl) h9 (.cons (.str _) .nil) ?_ (by decide))
    intro d hd
    rw [List.mem_singleton.mp hd]
    exact sml_mk (by decide +kernel)
theorem d_law_thing (T : Tx P K mg cs) : Def P w K mg base "_law_thing" 2 ["_law_bag_here"] (spThing K cs) :=
  defS T.h_F_law_thing sc_F_law_thing bn_F_law_thing (fun vs H Q E ⟨_, _, _, _, e, _⟩ => by rw [e]; rfl) (der_F_law_thing T (d_law_take T)) thing_body
end
end K11

namespace K11
open PySem PySem.Spec PyProof.Rows L2 Lb
open PySem.W (kitOne kitMeta)
open Evl (Ex)
abbrev tFG (K : PySem.W.Frag) (cs : Nat → Addr) : TS :=
    (tSeq (tFor (iEnum K (tCons (tVar 4) tNil)) (gTup K 2 (gCons (gName 6) (gCons (gName 7) gNil))) (tSeq (tIfS (tTest (tOp (rNeD K) (tCall (spKinds K cs) [] E0 (tCons (tVar 7) tNil)) (tLc (iRng1 (tCons (tC (.int 21)) tNil)) (gName 8) tYes (tOp rEq (tVar 8) (tVar 6)) [8]))) (tRet (tC (.bl false))) tNext)
    (tIfS (tOr (tNot (tB (tCB (rIsiE K) (tCons (tVar 7) (tCons (tC (.ref (cs 21))) tNil))))) (tNot (tB (tCB (rIsiE K) (tCons (tVar 7) (tCons (tC (.ty "ValueError")) tNil)))))) (tRet (tC (.bl false))) tNext)))
    (tFor (iList K (tLst (tCons (tMkB (cs 21) (tCons (tOp (rIx K) (tVar 3) (tC (.int 0))) tNil)) (tCons (tMkB (cs 21) tNil) (tCons (tMkB (cs 21) (tCons (tC (.str "a")) (tCons (tC (.int 1)) tNil))) tNil))))) (gName 7) (tIfS (tOr (tTest (tOp (rIn K false) (tC (.bl true)) (tCall (spKinds K cs) [] E0 (tCons (tVar 7) tNil)))) (tNot (tB (tCB (rIsiE K) (tCons (tVar 7) (tCons (tC (.ty "ValueError")) tNil)))))) (tRet (tC (.bl false))) tNext)))
abbrev tAL (K : PySem.W.Frag) (cs : Nat → Addr) : TT :=
    (tB (tCall (spAlike K cs) [] E0 (tCons (tCall (spFields K cs) [] E0 (tCons (tVar 4) tNil)) (tCons (tLst (tCons (tOp rRep (tLst (tCons (tOp (rIx K) (tVar 3) (tC (.int 0))) tNil)) (tC (.int 15))) (tCons (tOp rRep (tLst (tCons (tOp (rIx K) (tVar 3) (tC (.int 1))) tNil)) (tC (.int 5))) (tCons (tLst (tCons (tOp (rIx K) (tVar 3) (tC (.int 2))) tNil)) tNil)))) tNil))))
abbrev tMU (K : PySem.W.Frag) (cs : Nat → Addr) : TS :=
    (tFor (iList K (tVar 3)) (gName 5) (tSeq (tIfS (tB (tCB (rIsi K) (tCons (tVar 5) (tCons (tC (.ty "list")) tNil)))) (tDrop (tBM K "list" rAppend (tVar 5) (tCons (tC (.str "new")) tNil))) tNext)
    (tIfS (tB (tCB (rIsi K) (tCons (tVar 5) (tCons (tC (.ty "dict")) tNil)))) (tAsg (tC (.int 2)) (gSub (tVar 5) (tC (.str "b")) rSetD)) tNext)))
abbrev tCO (K : PySem.W.Frag) (cs : Nat → Addr) : TE :=
    (tLc (iRng1 (tCons (tC (.int 3)) tNil)) (gName 8) tYes (tCall (spThing K cs) [] E0 (tCons (tVar 1) tNil)) [8])
section
variable {P : Program} {w : World} {K : PySem.W.Frag} {mg : Str → Option Value} {base : Heap} {cs : Nat → Addr}
theorem errD_at {a b c d : D} : ∀ {i : Nat}, (errD cs a b c)[i]? = some d → i < 21 ∧ ∃ fs, d = .err (cs i) fs
  | 0, h => ⟨by decide, _, (Option.some.inj h).symm⟩
  | 1, h => ⟨by decide, _, (Option.some.inj h).symm⟩
  | 2, h => ⟨by decide, _, (Option.some.inj h).symm⟩
  | 3, h => ⟨by decide, _, (Option.some.inj h).symm⟩
  | 4, h => ⟨by decide, _, (Option.some.inj h).symm⟩
  | 5, h => ⟨by decide, _, (Option.some.inj h).symm⟩
  | 6, h => ⟨by decide, _, (Option.some.inj h).symm⟩
  | 7, h => ⟨by decide, _, (Option.some.inj h).symm⟩
  | 8, h => ⟨by decide, _, (Option.some.inj h).symm⟩
  | 9, h => ⟨by decide, _, (Option.some.inj h).symm⟩
  | 10, h => ⟨by decide, _, (Option.some.inj h).symm⟩
  | 11, h => ⟨by decide, _, (Option.some.inj h).symm⟩
  | 12, h => ⟨by decide, _, (Option.some.inj h).symm⟩
  | 13, h => ⟨by decide, _, (Option.some.inj h).symm⟩
  | 14, h => ⟨by decide, _, (Option.some.inj h).symm⟩
  | 15, h => ⟨by decide, _, (Option.some.inj h).symm⟩
  | 16, h => ⟨by decide, _, (Option.some.inj h).symm⟩
  | 17, h => ⟨by decide, _, (Option.some.inj h).symm⟩
  | 18, h => ⟨by decide, _, (Option.some.inj h).symm⟩
  | 19, h => ⟨by decide, _, (Option.some.inj h).symm⟩
  | 20, h => ⟨by decide, _, (Option.some.inj h).symm⟩
  | n + 21, h => by
    exfalso
    have := (List.getElem?_eq_some_iff.mp h).1
    simp [errD] at this
    omega
theorem bls_lay : ∀ bs : List Bool, PyData.canLayAll0 (D.pys (bs.map D.bl)) = true
  | [] => by simp [D.pys, PyData.canLayAll0]
  | b :: bs => by simp [D.pys, D.py, PyData.canLayAll0, PyData.canLay0, bls_lay bs]
theorem bls_dep : ∀ bs : List Bool, PyData.depthAll (D.pys (bs.map D.bl)) = 0
  | [] => by simp [D.pys, PyData.depthAll]
  | b :: bs => by simp [D.pys, D.py, PyData.depthAll, PyData.depth, bls_dep bs]
theorem bls_pl : ∀ bs : List Bool, D.pls (bs.map D.bl) = true
  | [] => by simp [D.pls]
  | b :: bs => by simp [D.pls, D.pl, bls_pl bs]
theorem bls_eqv : ∀ bs : List Bool, PyData.eqvAll (D.pys (bs.map D.bl)) (D.pys (bs.map D.bl)) = true
  | [] => by simp [D.pys, PyData.eqvAll]
  | b :: bs => by simp [D.pys, D.py, PyData.eqvAll, PyData.eqv, bls_eqv bs]
theorem bls_ne {W : Wd} {S : D → Prop} {bs : List Bool} (s : S (.bl false)) : Rb W (rNeD W.K) (.lst (bs.map D.bl)) (.lst (bs.map D.bl)) S := by
  have sh : SeqAt.shaped (D.lst (bs.map D.bl)).py = true := by
    unfold SeqAt.shaped
    simp only [D.py, PyData.canLay0, bls_lay, PyData.depth, bls_dep]
    decide
  refine rb_neD (by simp only [D.pl]; exact bls_pl bs) (by simp only [D.pl]; exact bls_pl bs) sh sh ?_
  have e : PyData.eqv (D.lst (bs.map D.bl)).py (D.lst (bs.map D.bl)).py = true := by
    simp only [D.py, PyData.eqv]
    exact bls_eqv bs
  rw [e]
  exact s
theorem isiT {W : Wd} {ρ : List (Option D)} {S : D → Prop} {C : Addr} {i : Nat} {fs : List (Str × D)} {b : Bool} {n : String} (hi : ρ[i]? = some (some (.err C fs))) (T : IsE W.K C) (hk : kitOne W.K (.ref C) (.type n) = some b) (s : S (.bl b)) :
    Ev W (tCB (rIsiE W.K) (tCons (tVar i) (tCons (tC (.ty n)) tNil))) ρ S := ev_CB (ea_cons (ev_var hi (ea_cons (ev_raw (ea_nil (rc_isiE (.ty n) T hk s))))))
theorem kit_back (T : Tx P K mg cs) {i : Nat} (hi : i < 22) : kitOne K (.ref (cs i)) (.ref (cs 21)) = some true := by
  by_cases e : i = 21
  · subst e
    exact kit_same
  · obtain ⟨x, O⟩ := own T i hi
    obtain ⟨y, O2⟩ := own T 21 (by decide)
    have n1 : cs i ≠ cs 21 := fun z => e (T.inj i 21 hi (by decide) z)
    rw [kit_cls' O O2 rfl n1]
    unfold msO
    simp [e]
theorem kit_val (T : Tx P K mg cs) {i : Nat} (hi : i < 22) : kitOne K (.ref (cs i)) (.type "ValueError") = some true := by
  obtain ⟨x, O⟩ := own T i hi
  rw [kit_ty O rfl (by decide +kernel)]
  unfold msO
  split <;> simp [veM]
def eqF (i : Nat) : D → D
  | .int k => .bl (decide (k = (i : Int)))
  | _ => .non
theorem eqF_all (i : Nat) : (rngD 0 21).map (eqF i) = (kindsD i).map D.bl := by
  unfold rngD kindsD
  rw [List.map_map, List.map_map]
  refine List.map_congr_left fun j _ => ?_
  show D.bl (decide ((0 : Int) + (j : Int) = (i : Int))) = D.bl (j == i)
  by_cases h : j = i
  · subst h
    simp
  · have h2 : ¬ ((0 : Int) + (j : Int) = (i : Int)) := by omega
    rw [decide_eq_false h2]
    simp [h]
/-- what the slots hold behind the making of the errors -/
def Rho (cs : Nat → Addr) (b : Addr) (v0 v1 v2 : V) (ρ : List (Option D)) : Prop := ∃ x0 x2 x5 x6 x7 x8, ρ = [x0, some (.raw (.ref b)), x2, some (.lst [.raw v0, .raw v1, .raw v2]), some (.lst (errD cs (.raw v0) (.raw v1) (.raw v2))), x5, x6, x7, x8]
theorem fg_ok (T : Tx P K mg cs) {B : Addr → Prop} {b : Addr} {v0 v1 v2 : V} {ρ : List (Option D)} (hρ : Rho cs b v0 v1 v2 ρ) : Sm (Wp K B) (tFG K cs) ρ ⟨Rho cs b v0 v1 v2, fun _ => False⟩ := by
  obtain ⟨x0, x2, x5, x6, x7, x8, rfl⟩ := hρ
  refine sm_seq (sm_for (ls := [6] ++ ([7] ++ [])) (iw_enum (ev_var rfl ⟨_, rfl, fun _ => Rho cs b v0 v1 v2, ⟨_, _, _, _, _, _, rfl⟩, ?_, ?_⟩)))
  · rintro i d ρ' hd ⟨y0, y2, y5, y6, y7, y8, rfl⟩
    obtain ⟨e, he, rfl⟩ := enumD_of hd
    obtain ⟨hi, fs, rfl⟩ := errD_at he
    rw [Nat.zero_add]
    obtain ⟨x, O⟩ := own T i (by omega)
    refine tg_tup rfl (tgs_cons (tg_name (tgs_cons (tg_name (tgs_nil ?_)))))
    refine sm_seq (sm_if (ts_test (ev_op (ev_callD (ea_cons (ev_var rfl (ea_nil ⟨rfl, ⟨i, fs, by omega, rfl⟩, ?_⟩)))))))
    intro r hr
    rw [hr i fs (by omega) rfl]
    refine ev_lcI (ls := [8]) (fun j h => h) (iw_rng1 (ea_cons (ev_int (ea_nil ⟨21, rfl, by decide, by decide, ?_⟩))))
    refine ⟨by rw [rngD_len]; exact szn' (by decide), eqF i, ?_, ?_⟩
    · rintro L fr j d hd
      obtain ⟨_, rfl⟩ := rngD_get hd
      exact tg_name (ev_op (ev_var rfl (ev_var rfl (rb_eqI rfl))))
    · show Rb _ _ _ (.lst ((rngD 0 21).map (eqF i))) _
      rw [eqF_all]
      refine bls_ne ⟨_, rfl, (if_neg (by decide)).mpr (sm_next ?_)⟩
      refine sm_if (ts_or (ts_not (ts_B (isi rfl O.isE (kit_back T (by omega)) ⟨_, rfl, (if_neg (by decide)).mpr ?_⟩))))
      exact ts_not (ts_B (isiT rfl O.isE (kit_val T (by omega)) ⟨_, rfl, (if_neg (by decide)).mpr (sm_next ⟨_, _, _, _, _, _, rfl⟩)⟩))
  · rintro ρ' ⟨y0, y2, y5, y6, y7, y8, rfl⟩
    obtain ⟨x, O⟩ := own T 21 (by decide)
    refine sm_for (ls := [7]) (iw_list (ev_lst (ea_cons (ev_mkB (ea_cons (ev_op (ev_var rfl (ev_int (rb_ix1 rfl (ea_nil ⟨Nat.le_of_ble_eq_true rfl, ?_⟩))))))))))
    refine ea_cons (ev_mkB (ea_nil ⟨by decide, ea_cons (ev_mkB (ea_cons (ev_str (ea_cons (ev_int (ea_nil ⟨by decide, ea_nil ⟨szl, _, rfl, ?_⟩⟩))))))⟩))
    refine ⟨fun _ => Rho cs b v0 v1 v2, ⟨_, _, _, _, _, _, rfl⟩, ?_, fun ρ' h => h⟩
    rintro i d ρ' hd ⟨z0, z2, z5, z6, z7, z8, rfl⟩
    have hm : d = .err (cs 21) [] := by
      have := List.mem_of_getElem? hd
      simp only [List.mem_cons, List.not_mem_nil, or_false] at this
      rcases this with h | h | h <;> exact h
    subst hm
    refine tg_name (sm_if (ts_or (ts_test (ev_op (ev_bl (ev_callD (ea_cons (ev_var rfl (ea_nil ⟨rfl, ⟨21, [], by decide, rfl⟩, ?_⟩)))))))))
    intro r hr
    rw [hr 21 [] (by decide) rfl]
    refine rb_inB ⟨_, rfl, ?_⟩
    have e : ((kindsD 21).any fun c => c == true) = false := by decide
    rw [e]
    refine (if_neg (by decide)).mpr ?_
    exact ts_not (ts_B (isiT rfl O.isE (kit_val T (by decide)) ⟨_, rfl, (if_neg (by decide)).mpr (sm_next ⟨_, _, _, _, _, _, rfl⟩)⟩))
end
end K11

namespace K11
open PySem PySem.Spec PyProof.Rows L2 Lb
open Evl (Ex)
/-! ### the data of things, gathered -/
structure Dt (d : D) : Prop where
  nr : d.nr = true
  sw : d.py.showable = true
  dp : d.py.depth ≤ 3
  ls : d.py.leavesShort 50 = true
  bk : d.py.bulk ≤ 200
theorem pys_rep (d : D) : ∀ n, D.pys (List.replicate n d) = List.replicate n d.py
  | 0 => by simp [D.pys]
  | n + 1 => by rw [List.replicate_succ, D.pys, pys_rep d n, List.replicate_succ]
theorem nrs_rep {d : D} (h : d.nr = true) : ∀ n, D.nrs (List.replicate n d) = true
  | 0 => by simp [D.nrs]
  | n + 1 => by rw [List.replicate_succ, D.nrs, h, nrs_rep h n]; rfl
section
variable {x : PyData}
theorem sw_rep (h : x.showable = true) : ∀ n, PyData.showableAll (List.replicate n x) = true
  | 0 => by simp [PyData.showableAll]
  | n + 1 => by rw [List.replicate_succ, PyData.showableAll, h, sw_rep h n]; rfl
theorem ls_rep (h : x.leavesShort 50 = true) : ∀ n, PyData.leavesShortAll 50 (List.replicate n x) = true
  | 0 => by simp [PyData.leavesShortAll]
  | n + 1 => by rw [List.replicate_succ, PyData.leavesShortAll, h, ls_rep h n]; rfl
theorem dp_rep (h : x.depth ≤ 3) : ∀ n, PyData.depthAll (List.replicate n x) ≤ 3
  | 0 => by simp [PyData.depthAll]
  | n + 1 => by
    rw [List.replicate_succ, PyData.depthAll]
    have := dp_rep h n
    omega
theorem bk_rep (h : x.bulk ≤ 200) : ∀ n, PyData.bulkAll (List.replicate n x) ≤ n * 201
  | 0 => by simp [PyData.bulkAll]
  | n + 1 => by
    rw [List.replicate_succ, PyData.bulkAll]
    have := bk_rep h n
    omega
end
theorem fld_nr {a b c : D} (h0 : Dt a) (h1 : Dt b) (h2 : Dt c) : (fieldsD a b c).nr = true := by
  unfold fieldsD
  simp only [D.nr, D.nrs, nrs_rep h0.nr, nrs_rep h1.nr, h2.nr, Bool.and_true]
theorem fld_py (a b c : D) : (fieldsD a b c).py = .list [.list (List.replicate 15 a.py), .list (List.replicate 5 b.py), .list [c.py]] := by
  unfold fieldsD
  simp only [D.py, D.pys, pys_rep]
theorem fld_sw {a b c : D} (h0 : Dt a) (h1 : Dt b) (h2 : Dt c) : (fieldsD a b c).py.showable = true := by
  rw [fld_py]
  simp only [PyData.showable, PyData.showableAll, sw_rep h0.sw, sw_rep h1.sw, h2.sw, Bool.and_true]
theorem fld_dp {a b c : D} (h0 : Dt a) (h1 : Dt b) (h2 : Dt c) : (fieldsD a b c).py.depth ≤ 64 := by
  rw [fld_py]
  simp only [PyData.depth, PyData.depthAll]
  have d0 := dp_rep h0.dp 15
  have d1 := dp_rep h1.dp 5
  have d2 := h2.dp
  omega
theorem fld_sz {a b c : D} (h0 : Dt a) (h1 : Dt b) (h2 : Dt c) : (fieldsD a b c).py.shown.length ≤ sizeLine := by
  have ls : (fieldsD a b c).py.leavesShort 50 = true := by
    rw [fld_py]
    simp only [PyData.leavesShort, PyData.leavesShortAll, ls_rep h0.ls, ls_rep h1.ls, h2.ls, Bool.and_true]
  have bk : (fieldsD a b c).py.bulk ≤ 5000 := by
    rw [fld_py]
    simp only [PyData.bulk, PyData.bulkAll]
    have d0 := bk_rep h0.bk 15
    have d1 := bk_rep h1.bk 5
    have d2 := h2.bk
    omega
  have h := PyData.shown_le_bulk 50 (by decide) _ ls
  refine Nat.le_trans h (Nat.le_trans (?_ : _ ≤ 300000) (by decide))
  omega
section
variable {K : PySem.W.Frag} {B : Addr → Prop} {H : Hp}
theorem reps_of {v : V} : ∀ {n : Nat} {xs : List V}, DVs K B H xs (List.replicate n (.raw v)) → xs = List.replicate n v
  | 0, _, h => by
    rw [List.replicate_zero] at h
    cases h
    rfl
  | n + 1, _, h => by
    rw [List.replicate_succ] at h
    cases h with
    | cons h1 h2 =>
      cases h1
      rw [reps_of h2, List.replicate_succ]
theorem reps_dv {v : V} {d : D} (h : DV K B H v d) : ∀ n, DVs K B H (List.replicate n v) (List.replicate n d)
  | 0 => .nil
  | n + 1 => .cons h (reps_dv h n)
theorem eqv_self {v : V} {d : D} {n : Nat} (h : DV K B H v d) (nr : d.nr = true) : EqV K H (n + 1) v v := by
  cases h with
  | non => exact Or.inl ⟨rfl, rfl⟩
  | bl b => exact Or.inl ⟨rfl, rfl⟩
  | int i => exact Or.inl ⟨rfl, rfl⟩
  | str x => exact Or.inl ⟨rfl, rfl⟩
  | lst _ _ => exact Or.inr (Or.inl ⟨_, rfl, rfl⟩)
  | tup _ _ => exact Or.inr (Or.inl ⟨_, rfl, rfl⟩)
  | dct _ _ _ _ => exact Or.inr (Or.inl ⟨_, rfl, rfl⟩)
  | err _ _ _ _ _ _ => simp [D.nr] at nr
  | err0 _ _ => simp [D.nr] at nr
  | raw _ => simp [D.nr] at nr
theorem pair_rep {F : V → V → Prop} {v : V} (h : F v v) : ∀ n, Paired F (List.replicate n v) (List.replicate n v)
  | 0 => .nil
  | n + 1 => .cons h (pair_rep h n)
/-- the shape of what _law_fields gives, taken apart -/
theorem fld_open {x : V} {v0 v1 v2 : V} (h : DV K B H x (fieldsD (.raw v0) (.raw v1) (.raw v2))) : ∃ a l1 l2 l3, x = .ref a ∧ LB K B H a [.ref l1, .ref l2, .ref l3] ∧ LB K B H l1 (List.replicate 15 v0) ∧ LB K B H l2 (List.replicate 5 v1) ∧ LB K B H l3 [v2] := by
  unfold fieldsD at h
  cases h with
  | lst ha hs =>
    cases hs with
    | cons h1 hs =>
      cases hs with
      | cons h2 hs =>
        cases hs with
        | cons h3 hs =>
          cases hs
          cases h1 with
          | lst b1 c1 =>
            cases h2 with
            | lst b2 c2 =>
              cases h3 with
              | lst b3 c3 =>
                rw [reps_of c1] at b1
                rw [reps_of c2] at b2
                have e3 := reps_of (n := 1) c3
                rw [e3] at b3
                exact ⟨_, _, _, _, rfl, ha, b1, b2, b3⟩
theorem lb_bot {a : Addr} {xs : List V} (h : LB K B H a xs) : LB K (fun _ => False) H a xs := h.weak (wk_of fun _ z => z.elim)
theorem fld_up {x v0 v1 v2 : V} {d0 d1 d2 : D} (h : DV K B H x (fieldsD (.raw v0) (.raw v1) (.raw v2))) (e0 : DV K (fun _ => False) H v0 d0) (e1 : DV K (fun _ => False) H v1 d1) (e2 : DV K (fun _ => False) H v2 d2) : DV K (fun _ => False) H x (fieldsD d0 d1 d2) := by
  obtain ⟨a, l1, l2, l3, rfl, ha, b1, b2, b3⟩ := fld_open h
  exact .lst (lb_bot ha) (.cons (.lst (lb_bot b1) (reps_dv e0 15)) (.cons (.lst (lb_bot b2) (reps_dv e1 5)) (.cons (.lst (lb_bot b3) (.cons e2 .nil)) .nil)))
theorem fld_eq {B' : Addr → Prop} {x y v0 v1 v2 : V} (h : DV K B H x (fieldsD (.raw v0) (.raw v1) (.raw v2))) (g : DV K B' H y (fieldsD (.raw v0) (.raw v1) (.raw v2))) (s0 : EqV K H 1 v0 v0) (s1 : EqV K H 1 v1 v1) (s2 : EqV K H 1 v2 v2) : EqR K H (EqV K H 2) x y := by
  obtain ⟨a, l1, l2, l3, rfl, ha, b1, b2, b3⟩ := fld_open h
  obtain ⟨a', m1, m2, m3, rfl, ha', c1, c2, c3⟩ := fld_open g
  refine Or.inl ⟨a, a', _, _, rfl, rfl, ha.sq, ha'.sq, .cons (Or.inr (Or.inr (Or.inl ⟨_, _, _, _, rfl, rfl, b1.sq, c1.sq, pair_rep s0 15⟩))) (.cons (Or.inr (Or.inr (Or.inl ⟨_, _, _, _, rfl, rfl, b2.sq, c2.sq, pair_rep s1 5⟩))) (.cons (Or.inr (Or.inr (Or.inl ⟨_, _, _, _, rfl, rfl, b3.sq, c3.sq, .cons s2 .nil⟩))) .nil))⟩
end
/-- a value reads as such data -/
def Da (K : PySem.W.Frag) (H : Hp) (v : V) : Prop := ∃ d, DV K (fun _ => False) H v d ∧ Dt d
theorem Da.ex {K : PySem.W.Frag} {H H' : Hp} {v : V} (e : Ex H H') (h : Da K H v) : Da K H' v := by
  obtain ⟨d, dv, t⟩ := h
  exact ⟨d, dv.mono (Xt.of e), t⟩
section
variable {P : Program} {w : World} {K : PySem.W.Frag} {mg : Str → Option Value} {base : Heap} {cs : Nat → Addr}
/-- not alike: never -/
theorem al_ok {B : Addr → Prop} {b : Addr} {v0 v1 v2 : V} {ρ : List (Option D)} {σ : L2.St} {H : Hp} (hρ : Rho cs b v0 v1 v2 ρ) (sl : Slots (Wp K B) σ H ρ) (fr : ∀ p, H p = none → ¬ B p) (t0 : Da K H v0) (t1 : Da K H v1) (t2 : Da K H v2)
    {Q : Bool → Hp → Prop} (q : ∀ H', Ex H H' → Q true H') : tAL K cs σ H Q := by
  obtain ⟨x0, x2, x5, x6, x7, x8, rfl⟩ := hρ
  have f : Ev (Wp K B) (tCall (spFields K cs) [] E0 (tCons (tVar 4) tNil)) [x0, some (.raw (.ref b)), x2, some (.lst [.raw v0, .raw v1, .raw v2]), some (.lst (errD cs (.raw v0) (.raw v1) (.raw v2))), x5, x6, x7, x8] fun d => d = fieldsD (.raw v0) (.raw v1) (.raw v2) := by
    refine ev_callD (ea_cons (ev_var rfl (ea_nil ⟨rfl, ⟨_, _, _, rfl⟩, ?_⟩)))
    rintro d ⟨a, b', c, e, rfl⟩
    have e1 : errD cs (.raw v0) (.raw v1) (.raw v2) = errD cs a b' c := by
      simpa using e
    have ea : (D.raw v0) = a := by
      have := congrArg (fun l => l[0]?) e1
      simpa [errD] using this
    have eb : (D.raw v1) = b' := by
      have := congrArg (fun l => l[1]?) e1
      have h2 : D.err (cs 1) [("function", D.raw v0), ("address", D.raw v1)] = D.err (cs 1) [("function", a), ("address", b')] := by simpa [errD] using this
      simp at h2
      exact h2.2
    have ec : (D.raw v2) = c := by
      have := congrArg (fun l => l[13]?) e1
      have h2 : D.err (cs 13) [("word", D.raw v0), ("function", D.raw v1), ("address", D.raw v2)] = D.err (cs 13) [("word", a), ("function", b'), ("address", c)] := by simpa [errD] using this
      simp at h2
      exact h2.2.2
    rw [ea, eb, ec]
  have g : Ev (Wp K B) (tLst (tCons (tOp rRep (tLst (tCons (tOp (rIx K) (tVar 3) (tC (.int 0))) tNil)) (tC (.int 15))) (tCons (tOp rRep (tLst (tCons (tOp (rIx K) (tVar 3) (tC (.int 1))) tNil)) (tC (.int 5))) (tCons (tLst (tCons (tOp (rIx K) (tVar 3) (tC (.int 2))) tNil)) tNil))))
      [x0, some (.raw (.ref b)), x2, some (.lst [.raw v0, .raw v1, .raw v2]), some (.lst (errD cs (.raw v0) (.raw v1) (.raw v2))), x5, x6, x7, x8] fun d => d = fieldsD (.raw v0) (.raw v1) (.raw v2) := by
    refine ev_lst (ea_cons (ev_rep1 (by decide) (by decide) (ev_op (ev_var rfl (ev_int (rb_ix1 rfl (ea_cons (ev_rep1 (by decide) (by decide) (ev_op (ev_var rfl (ev_int (rb_ix1 rfl ?_))))))))))))
    exact ea_cons (ev_lst (ea_cons (ev_op (ev_var rfl (ev_int (rb_ix1 rfl (ea_nil ⟨szl, ea_nil ⟨szl, rfl⟩⟩)))))))
  refine f σ H sl fr _ fun x H1 d r1 i1 s1 dx => ?_
  subst s1
  have r1' : Ex H H1 := r1
  refine g σ H1 (sl.mono r1) i1 _ fun y H2 d r2 i2 s2 dy => ?_
  subst s2
  have r2' : Ex H1 H2 := r2
  have ex : Ex H H2 := Evl.Ex.trans r1' r2'
  obtain ⟨d0, e0, h0⟩ := t0.ex ex
  obtain ⟨d1, e1, h1⟩ := t1.ex ex
  obtain ⟨d2, e2, h2⟩ := t2.ex ex
  have dx' : DV K B H2 x (fieldsD (.raw v0) (.raw v1) (.raw v2)) := dx.mono (Xt.of r2')
  exact ⟨x, y, fun _ => False, fieldsD d0 d1 d2, 2, rfl, fld_up dx' e0 e1 e2, fld_up dy e0 e1 e2, fld_nr h0 h1 h2, fld_sw h0 h1 h2, fld_dp h0 h1 h2, fld_sz h0 h1 h2, by decide,
    fld_eq dx' dy (eqv_self e0 h0.nr) (eqv_self e1 h1.nr) (eqv_self e2 h2.nr), true, rfl, q H2 ex⟩
end
end K11

namespace K11
open PySem PySem.Spec PyProof.Rows L2 Lb
open Evl (Ex)
section
variable {K : PySem.W.Frag} {B B' : Addr → Prop} {H H' : Hp} {ms ms' : List Addr} {n n' : Nat} {v : V}
theorem th_step (h : Th K B H ms n v) (w : Wk B B' H) (x : Xt B' H H') (k : ∀ p ∈ ms, ∀ o, H p = some o → H' p = some o) (s : ∀ p ∈ ms, p ∈ ms') (hn : n ≤ n') : Th K B' H' ms' n' v := by
  cases h with
  | imm dv sm ty t1 t2 => exact .imm ((dv.weak w).mono x) sm ty t1 t2
  | lst hp hH dv sm hl => exact .lst (s _ hp) (k _ hp _ hH) ((dv.weak w).mono x) sm (Nat.le_trans hl hn)
  | dct hp hH hk => exact .dct (s _ hp) (k _ hp _ hH) hk
theorem sml_dt {d : D} (h : Sml d) : Dt d := ⟨h.nr, h.sw, Nat.le_trans h.dp (by decide), h.ls, Nat.le_trans h.bk (by decide)⟩
theorem smls : ∀ {ds : List D}, (∀ d ∈ ds, Sml d) → D.nrs ds = true ∧ PyData.showableAll (D.pys ds) = true ∧ PyData.depthAll (D.pys ds) ≤ 2 ∧ PyData.leavesShortAll 50 (D.pys ds) = true ∧ PyData.bulkAll (D.pys ds) ≤ ds.length * 21
  | [], _ => by simp [D.nrs, D.pys, PyData.showableAll, PyData.depthAll, PyData.leavesShortAll, PyData.bulkAll]
  | d :: ds, h => by
    have h1 := h d List.mem_cons_self
    obtain ⟨a1, a2, a3, a4, a5⟩ := smls fun z hz => h z (List.mem_cons_of_mem _ hz)
    have b3 := h1.dp
    have b5 := h1.bk
    refine ⟨?_, ?_, ?_, ?_, ?_⟩
    · rw [D.nrs, h1.nr, a1]; rfl
    · rw [D.pys, PyData.showableAll, h1.sw, a2]; rfl
    · rw [D.pys, PyData.depthAll]; omega
    · rw [D.pys, PyData.leavesShortAll, h1.ls, a4]; rfl
    · rw [D.pys, PyData.bulkAll, List.length_cons]; omega
theorem dt_mk {d : D} (h : (d.nr && d.py.showable && decide (d.py.depth ≤ 3) && d.py.leavesShort 50 && decide (d.py.bulk ≤ 200)) = true) : Dt d := by
  simp only [Bool.and_eq_true, decide_eq_true_eq] at h
  exact ⟨h.1.1.1.1, h.1.1.1.2, h.1.1.2, h.1.2, h.2⟩
theorem th_da (h : Th K B H ms n v) (hn : n ≤ 5) : Da K H v := by
  have w : Wk B (fun _ => False) H := wk_of fun _ z => z.elim
  cases h with
  | imm dv sm ty t1 t2 => exact ⟨_, dv.weak w, sml_dt sm⟩
  | @lst p xs ds hp hH dv sm hl =>
    obtain ⟨a1, a2, a3, a4, a5⟩ := smls sm
    refine ⟨.lst ds, .lst (Or.inl ⟨fun z => z, Or.inl hH⟩) (dv.weak w), ?_, ?_, ?_, ?_, ?_⟩
    · simp only [D.nr]; exact a1
    · simp only [D.py, PyData.showable]; exact a2
    · simp only [D.py, PyData.depth]; omega
    · simp only [D.py, PyData.leavesShort]; exact a4
    · simp only [D.py, PyData.bulk]; omega
  | @dct p kvs hp hH hk =>
    rcases hk with rfl | rfl
    · exact ⟨.dct [(.str "a", .int 1)], .dct (fun z => z) hH (.cons (.str _) .nil) (.cons (.int 1) .nil), dt_mk (by decide +kernel)⟩
    · exact ⟨.dct [(.str "a", .int 1), (.str "b", .int 2)], .dct (fun z => z) hH (.cons (.str _) (.cons (.str _) .nil)) (.cons (.int 1) (.cons (.int 2) .nil)), dt_mk (by decide +kernel)⟩
theorem sml_new : Sml (.str "new") := sml_mk (by decide +kernel)
theorem xt_upd {p : Addr} {o : HO} (hp : B p) : Xt B H (upd H p o) := fun a u na ha => by
  rw [upd_ne fun z => na (by rw [z]; exact hp)]
  exact ha
/-- a list grew -/
theorem th_app {p : Addr} {xs : List V} {ds : List D} (h : Th K B H ms n v) (hB : ∀ a ∈ ms, B a) (hp : p ∈ ms) (hH : H p = some (.lst xs)) (dv : DVs K B H xs ds) (sm : ∀ d ∈ ds, Sml d) (hl : ds.length ≤ n) : Th K B (upd H p (.lst (xs ++ [.str "new"]))) ms (n + 1) v := by
  have x : Xt B H (upd H p (.lst (xs ++ [.str "new"]))) := xt_upd (hB p hp)
  cases h with
  | imm dv2 sm2 ty t1 t2 => exact .imm (dv2.mono x) sm2 ty t1 t2
  | @lst p2 xs2 ds2 hp2 hH2 dv2 sm2 hl2 =>
    by_cases e : p2 = p
    · subst e
      refine .lst (ds := ds ++ [.str "new"]) hp2 upd_same ((dv.append (.cons (.str _) .nil)).mono x) ?_ (by simp; omega)
      intro d hd
      rcases List.mem_append.mp hd with hd | hd
      · exact sm d hd
      · rw [List.mem_singleton.mp hd]
        exact sml_new
    · exact .lst hp2 (by rw [upd_ne e]; exact hH2) (dv2.mono x) sm2 (by omega)
  | @dct p2 kvs hp2 hH2 hk =>
    have e : p2 ≠ p := fun z => by
      rw [z, hH] at hH2
      cases hH2
    exact .dct hp2 (by rw [upd_ne e]; exact hH2) hk
/-- a dict got its b -/
theorem th_put {p : Addr} {kvs : List (Key × V)} (h : Th K B H ms n v) (hB : ∀ a ∈ ms, B a) (hp : p ∈ ms) (hH : H p = some (.dK kvs)) (hk : kvs = [(.inr "a", .int 1)] ∨ kvs = [(.inr "a", .int 1), (.inr "b", .int 2)]) : Th K B (upd H p (.dK (putK kvs (.inr "b") (.int 2)))) ms (n + 1) v := by
  have x : Xt B H (upd H p (.dK (putK kvs (.inr "b") (.int 2)))) := xt_upd (hB p hp)
  have pk : putK kvs (.inr "b") (.int 2) = [(.inr "a", .int 1), (.inr "b", .int 2)] := by
    rcases hk with rfl | rfl
    · rfl
    · rfl
  cases h with
  | imm dv2 sm2 ty t1 t2 => exact .imm (dv2.mono x) sm2 ty t1 t2
  | @lst p2 xs2 ds2 hp2 hH2 dv2 sm2 hl2 =>
    have e : p2 ≠ p := fun z => by
      rw [z, hH] at hH2
      cases hH2
    exact .lst hp2 (by rw [upd_ne e]; exact hH2) (dv2.mono x) sm2 (by omega)
  | @dct p2 kvs2 hp2 hH2 hk2 =>
    by_cases e : p2 = p
    · subst e
      exact .dct hp2 upd_same (Or.inr pk)
    · exact .dct hp2 (by rw [upd_ne e]; exact hH2) hk2
end
theorem yes_of {σ : L2.St} {H : Hp} {Q : Bool → Hp → Prop} (h : Q true H) : tYes σ H Q := h
/-! ### the three things -/
def BB (b L : Addr) (ms : List Addr) : Addr → Prop := fun a => a = b ∨ a = L ∨ a ∈ ms
section
variable {P : Program} {w : World} {K : PySem.W.Frag} {mg : Str → Option Value} {base : Heap} {cs : Nat → Addr}
theorem co_ok {b bl : Addr} {ns : List Int} {σ : L2.St} {H : Hp} {Q : VK} (hσ : σ[1]? = some (some (.ref b))) (bag : BagAt K H b bl ns)
    (q : ∀ L v0 v1 v2 ms H', Xt (· = b) H H' → BagAt K H' b bl ns → H L = none → H' L = some (.lst [v0, v1, v2]) → (∀ p ∈ ms, H p = none ∧ p ≠ L ∧ H' p ≠ none) →
      (∀ v ∈ [v0, v1, v2], Th K (BB b L ms) H' ms 2 v) → Q (.ref L) H') : tCO K cs σ H Q := by
  refine ⟨3, rfl, by decide, by decide, ?_⟩
  intro L hL
  have wlk : Walk (Itr 0 3) 3 (fun _ => True) (fun i H' x H'' => H'' = H') := ⟨fun i H' hi _ => hi, fun H' _ => Nat.le_refl _, fun i H' x H'' hi _ y => y.1⟩
  refine lc_it wlk (fun i H' => ∃ acc ms, Xt (· = b) H H' ∧ BagAt K H' b bl ns ∧ H' L = some (.lst acc) ∧ acc.length = i ∧ (∀ p ∈ ms, H p = none ∧ p ≠ L ∧ H' p ≠ none) ∧ ∀ v ∈ acc, Th K (BB b L ms) H' ms 2 v) ?_ (fun _ _ _ _ => trivial) ?_ ?_
  · have ex : Ex H (upd H L (.lst [])) := Evl.Ex.new hL
    exact ⟨[], [], Xt.of ex, bag.ex ex, upd_same, rfl, (fun p hp => nomatch hp), (fun v hv => nomatch hv)⟩
  · rintro i x H' H'' hi ⟨acc, ms, xt, bg, hA, hl, hm, ht⟩ rfl
    have Lb' : L ≠ b := fun z => bag.ne (by rw [← z]; exact hL)
    refine ⟨?_, ?_⟩
    · show ((σ.set 8 none).set 8 (some x)).set 8 none = σ.set 8 none
      rw [List.set_set, List.set_set]
    have h1 : ((σ.set 8 none).set 8 (some x))[1]? = some (some (.ref b)) := by
      rw [List.getElem?_set_ne (by decide), List.getElem?_set_ne (by decide)]
      exact hσ
    refine yes_of ?_
    refine (if_pos rfl).mpr ?_
    refine ⟨.ref b, h1, b, bl, ns, BB b L ms, rfl, Or.inl rfl, bg, ?_, ?_⟩
    · rintro p n (z | z | z)
      · exact bag_fr bg p n z
      · rw [z, hA] at n; cases n
      · exact (hm p z).2.2 n
    intro v H4 ms1 x4 b4 hm1 hv
    have pL : ∀ p ∈ ms1, p ≠ L := fun p hp z => by
      have := (hm1 p hp).1
      rw [z, hA] at this
      cases this
    have pb : ∀ p ∈ ms, p ≠ b := fun p hp z => bag.ne (by rw [← z]; exact (hm p hp).1)
    have pb1 : ∀ p ∈ ms1, p ≠ b := fun p hp => bag_fr bg p (hm1 p hp).1
    refine ⟨acc, x4 L _ Lb' hA, by rw [hl]; exact szn' (by omega), acc ++ [v], ms ++ ms1, ?_, ?_, upd_same, by simp [hl], ?_, ?_⟩
    · intro a o na ha
      rw [upd_ne fun z => by rw [z, hL] at ha; cases ha]
      exact x4 a o na (xt a o na ha)
    · exact bag.upd b4 hL
    · intro p hp
      rcases List.mem_append.mp hp with hp | hp
      · refine ⟨(hm p hp).1, (hm p hp).2.1, ?_⟩
        rw [upd_ne (hm p hp).2.1]
        cases z : H'' p with
        | none => exact absurd z (hm p hp).2.2
        | some o => rw [x4 p o (pb p hp) z]; simp
      · have h2 := (hm1 p hp).1
        refine ⟨?_, pL p hp, ?_⟩
        · cases z : H p with
          | none => rfl
          | some o => rw [xt p o (pb1 p hp) z] at h2; cases h2
        · rw [upd_ne (pL p hp)]
          exact (hm1 p hp).2
    · intro u hu
      rcases List.mem_append.mp hu with hu | hu
      · refine th_step (ht u hu) ?_ ?_ ?_ (fun p hp => List.mem_append_left _ hp) (Nat.le_refl _)
        · rintro a (z | z | z)
          · exact Or.inl (Or.inl z)
          · exact Or.inl (Or.inr (Or.inl z))
          · rcases List.mem_append.mp z with z | z
            · exact Or.inl (Or.inr (Or.inr z))
            · exact Or.inr (hm1 a z).1
        · intro a o na ha
          rw [upd_ne fun z => na (Or.inr (Or.inl z))]
          exact x4 a o (fun z => na (Or.inl z)) ha
        · intro p hp o ho
          rw [upd_ne (hm p hp).2.1]
          exact x4 p o (pb p hp) ho
      · rw [List.mem_singleton.mp hu]
        refine th_step hv ?_ ?_ ?_ (fun p hp => List.mem_append_right _ hp) (Nat.le_refl _)
        · rintro a (z | z | z)
          · exact Or.inl (Or.inl (Or.inl z))
          · exact Or.inl (Or.inl (Or.inr (Or.inl z)))
          · rcases List.mem_append.mp z with z | z
            · exact Or.inl (Or.inl (Or.inr (Or.inr z)))
            · exact Or.inl (Or.inr z)
        · exact xt_upd (Or.inr (Or.inl rfl))
        · intro p hp o ho
          rw [upd_ne (pL p hp)]
          exact ho
  · rintro H' ⟨acc, ms, xt, bg, hA, hl, hm, ht⟩
    match acc, hl with
    | [v0, v1, v2], _ => exact q L v0 v1 v2 ms H' xt bg hL hA hm ht
end
end K11

namespace K11
open PySem PySem.Spec PyProof.Rows L2 Lb
open Evl (Ex)
theorem kitL {d : D} {T : String} (h : d.ty = some T) (ne : T ≠ "list") : kitB T "list" = some false := by
  cases d <;> simp only [D.ty, Option.some.injEq, reduceCtorEq] at h <;> subst h <;> first | exact absurd rfl ne | decide +kernel
theorem kitD {d : D} {T : String} (h : d.ty = some T) (ne : T ≠ "dict") : kitB T "dict" = some false := by
  cases d <;> simp only [D.ty, Option.some.injEq, reduceCtorEq] at h <;> subst h <;> first | exact absurd rfl ne | decide +kernel
def B3 (b : Addr) (ms : List Addr) : Addr → Prop := fun a => a = b ∨ a ∈ ms
section
variable {P : Program} {w : World} {K : PySem.W.Frag} {mg : Str → Option Value} {base : Heap} {cs : Nat → Addr}
theorem mu_ok {b tl : Addr} {ms : List Addr} {v0 v1 v2 : V} {σ : L2.St} {H : Hp} {D0 : Ends} (hσ : σ[3]? = some (some (.ref tl))) (h9 : σ.length = 9) (hL : H tl = some (.lst [v0, v1, v2])) (hms : ∀ p ∈ ms, p ≠ tl)
    (th : ∀ v ∈ [v0, v1, v2], Th K (B3 b ms) H ms 2 v)
    (q : ∀ σ' H', (∀ j, j ≠ 5 → σ'[j]? = σ[j]?) → σ'.length = 9 → Xt (· ∈ ms) H H' → (∀ p, H' p = none → H p = none) → (∀ v ∈ [v0, v1, v2], Th K (B3 b ms) H' ms 5 v) → D0.nx σ' H') : tMU K cs D0 σ H := by
  have hB : ∀ a ∈ ms, B3 b ms a := fun a h => Or.inr h
  have ntl : ¬ tl ∈ ms := fun z => hms tl z rfl
  refine ⟨.ref tl, hσ, tl, rfl, ⟨_, SqL.of hL⟩, for_list (K := K) (a := tl) (xs := [v0, v1, v2]) (fun i σ' H' => (∀ j, j ≠ 5 → σ'[j]? = σ[j]?) ∧ σ'.length = 9 ∧ Xt (· ∈ ms) H H' ∧ (∀ p, H' p = none → H p = none) ∧ ∀ v ∈ [v0, v1, v2], Th K (B3 b ms) H' ms (2 + i) v)
    ⟨fun _ _ => rfl, h9, Xt.refl _ _, (fun _ z => z), th⟩ (fun i σ' H' _ h => SqL.of (h.2.2.1 tl _ ntl hL)) ?_ (fun σ' H' h => q σ' H' h.1 h.2.1 h.2.2.1 h.2.2.2.1 h.2.2.2.2)⟩
  rintro i x σ' H' hx ⟨hj, hl, xt, kn, th'⟩
  have hm : x ∈ [v0, v1, v2] := List.mem_of_getElem? hx
  have hi : i < 3 := (List.getElem?_eq_some_iff.mp hx).1
  have h5 : (σ'.set 5 (some x))[5]? = some (some x) := List.getElem?_set_self (by omega)
  have j5 : ∀ j, j ≠ 5 → (σ'.set 5 (some x))[j]? = σ[j]? := fun j hj5 => by
    rw [List.getElem?_set_ne (Ne.symm hj5)]
    exact hj j hj5
  have l5 : (σ'.set 5 (some x)).length = 9 := by rw [List.length_set]; exact hl
  have up : ∀ {p : Addr} {o : HO}, p ∈ ms → Xt (· ∈ ms) H (upd H' p o) := fun {p o} hp => Xt.trans xt (xt_upd (B := (· ∈ ms)) hp)
  show tSeq _ _ _ (σ'.set 5 (some x)) H'
  generalize hs : σ'.set 5 (some x) = σ2 at *
  have h0 := th' x hm
  cases h0 with
  | @imm _ d T dv sm ty t1 t2 =>
    refine ⟨x, h5, x, .ty "list", .type T, .type "list", false, rfl, .ty _, dv.tyx ty, kitL ty t1, false, rfl, (if_neg (by decide)).mpr ?_⟩
    refine ⟨x, h5, x, .ty "dict", .type T, .type "dict", false, rfl, .ty _, dv.tyx ty, kitD ty t2, false, rfl, (if_neg (by decide)).mpr ?_⟩
    exact ⟨j5, l5, xt, kn, fun u hu => th_step (th' u hu) (fun a z => Or.inl z) (Xt.refl _ _) (fun p hp o ho => ho) (fun p hp => hp) (by omega)⟩
  | @lst p xs ds hp hH dv sm hlen =>
    have e1 : kitB "list" "list" = some true := by decide +kernel
    have e2 : kitB "list" "dict" = some false := by decide +kernel
    refine ⟨_, h5, .ref p, .ty "list", .type "list", .type "list", true, rfl, .ty _, .base (.lst hH), e1, true, rfl, (if_pos rfl).mpr ?_⟩
    refine ⟨_, h5, Or.inl ⟨rfl, _, SqL.of hH⟩, p, xs, .str "new", rfl, rfl, hH, szn' (by have := dv.len; omega), ?_⟩
    have hU : upd H' p (.lst (xs ++ [.str "new"])) p = some (.lst (xs ++ [.str "new"])) := upd_same
    refine ⟨_, h5, .ref p, .ty "dict", .type "list", .type "dict", false, rfl, .ty _, .base (.lst hU), e2, false, rfl, (if_neg (by decide)).mpr ?_⟩
    exact ⟨j5, l5, up hp, (fun p z => kn p (upd_none' z).2), fun u hu => th_app (th' u hu) hB hp hH dv sm hlen⟩
  | @dct p kvs hp hH hk =>
    have e1 : kitB "dict" "list" = some false := by decide +kernel
    have e2 : kitB "dict" "dict" = some true := by decide +kernel
    refine ⟨_, h5, .ref p, .ty "list", .type "dict", .type "list", false, rfl, .ty _, .base (.dK hH), e1, false, rfl, (if_neg (by decide)).mpr ?_⟩
    refine ⟨_, h5, .ref p, .ty "dict", .type "dict", .type "dict", true, rfl, .ty _, .base (.dK hH), e2, true, rfl, (if_pos rfl).mpr ?_⟩
    have hz : kvs.length < sizeLine := by
      rcases hk with rfl | rfl <;> exact szn' (by decide)
    refine ⟨_, h5, p, _, rfl, DPut.k (k := .inr "b") hH hz, ?_⟩
    exact ⟨j5, l5, up hp, (fun p z => kn p (upd_none' z).2), fun u hu => th_put (th' u hu) hB hp hH hk⟩
end
end K11

namespace K11
open PySem PySem.Spec PyProof.Rows L2 Lb
open Evl (Ex)
abbrev tBD (K : PySem.W.Frag) (cs : Nat → Addr) : TS :=
    (tSeq (tAsg (tLc (iRng1 (tCons (tC (.int 3)) tNil)) (gName 8) tYes (tCall (spThing K cs) [] E0 (tCons (tVar 1) tNil)) [8]) (gName 3))
    (tSeq (tAsg (tCall (spErrors K cs) [] E0 (tCons (tOp (rIx K) (tVar 3) (tC (.int 0))) (tCons (tOp (rIx K) (tVar 3) (tC (.int 1))) (tCons (tOp (rIx K) (tVar 3) (tC (.int 2))) tNil)))) (gName 4))
    (tSeq (tIfS (tNot (tB (tCall (spAlike K cs) [] E0 (tCons (tCall (spFields K cs) [] E0 (tCons (tVar 4) tNil)) (tCons (tLst (tCons (tOp rRep (tLst (tCons (tOp (rIx K) (tVar 3) (tC (.int 0))) tNil)) (tC (.int 15))) (tCons (tOp rRep (tLst (tCons (tOp (rIx K) (tVar 3) (tC (.int 1))) tNil)) (tC (.int 5))) (tCons (tLst (tCons (tOp (rIx K) (tVar 3) (tC (.int 2))) tNil)) tNil)))) tNil))))) (tRet (tC (.bl false))) tNext)
    (tSeq (tFor (iList K (tVar 3)) (gName 5) (tSeq (tIfS (tB (tCB (rIsi K) (tCons (tVar 5) (tCons (tC (.ty "list")) tNil)))) (tDrop (tBM K "list" rAppend (tVar 5) (tCons (tC (.str "new")) tNil))) tNext)
    (tIfS (tB (tCB (rIsi K) (tCons (tVar 5) (tCons (tC (.ty "dict")) tNil)))) (tAsg (tC (.int 2)) (gSub (tVar 5) (tC (.str "b")) rSetD)) tNext)))
    (tSeq (tIfS (tNot (tB (tCall (spAlike K cs) [] E0 (tCons (tCall (spFields K cs) [] E0 (tCons (tVar 4) tNil)) (tCons (tLst (tCons (tOp rRep (tLst (tCons (tOp (rIx K) (tVar 3) (tC (.int 0))) tNil)) (tC (.int 15))) (tCons (tOp rRep (tLst (tCons (tOp (rIx K) (tVar 3) (tC (.int 1))) tNil)) (tC (.int 5))) (tCons (tLst (tCons (tOp (rIx K) (tVar 3) (tC (.int 2))) tNil)) tNil)))) tNil))))) (tRet (tC (.bl false))) tNext)
    (tSeq (tFor (iEnum K (tCons (tVar 4) tNil)) (gTup K 2 (gCons (gName 6) (gCons (gName 7) gNil))) (tSeq (tIfS (tTest (tOp (rNeD K) (tCall (spKinds K cs) [] E0 (tCons (tVar 7) tNil)) (tLc (iRng1 (tCons (tC (.int 21)) tNil)) (gName 8) tYes (tOp rEq (tVar 8) (tVar 6)) [8]))) (tRet (tC (.bl false))) tNext)
    (tIfS (tOr (tNot (tB (tCB (rIsiE K) (tCons (tVar 7) (tCons (tC (.ref (cs 21))) tNil))))) (tNot (tB (tCB (rIsiE K) (tCons (tVar 7) (tCons (tC (.ty "ValueError")) tNil)))))) (tRet (tC (.bl false))) tNext)))
    (tFor (iList K (tLst (tCons (tMkB (cs 21) (tCons (tOp (rIx K) (tVar 3) (tC (.int 0))) tNil)) (tCons (tMkB (cs 21) tNil) (tCons (tMkB (cs 21) (tCons (tC (.str "a")) (tCons (tC (.int 1)) tNil))) tNil))))) (gName 7) (tIfS (tOr (tTest (tOp (rIn K false) (tC (.bl true)) (tCall (spKinds K cs) [] E0 (tCons (tVar 7) tNil)))) (tNot (tB (tCB (rIsiE K) (tCons (tVar 7) (tCons (tC (.ty "ValueError")) tNil)))))) (tRet (tC (.bl false))) tNext))))))))
abbrev tER (K : PySem.W.Frag) (cs : Nat → Addr) : TE :=
    (tCall (spErrors K cs) [] E0 (tCons (tOp (rIx K) (tVar 3) (tC (.int 0))) (tCons (tOp (rIx K) (tVar 3) (tC (.int 1))) (tCons (tOp (rIx K) (tVar 3) (tC (.int 2))) tNil))))
section
variable {P : Program} {w : World} {K : PySem.W.Frag} {mg : Str → Option Value} {base : Heap} {cs : Nat → Addr}
theorem seq_asg {te : TE} {g : TG} {us : TS} {D0 : Ends} {σ : L2.St} {H : Hp} (h : te σ H fun v H1 => g v σ H1 fun σ2 H2 => us D0 σ2 H2) : tSeq (tAsg te g) us D0 σ H := h
theorem seq_ifN {t : TT} {ts us rest : TS} {D0 : Ends} {σ : L2.St} {H : Hp} (h : t σ H fun c H1 => if (!c) = true then ts { D0 with nx := rest D0 } σ H1 else us { D0 with nx := rest D0 } σ H1) : tSeq (tIfS (tNot t) ts us) rest D0 σ H := h
theorem seq_of {ts us : TS} {D0 : Ends} {σ : L2.St} {H : Hp} (h : ts { D0 with nx := us D0 } σ H) : tSeq ts us D0 σ H := h
def Keep (b : Addr) (ρ : List (Option D)) : Prop := ρ[1]? = some (some (.raw (.ref b))) ∧ ρ.length = 9
theorem turn_ok (T : Tx P K mg cs) {b bl : Addr} {ns : List Int} {ρ : List (Option D)} (hρ : Keep b ρ) : Sm (Wb K b bl ns (· = b) rfl) (tBD K cs) ρ ⟨Keep b, fun d => d = .bl true⟩ := by
  intro σ H sl hi E nx rt
  obtain ⟨h1, h9⟩ := hρ
  obtain ⟨v, hσ, dv⟩ := sl.get 1 _ h1
  cases dv
  have σ9 : σ.length = 9 := sl.len.trans h9
  have bag : BagAt K H b bl ns := hi.1
  refine seq_asg (te := tCO K cs) ?_
  refine co_ok hσ bag fun L v0 v1 v2 ms H3 x3 b3 nL hL3 hms th => ?_
  have Lb' : L ≠ b := fun z => bag.ne (by rw [← z]; exact nL)
  have nLm : ¬ L ∈ ms := fun z => (hms L z).2.1 rfl
  have bm : ¬ b ∈ ms := fun z => bag.ne (hms b z).1
  have nB : ¬ B3 b ms L := fun z => z.elim Lb' nLm
  have fr3 : ∀ p, H3 p = none → ¬ B3 b ms p := fun p n z => z.elim (bag_fr b3 p n) fun y => (hms p y).2.2 n
  refine seq_asg (te := tER K cs) (σ := σ.set 3 (some (.ref L))) ?_
  have sl3 : Slots (Wp K (B3 b ms)) (σ.set 3 (some (.ref L))) H3 [none, some (.raw (.ref b)), none, some (.lst [.raw v0, .raw v1, .raw v2]), none, none, none, none, none] := by
    refine ⟨by rw [List.length_set]; exact σ9, fun i d hd => ?_⟩
    match i with
    | 0 => cases hd
    | 1 =>
      cases hd
      exact ⟨.ref b, by rw [List.getElem?_set_ne (by decide)]; exact hσ, .raw _⟩
    | 2 => cases hd
    | 3 =>
      cases hd
      exact ⟨.ref L, List.getElem?_set_self (by omega), .lst (Or.inl ⟨nB, Or.inl hL3⟩) (.cons (.raw _) (.cons (.raw _) (.cons (.raw _) .nil)))⟩
    | 4 => cases hd
    | 5 => cases hd
    | 6 => cases hd
    | 7 => cases hd
    | 8 => cases hd
    | n + 9 => cases hd
  have ev : Ev (Wp K (B3 b ms)) (tER K cs) [none, some (.raw (.ref b)), none, some (.lst [.raw v0, .raw v1, .raw v2]), none, none, none, none, none] fun d => d = .lst (errD cs (.raw v0) (.raw v1) (.raw v2)) := by
    refine ev_callD (ea_cons (ev_op (ev_var rfl (ev_int (rb_ix1 rfl (ea_cons (ev_op (ev_var rfl (ev_int (rb_ix1 rfl (ea_cons (ev_op (ev_var rfl (ev_int (rb_ix1 rfl (ea_nil ⟨rfl, trivial, ?_⟩))))))))))))))))
    rintro d ⟨a, b', c, e, rfl⟩
    cases e
    rfl
  refine ev _ H3 sl3 fr3 _ fun e4 H4 d4 r4 i4 s4 dv4 => ?_
  subst s4
  have r4' : Ex H3 H4 := r4
  have sl4 := (sl3.mono r4).set (i := 4) dv4
  have hρ4 : Rho cs b v0 v1 v2 (List.set [none, some (.raw (.ref b)), none, some (.lst [.raw v0, .raw v1, .raw v2]), none, none, none, none, none] 4 (some (.lst (errD cs (.raw v0) (.raw v1) (.raw v2))))) := ⟨_, _, _, _, _, _, rfl⟩
  have da : ∀ v ∈ [v0, v1, v2], Da K H4 v := fun v hv => (th_da (th v hv) (by decide)).ex r4'
  refine seq_ifN (t := tAL K cs) (σ := (σ.set 3 (some (.ref L))).set 4 (some e4)) ?_
  refine al_ok hρ4 sl4 i4 (da v0 (by simp)) (da v1 (by simp)) (da v2 (by simp)) fun H5 e5 => (if_neg (by decide)).mpr ?_
  have e35 : Ex H3 H5 := Evl.Ex.trans r4' e5
  have th5 : ∀ v ∈ [v0, v1, v2], Th K (B3 b ms) H5 ms 2 v := fun v hv =>
    th_step (th v hv) (wk_of fun a z => z.elim Or.inl fun y => Or.inr (Or.inr y)) (Xt.of e35) (fun p _ o ho => e35 p o ho) (fun p hp => hp) (Nat.le_refl _)
  have s43 : ((σ.set 3 (some (.ref L))).set 4 (some e4))[3]? = some (some (.ref L)) := by
    rw [List.getElem?_set_ne (by decide)]
    exact List.getElem?_set_self (by omega)
  refine seq_of (ts := tMU K cs) (σ := (σ.set 3 (some (.ref L))).set 4 (some e4)) ?_
  refine mu_ok (b := b) (cs := cs) s43 (by rw [List.length_set, List.length_set]; exact σ9) (e35 _ _ hL3) (fun p hp => (hms p hp).2.1) th5 fun σ6 H6 j6 l6 x6 kn6 th6 => ?_
  have sl5 := Slots.mono (W := Wp K (B3 b ms)) e5 sl4
  have xB : Xt (B3 b ms) H5 H6 := fun a o na ha => x6 a o (fun z => na (Or.inr z)) ha
  have sl6 : Slots (Wp K (B3 b ms)) σ6 H6 (List.set [none, some (.raw (.ref b)), none, some (.lst [.raw v0, .raw v1, .raw v2]), none, none, none, none, none] 4 (some (.lst (errD cs (.raw v0) (.raw v1) (.raw v2))))) := by
    refine ⟨l6, fun i d hd => ?_⟩
    by_cases h5 : i = 5
    · subst h5
      cases hd
    · obtain ⟨u, g1, g2⟩ := sl5.get i d hd
      exact ⟨u, by rw [j6 i h5]; exact g1, g2.mono xB⟩
  have fr6 : ∀ p, H6 p = none → ¬ B3 b ms p := fun p n => fr3 p (Ex.none e35 (kn6 p n))
  refine seq_ifN (t := tAL K cs) ?_
  refine al_ok hρ4 sl6 fr6 (th_da (th6 v0 (by simp)) (Nat.le_refl _)) (th_da (th6 v1 (by simp)) (Nat.le_refl _)) (th_da (th6 v2 (by simp)) (Nat.le_refl _)) fun H7 e7 => (if_neg (by decide)).mpr ?_
  have sl7 := Slots.mono (W := Wp K (B3 b ms)) e7 sl6
  have fr7 : ∀ p, H7 p = none → ¬ B3 b ms p := fun p n => fr6 p (Ex.none e7 n)
  show tFG K cs _ σ6 H7
  refine fg_ok T hρ4 σ6 H7 sl7 fr7 _ (fun σ8 H8 ρ8 sl8 r8 i8 k8 => ?_) (fun v H8 d r8 i8 s dv => s.elim)
  have r8' : Ex H7 H8 := r8
  obtain ⟨y0, y2, y5, y6, y7, y8, rfl⟩ := k8
  obtain ⟨u, hu, du⟩ := sl8.get 1 _ rfl
  cases du
  have x36 : Xt (· = b) H H6 := fun a o na ha => x6 a o (fun z => by rw [(hms a z).1] at ha; cases ha) (e35 a o (x3 a o na ha))
  have e68 : Ex H6 H8 := Evl.Ex.trans e7 r8'
  have bag6 : BagAt K H6 b bl ns := by
    obtain ⟨c, z, k, eo, hr⟩ := b3.ob
    exact ⟨⟨c, z, k, x6 b _ bm (e35 b _ eo), hr⟩, bag.cells.mono x36, bag.pos⟩
  have bag8 := bag6.ex e68
  refine nx σ8 H8 [none, some (.raw (.ref b)), none, none, none, none, none, none, none] ⟨sl8.len, fun i d hd => ?_⟩ (Xt.trans x36 (Xt.of e68)) ⟨bag8, bag_fr bag8⟩ ⟨rfl, rfl⟩
  match i with
  | 0 => cases hd
  | 1 =>
    cases hd
    exact ⟨.ref b, hu, .raw _⟩
  | 2 => cases hd
  | 3 => cases hd
  | 4 => cases hd
  | 5 => cases hd
  | 6 => cases hd
  | 7 => cases hd
  | 8 => cases hd
  | n + 9 => cases hd
theorem law_c1 (T : Tx P K mg cs) {b bl : Addr} {ms : List Int} {ρ : List (Option D)} (hρ : Keep b ρ) : Sm (Wb K b bl ms (· = b) rfl) (t_F_law_c1 K cs) ρ ⟨fun _ => False, fun d => d = .bl true⟩ := by
  refine sm_seq (sm_for (ls := [2]) (iw_rng1 (ea_cons (ev_int (ea_nil ⟨5, rfl, by decide, by decide, fun _ => Keep b, hρ, ?_, ?_⟩)))))
  · rintro i d ρ' hd ⟨h1, h9⟩
    exact tg_name (turn_ok T ⟨by rw [List.getElem?_set_ne (by decide)]; exact h1, by rw [List.length_set]; exact h9⟩)
  · rintro ρ' _
    exact sm_ret (ev_bl rfl)
theorem law_body (T : Tx P K mg cs) : ∀ vs H Q E, spLaw K cs vs H Q E → t_F_law K cs { nx := fun _ H' => Q .non H', rt := Q } (L2.start N_F_law vs) H := by
  rintro vs H Q E ⟨a, ns, rfl, hS, hl, q⟩
  refine ⟨.ref a, rfl, ?_⟩
  refine ⟨a, ns, rfl, hS, hl, fun b bl ms H' nb ex bag => ?_⟩
  refine law_c1 T (K := K) (b := b) (bl := bl) (ms := ms) (ρ := [none, some (.raw (.ref b)), none, none, none, none, none, none, none]) ⟨rfl, rfl⟩ _ H' ?_ ⟨bag, bag_fr bag⟩ _ (fun σ' H2 ρ' _ _ _ h => h.elim) ?_
  · refine ⟨rfl, fun i d hd => ?_⟩
    match i with
    | 0 => cases hd
    | 1 =>
      cases hd
      exact ⟨_, rfl, .raw _⟩
    | 2 => cases hd
    | 3 => cases hd
    | 4 => cases hd
    | 5 => cases hd
    | 6 => cases hd
    | 7 => cases hd
    | 8 => cases hd
    | n + 9 => cases hd
  · rintro v H2 d _ _ rfl dv
    cases dv
    exact q H2
theorem ok_law (T : Tx P K mg cs) (f : Addr) (fd : FuncData) (F : Fun K "law" "law" s_F_law f fd) : FnG P w K mg base CX0 3 f fd ["_law_script"] (spEnd K) :=
  okG F sc_F_law spEnd_len fun cdv A outer s H vs Q E hG hr hs =>
    ⟨t_F_law K cs, der_F_law T (d_law_bag T) (d_law_thing T) (d_law_errors T) (d_law_alike T) (d_law_fields T) (d_law_kinds T) f cdv A outer s H E hG hr, law_body T vs H Q E hs⟩
end
end K11

namespace K11
open PySem PySem.Spec PyProof.Rows L2 Lb
open Evl (Ex)
theorem inj_of {l : List Addr} (hl : l.length = 22) (h : l.Nodup) : ∀ i j, i < 22 → j < 22 → l.getD i 0 = l.getD j 0 → i = j := fun i j hi hj e => by
  have e1 : l.getD i 0 = l[i] := by simp [List.getD, hl, hi]
  have e2 : l.getD j 0 = l[j] := by simp [List.getD, hl, hj]
  rw [e1, e2] at e
  exact (List.getElem_inj h).mp e
theorem tx_mk {P : Program} {K : PySem.W.Frag} {h : Heap} {mg : Str → Option Value} (X : K.In h) (G : h.Ns mainGlobals mg) {kc0 kc1 kc2 kc3 kc4 kc5 kc6 kc7 kc8 kc9 kc10 kc11 kc12 kc13 kc14 kc15 kc16 kc17 kc18 kc19 kc20 kc21 : Addr}
    (gs : PySem.W.nsIn K mainGlobals "super" = some none) (go : PySem.W.nsIn K cStatics "thirdparty.any" = some none) (gt : (P.main.scope.names.lookup ("super" : Str)).isSome = false)
    (gg1 : PySem.W.specialIn K (.builtin "object.__class__") "__get__" = some (some (.builtin "getset_descriptor.__get__"))) (gg2 : PySem.W.takesIn K (.builtin "object.__class__") = some true)
    {N_21 : Addr} {nm_21 q_21 : Str} {bs_21 : List Value} {sn_21 : List Str} {sub_21 : List Value} {ab_21 : Bool} {col_21 : Option Bool} {dd_21 : Option Addr} {u0_21 u1_21 u2_21 u3_21 u5_21 : Option Value}
    (xa_21 : PySem.W.nsIn K mainGlobals "BackError" = some (some (.ref kc21))) (xl_21 : K.lookup kc21 = some (excClassObj nm_21 q_21 kc21 N_21 bs_21 veM true sn_21 sub_21 ab_21 col_21 dd_21 u0_21 u1_21 u2_21 u3_21 u5_21 "ValueError.__new__"))
    (xs_21 : PySem.W.findIn K (.ref kc21) "__setattr__" = some (some (.builtin "object.__setattr__"))) (xk_21 : PySem.W.keepIn K (.ref kc21) = true)
    (xg_21 : PySem.W.findIn K (.ref kc21) "__getattribute__" = some (some (.builtin "BaseException.__getattribute__"))) (xh_21 : PySem.W.findIn K (.ref kc21) "__getattr__" = some none) (xc_21 : PySem.W.findIn K (.ref kc21) "__class__" = some (some (.builtin "object.__class__")))
    (xi_21 : PySem.W.findIn K (.ref kc21) "__init__" = some (some (.builtin "ValueError.__init__")))
    {N_0 : Addr} {nm_0 q_0 : Str} {bs_0 : List Value} {sn_0 : List Str} {sub_0 : List Value} {ab_0 : Bool} {col_0 : Option Bool} {dd_0 : Option Addr} {u0_0 u1_0 u2_0 u3_0 u5_0 : Option Value}
    (xa_0 : PySem.W.nsIn K mainGlobals "Wrong" = some (some (.ref kc0))) (xl_0 : K.lookup kc0 = some (excClassObj nm_0 q_0 kc0 N_0 bs_0 (.ref kc21 :: veM) true sn_0 sub_0 ab_0 col_0 dd_0 u0_0 u1_0 u2_0 u3_0 u5_0 "ValueError.__new__"))
    (xs_0 : PySem.W.findIn K (.ref kc0) "__setattr__" = some (some (.builtin "object.__setattr__"))) (xk_0 : PySem.W.keepIn K (.ref kc0) = true)
    (xg_0 : PySem.W.findIn K (.ref kc0) "__getattribute__" = some (some (.builtin "BaseException.__getattribute__"))) (xh_0 : PySem.W.findIn K (.ref kc0) "__getattr__" = some none) (xc_0 : PySem.W.findIn K (.ref kc0) "__class__" = some (some (.builtin "object.__class__")))
    {f_0 cda_0 cc_0 : Addr} {na_0 qu_0 : Str} {oc_0 kV_0 doc_0 pm_0 ct_0 ccl_0 cl_0 : Value} {od_0 an_0 cdd_0 cld_0 : Option Addr} {osl_0 ccs_0 csl_0 : Array (Option Value)} {vs_0 : Array Value} {fi_0 : Str} {tf_0 : Tok}
    (xi_0 : PySem.W.findIn K (.ref kc0) "__init__" = some (some (.ref f_0))) (xf_0 : K.lookup f_0 = some ⟨oc_0, od_0, .func (PySem.W.ksFn na_0 qu_0 (defArgs i_Wrong) (defBody i_Wrong) (defScope i_Wrong) .none kV_0 doc_0 pm_0 an_0 (.ref cda_0) ct_0 cc_0), osl_0⟩)
    (xj_0 : PySem.W.codeIn K (.ref cda_0) qu_0 = true) (xd_0 : K.lookup cda_0 = some ⟨ccl_0, cdd_0, .fields vs_0, ccs_0⟩) (xe_0 : K.lookup cc_0 = some ⟨cl_0, cld_0, .cell (some (.ref kc0)), csl_0⟩)
    (xo_0 : oc_0 = .type "function") (xv_0 : vs_0[2]? = some (.str fi_0 tf_0)) (xw_0 : ((P.main.file : Str) == fi_0) = true)
    (xn0_0 : PySem.W.findIn K (.ref kc0) "place" = some none)
    {N_1 : Addr} {nm_1 q_1 : Str} {bs_1 : List Value} {sn_1 : List Str} {sub_1 : List Value} {ab_1 : Bool} {col_1 : Option Bool} {dd_1 : Option Addr} {u0_1 u1_1 u2_1 u3_1 u5_1 : Option Value}
    (xa_1 : PySem.W.nsIn K mainGlobals "BadStatement" = some (some (.ref kc1))) (xl_1 : K.lookup kc1 = some (excClassObj nm_1 q_1 kc1 N_1 bs_1 (.ref kc21 :: veM) true sn_1 sub_1 ab_1 col_1 dd_1 u0_1 u1_1 u2_1 u3_1 u5_1 "ValueError.__new__"))
    (xs_1 : PySem.W.findIn K (.ref kc1) "__setattr__" = some (some (.builtin "object.__setattr__"))) (xk_1 : PySem.W.keepIn K (.ref kc1) = true)
    (xg_1 : PySem.W.findIn K (.ref kc1) "__getattribute__" = some (some (.builtin "BaseException.__getattribute__"))) (xh_1 : PySem.W.findIn K (.ref kc1) "__getattr__" = some none) (xc_1 : PySem.W.findIn K (.ref kc1) "__class__" = some (some (.builtin "object.__class__")))
    {f_1 cda_1 cc_1 : Addr} {na_1 qu_1 : Str} {oc_1 kV_1 doc_1 pm_1 ct_1 ccl_1 cl_1 : Value} {od_1 an_1 cdd_1 cld_1 : Option Addr} {osl_1 ccs_1 csl_1 : Array (Option Value)} {vs_1 : Array Value} {fi_1 : Str} {tf_1 : Tok}
    (xi_1 : PySem.W.findIn K (.ref kc1) "__init__" = some (some (.ref f_1))) (xf_1 : K.lookup f_1 = some ⟨oc_1, od_1, .func (PySem.W.ksFn na_1 qu_1 (defArgs i_BadStatement) (defBody i_BadStatement) (defScope i_BadStatement) .none kV_1 doc_1 pm_1 an_1 (.ref cda_1) ct_1 cc_1), osl_1⟩)
    (xj_1 : PySem.W.codeIn K (.ref cda_1) qu_1 = true) (xd_1 : K.lookup cda_1 = some ⟨ccl_1, cdd_1, .fields vs_1, ccs_1⟩) (xe_1 : K.lookup cc_1 = some ⟨cl_1, cld_1, .cell (some (.ref kc1)), csl_1⟩)
    (xo_1 : oc_1 = .type "function") (xv_1 : vs_1[2]? = some (.str fi_1 tf_1)) (xw_1 : ((P.main.file : Str) == fi_1) = true)
    (xn0_1 : PySem.W.findIn K (.ref kc1) "function" = some none) (xn1_1 : PySem.W.findIn K (.ref kc1) "address" = some none)
    {N_2 : Addr} {nm_2 q_2 : Str} {bs_2 : List Value} {sn_2 : List Str} {sub_2 : List Value} {ab_2 : Bool} {col_2 : Option Bool} {dd_2 : Option Addr} {u0_2 u1_2 u2_2 u3_2 u5_2 : Option Value}
    (xa_2 : PySem.W.nsIn K mainGlobals "BadCells" = some (some (.ref kc2))) (xl_2 : K.lookup kc2 = some (excClassObj nm_2 q_2 kc2 N_2 bs_2 (.ref kc21 :: veM) true sn_2 sub_2 ab_2 col_2 dd_2 u0_2 u1_2 u2_2 u3_2 u5_2 "ValueError.__new__"))
    (xs_2 : PySem.W.findIn K (.ref kc2) "__setattr__" = some (some (.builtin "object.__setattr__"))) (xk_2 : PySem.W.keepIn K (.ref kc2) = true)
    (xg_2 : PySem.W.findIn K (.ref kc2) "__getattribute__" = some (some (.builtin "BaseException.__getattribute__"))) (xh_2 : PySem.W.findIn K (.ref kc2) "__getattr__" = some none) (xc_2 : PySem.W.findIn K (.ref kc2) "__class__" = some (some (.builtin "object.__class__")))
    {f_2 cda_2 cc_2 : Addr} {na_2 qu_2 : Str} {oc_2 kV_2 doc_2 pm_2 ct_2 ccl_2 cl_2 : Value} {od_2 an_2 cdd_2 cld_2 : Option Addr} {osl_2 ccs_2 csl_2 : Array (Option Value)} {vs_2 : Array Value} {fi_2 : Str} {tf_2 : Tok}
    (xi_2 : PySem.W.findIn K (.ref kc2) "__init__" = some (some (.ref f_2))) (xf_2 : K.lookup f_2 = some ⟨oc_2, od_2, .func (PySem.W.ksFn na_2 qu_2 (defArgs i_BadCells) (defBody i_BadCells) (defScope i_BadCells) .none kV_2 doc_2 pm_2 an_2 (.ref cda_2) ct_2 cc_2), osl_2⟩)
    (xj_2 : PySem.W.codeIn K (.ref cda_2) qu_2 = true) (xd_2 : K.lookup cda_2 = some ⟨ccl_2, cdd_2, .fields vs_2, ccs_2⟩) (xe_2 : K.lookup cc_2 = some ⟨cl_2, cld_2, .cell (some (.ref kc2)), csl_2⟩)
    (xo_2 : oc_2 = .type "function") (xv_2 : vs_2[2]? = some (.str fi_2 tf_2)) (xw_2 : ((P.main.file : Str) == fi_2) = true)
    (xn0_2 : PySem.W.findIn K (.ref kc2) "many" = some none)
    {N_3 : Addr} {nm_3 q_3 : Str} {bs_3 : List Value} {sn_3 : List Str} {sub_3 : List Value} {ab_3 : Bool} {col_3 : Option Bool} {dd_3 : Option Addr} {u0_3 u1_3 u2_3 u3_3 u5_3 : Option Value}
    (xa_3 : PySem.W.nsIn K mainGlobals "BadKept" = some (some (.ref kc3))) (xl_3 : K.lookup kc3 = some (excClassObj nm_3 q_3 kc3 N_3 bs_3 (.ref kc21 :: veM) true sn_3 sub_3 ab_3 col_3 dd_3 u0_3 u1_3 u2_3 u3_3 u5_3 "ValueError.__new__"))
    (xs_3 : PySem.W.findIn K (.ref kc3) "__setattr__" = some (some (.builtin "object.__setattr__"))) (xk_3 : PySem.W.keepIn K (.ref kc3) = true)
    (xg_3 : PySem.W.findIn K (.ref kc3) "__getattribute__" = some (some (.builtin "BaseException.__getattribute__"))) (xh_3 : PySem.W.findIn K (.ref kc3) "__getattr__" = some none) (xc_3 : PySem.W.findIn K (.ref kc3) "__class__" = some (some (.builtin "object.__class__")))
    {f_3 cda_3 cc_3 : Addr} {na_3 qu_3 : Str} {oc_3 kV_3 doc_3 pm_3 ct_3 ccl_3 cl_3 : Value} {od_3 an_3 cdd_3 cld_3 : Option Addr} {osl_3 ccs_3 csl_3 : Array (Option Value)} {vs_3 : Array Value} {fi_3 : Str} {tf_3 : Tok}
    (xi_3 : PySem.W.findIn K (.ref kc3) "__init__" = some (some (.ref f_3))) (xf_3 : K.lookup f_3 = some ⟨oc_3, od_3, .func (PySem.W.ksFn na_3 qu_3 (defArgs i_BadKept) (defBody i_BadKept) (defScope i_BadKept) .none kV_3 doc_3 pm_3 an_3 (.ref cda_3) ct_3 cc_3), osl_3⟩)
    (xj_3 : PySem.W.codeIn K (.ref cda_3) qu_3 = true) (xd_3 : K.lookup cda_3 = some ⟨ccl_3, cdd_3, .fields vs_3, ccs_3⟩) (xe_3 : K.lookup cc_3 = some ⟨cl_3, cld_3, .cell (some (.ref kc3)), csl_3⟩)
    (xo_3 : oc_3 = .type "function") (xv_3 : vs_3[2]? = some (.str fi_3 tf_3)) (xw_3 : ((P.main.file : Str) == fi_3) = true)
    (xn0_3 : PySem.W.findIn K (.ref kc3) "function" = some none) (xn1_3 : PySem.W.findIn K (.ref kc3) "name" = some none)
    {N_4 : Addr} {nm_4 q_4 : Str} {bs_4 : List Value} {sn_4 : List Str} {sub_4 : List Value} {ab_4 : Bool} {col_4 : Option Bool} {dd_4 : Option Addr} {u0_4 u1_4 u2_4 u3_4 u5_4 : Option Value}
    (xa_4 : PySem.W.nsIn K mainGlobals "BadShut" = some (some (.ref kc4))) (xl_4 : K.lookup kc4 = some (excClassObj nm_4 q_4 kc4 N_4 bs_4 (.ref kc21 :: veM) true sn_4 sub_4 ab_4 col_4 dd_4 u0_4 u1_4 u2_4 u3_4 u5_4 "ValueError.__new__"))
    (xs_4 : PySem.W.findIn K (.ref kc4) "__setattr__" = some (some (.builtin "object.__setattr__"))) (xk_4 : PySem.W.keepIn K (.ref kc4) = true)
    (xg_4 : PySem.W.findIn K (.ref kc4) "__getattribute__" = some (some (.builtin "BaseException.__getattribute__"))) (xh_4 : PySem.W.findIn K (.ref kc4) "__getattr__" = some none) (xc_4 : PySem.W.findIn K (.ref kc4) "__class__" = some (some (.builtin "object.__class__")))
    {f_4 cda_4 cc_4 : Addr} {na_4 qu_4 : Str} {oc_4 kV_4 doc_4 pm_4 ct_4 ccl_4 cl_4 : Value} {od_4 an_4 cdd_4 cld_4 : Option Addr} {osl_4 ccs_4 csl_4 : Array (Option Value)} {vs_4 : Array Value} {fi_4 : Str} {tf_4 : Tok}
    (xi_4 : PySem.W.findIn K (.ref kc4) "__init__" = some (some (.ref f_4))) (xf_4 : K.lookup f_4 = some ⟨oc_4, od_4, .func (PySem.W.ksFn na_4 qu_4 (defArgs i_BadShut) (defBody i_BadShut) (defScope i_BadShut) .none kV_4 doc_4 pm_4 an_4 (.ref cda_4) ct_4 cc_4), osl_4⟩)
    (xj_4 : PySem.W.codeIn K (.ref cda_4) qu_4 = true) (xd_4 : K.lookup cda_4 = some ⟨ccl_4, cdd_4, .fields vs_4, ccs_4⟩) (xe_4 : K.lookup cc_4 = some ⟨cl_4, cld_4, .cell (some (.ref kc4)), csl_4⟩)
    (xo_4 : oc_4 = .type "function") (xv_4 : vs_4[2]? = some (.str fi_4 tf_4)) (xw_4 : ((P.main.file : Str) == fi_4) = true)
    (xn0_4 : PySem.W.findIn K (.ref kc4) "function" = some none) (xn1_4 : PySem.W.findIn K (.ref kc4) "address" = some none)
    {N_5 : Addr} {nm_5 q_5 : Str} {bs_5 : List Value} {sn_5 : List Str} {sub_5 : List Value} {ab_5 : Bool} {col_5 : Option Bool} {dd_5 : Option Addr} {u0_5 u1_5 u2_5 u3_5 u5_5 : Option Value}
    (xa_5 : PySem.W.nsIn K mainGlobals "Unknown" = some (some (.ref kc5))) (xl_5 : K.lookup kc5 = some (excClassObj nm_5 q_5 kc5 N_5 bs_5 (.ref kc21 :: veM) true sn_5 sub_5 ab_5 col_5 dd_5 u0_5 u1_5 u2_5 u3_5 u5_5 "ValueError.__new__"))
    (xs_5 : PySem.W.findIn K (.ref kc5) "__setattr__" = some (some (.builtin "object.__setattr__"))) (xk_5 : PySem.W.keepIn K (.ref kc5) = true)
    (xg_5 : PySem.W.findIn K (.ref kc5) "__getattribute__" = some (some (.builtin "BaseException.__getattribute__"))) (xh_5 : PySem.W.findIn K (.ref kc5) "__getattr__" = some none) (xc_5 : PySem.W.findIn K (.ref kc5) "__class__" = some (some (.builtin "object.__class__")))
    {f_5 cda_5 cc_5 : Addr} {na_5 qu_5 : Str} {oc_5 kV_5 doc_5 pm_5 ct_5 ccl_5 cl_5 : Value} {od_5 an_5 cdd_5 cld_5 : Option Addr} {osl_5 ccs_5 csl_5 : Array (Option Value)} {vs_5 : Array Value} {fi_5 : Str} {tf_5 : Tok}
    (xi_5 : PySem.W.findIn K (.ref kc5) "__init__" = some (some (.ref f_5))) (xf_5 : K.lookup f_5 = some ⟨oc_5, od_5, .func (PySem.W.ksFn na_5 qu_5 (defArgs i_Unknown) (defBody i_Unknown) (defScope i_Unknown) .none kV_5 doc_5 pm_5 an_5 (.ref cda_5) ct_5 cc_5), osl_5⟩)
    (xj_5 : PySem.W.codeIn K (.ref cda_5) qu_5 = true) (xd_5 : K.lookup cda_5 = some ⟨ccl_5, cdd_5, .fields vs_5, ccs_5⟩) (xe_5 : K.lookup cc_5 = some ⟨cl_5, cld_5, .cell (some (.ref kc5)), csl_5⟩)
    (xo_5 : oc_5 = .type "function") (xv_5 : vs_5[2]? = some (.str fi_5 tf_5)) (xw_5 : ((P.main.file : Str) == fi_5) = true)
    (xn0_5 : PySem.W.findIn K (.ref kc5) "function" = some none)
    {N_6 : Addr} {nm_6 q_6 : Str} {bs_6 : List Value} {sn_6 : List Str} {sub_6 : List Value} {ab_6 : Bool} {col_6 : Option Bool} {dd_6 : Option Addr} {u0_6 u1_6 u2_6 u3_6 u5_6 : Option Value}
    (xa_6 : PySem.W.nsIn K mainGlobals "NoName" = some (some (.ref kc6))) (xl_6 : K.lookup kc6 = some (excClassObj nm_6 q_6 kc6 N_6 bs_6 (.ref kc21 :: veM) true sn_6 sub_6 ab_6 col_6 dd_6 u0_6 u1_6 u2_6 u3_6 u5_6 "ValueError.__new__"))
    (xs_6 : PySem.W.findIn K (.ref kc6) "__setattr__" = some (some (.builtin "object.__setattr__"))) (xk_6 : PySem.W.keepIn K (.ref kc6) = true)
    (xg_6 : PySem.W.findIn K (.ref kc6) "__getattribute__" = some (some (.builtin "BaseException.__getattribute__"))) (xh_6 : PySem.W.findIn K (.ref kc6) "__getattr__" = some none) (xc_6 : PySem.W.findIn K (.ref kc6) "__class__" = some (some (.builtin "object.__class__")))
    {f_6 cda_6 cc_6 : Addr} {na_6 qu_6 : Str} {oc_6 kV_6 doc_6 pm_6 ct_6 ccl_6 cl_6 : Value} {od_6 an_6 cdd_6 cld_6 : Option Addr} {osl_6 ccs_6 csl_6 : Array (Option Value)} {vs_6 : Array Value} {fi_6 : Str} {tf_6 : Tok}
    (xi_6 : PySem.W.findIn K (.ref kc6) "__init__" = some (some (.ref f_6))) (xf_6 : K.lookup f_6 = some ⟨oc_6, od_6, .func (PySem.W.ksFn na_6 qu_6 (defArgs i_NoName) (defBody i_NoName) (defScope i_NoName) .none kV_6 doc_6 pm_6 an_6 (.ref cda_6) ct_6 cc_6), osl_6⟩)
    (xj_6 : PySem.W.codeIn K (.ref cda_6) qu_6 = true) (xd_6 : K.lookup cda_6 = some ⟨ccl_6, cdd_6, .fields vs_6, ccs_6⟩) (xe_6 : K.lookup cc_6 = some ⟨cl_6, cld_6, .cell (some (.ref kc6)), csl_6⟩)
    (xo_6 : oc_6 = .type "function") (xv_6 : vs_6[2]? = some (.str fi_6 tf_6)) (xw_6 : ((P.main.file : Str) == fi_6) = true)
    (xn0_6 : PySem.W.findIn K (.ref kc6) "name" = some none)
    {N_7 : Addr} {nm_7 q_7 : Str} {bs_7 : List Value} {sn_7 : List Str} {sub_7 : List Value} {ab_7 : Bool} {col_7 : Option Bool} {dd_7 : Option Addr} {u0_7 u1_7 u2_7 u3_7 u5_7 : Option Value}
    (xa_7 : PySem.W.nsIn K mainGlobals "Over" = some (some (.ref kc7))) (xl_7 : K.lookup kc7 = some (excClassObj nm_7 q_7 kc7 N_7 bs_7 (.ref kc21 :: veM) true sn_7 sub_7 ab_7 col_7 dd_7 u0_7 u1_7 u2_7 u3_7 u5_7 "ValueError.__new__"))
    (xs_7 : PySem.W.findIn K (.ref kc7) "__setattr__" = some (some (.builtin "object.__setattr__"))) (xk_7 : PySem.W.keepIn K (.ref kc7) = true)
    (xg_7 : PySem.W.findIn K (.ref kc7) "__getattribute__" = some (some (.builtin "BaseException.__getattribute__"))) (xh_7 : PySem.W.findIn K (.ref kc7) "__getattr__" = some none) (xc_7 : PySem.W.findIn K (.ref kc7) "__class__" = some (some (.builtin "object.__class__")))
    (xi_7 : PySem.W.findIn K (.ref kc7) "__init__" = some (some (.builtin "ValueError.__init__")))
    {N_8 : Addr} {nm_8 q_8 : Str} {bs_8 : List Value} {sn_8 : List Str} {sub_8 : List Value} {ab_8 : Bool} {col_8 : Option Bool} {dd_8 : Option Addr} {u0_8 u1_8 u2_8 u3_8 u5_8 : Option Value}
    (xa_8 : PySem.W.nsIn K mainGlobals "Unfit" = some (some (.ref kc8))) (xl_8 : K.lookup kc8 = some (excClassObj nm_8 q_8 kc8 N_8 bs_8 (.ref kc21 :: veM) true sn_8 sub_8 ab_8 col_8 dd_8 u0_8 u1_8 u2_8 u3_8 u5_8 "ValueError.__new__"))
    (xs_8 : PySem.W.findIn K (.ref kc8) "__setattr__" = some (some (.builtin "object.__setattr__"))) (xk_8 : PySem.W.keepIn K (.ref kc8) = true)
    (xg_8 : PySem.W.findIn K (.ref kc8) "__getattribute__" = some (some (.builtin "BaseException.__getattribute__"))) (xh_8 : PySem.W.findIn K (.ref kc8) "__getattr__" = some none) (xc_8 : PySem.W.findIn K (.ref kc8) "__class__" = some (some (.builtin "object.__class__")))
    (xi_8 : PySem.W.findIn K (.ref kc8) "__init__" = some (some (.builtin "ValueError.__init__")))
    {N_9 : Addr} {nm_9 q_9 : Str} {bs_9 : List Value} {sn_9 : List Str} {sub_9 : List Value} {ab_9 : Bool} {col_9 : Option Bool} {dd_9 : Option Addr} {u0_9 u1_9 u2_9 u3_9 u5_9 : Option Value}
    (xa_9 : PySem.W.nsIn K mainGlobals "Nothing" = some (some (.ref kc9))) (xl_9 : K.lookup kc9 = some (excClassObj nm_9 q_9 kc9 N_9 bs_9 (.ref kc21 :: veM) true sn_9 sub_9 ab_9 col_9 dd_9 u0_9 u1_9 u2_9 u3_9 u5_9 "ValueError.__new__"))
    (xs_9 : PySem.W.findIn K (.ref kc9) "__setattr__" = some (some (.builtin "object.__setattr__"))) (xk_9 : PySem.W.keepIn K (.ref kc9) = true)
    (xg_9 : PySem.W.findIn K (.ref kc9) "__getattribute__" = some (some (.builtin "BaseException.__getattribute__"))) (xh_9 : PySem.W.findIn K (.ref kc9) "__getattr__" = some none) (xc_9 : PySem.W.findIn K (.ref kc9) "__class__" = some (some (.builtin "object.__class__")))
    (xi_9 : PySem.W.findIn K (.ref kc9) "__init__" = some (some (.builtin "ValueError.__init__")))
    {N_10 : Addr} {nm_10 q_10 : Str} {bs_10 : List Value} {sn_10 : List Str} {sub_10 : List Value} {ab_10 : Bool} {col_10 : Option Bool} {dd_10 : Option Addr} {u0_10 u1_10 u2_10 u3_10 u5_10 : Option Value}
    (xa_10 : PySem.W.nsIn K mainGlobals "Broken" = some (some (.ref kc10))) (xl_10 : K.lookup kc10 = some (excClassObj nm_10 q_10 kc10 N_10 bs_10 (.ref kc21 :: veM) true sn_10 sub_10 ab_10 col_10 dd_10 u0_10 u1_10 u2_10 u3_10 u5_10 "ValueError.__new__"))
    (xs_10 : PySem.W.findIn K (.ref kc10) "__setattr__" = some (some (.builtin "object.__setattr__"))) (xk_10 : PySem.W.keepIn K (.ref kc10) = true)
    (xg_10 : PySem.W.findIn K (.ref kc10) "__getattribute__" = some (some (.builtin "BaseException.__getattribute__"))) (xh_10 : PySem.W.findIn K (.ref kc10) "__getattr__" = some none) (xc_10 : PySem.W.findIn K (.ref kc10) "__class__" = some (some (.builtin "object.__class__")))
    {f_10 cda_10 cc_10 : Addr} {na_10 qu_10 : Str} {oc_10 kV_10 doc_10 pm_10 ct_10 ccl_10 cl_10 : Value} {od_10 an_10 cdd_10 cld_10 : Option Addr} {osl_10 ccs_10 csl_10 : Array (Option Value)} {vs_10 : Array Value} {fi_10 : Str} {tf_10 : Tok}
    (xi_10 : PySem.W.findIn K (.ref kc10) "__init__" = some (some (.ref f_10))) (xf_10 : K.lookup f_10 = some ⟨oc_10, od_10, .func (PySem.W.ksFn na_10 qu_10 (defArgs i_Broken) (defBody i_Broken) (defScope i_Broken) .none kV_10 doc_10 pm_10 an_10 (.ref cda_10) ct_10 cc_10), osl_10⟩)
    (xj_10 : PySem.W.codeIn K (.ref cda_10) qu_10 = true) (xd_10 : K.lookup cda_10 = some ⟨ccl_10, cdd_10, .fields vs_10, ccs_10⟩) (xe_10 : K.lookup cc_10 = some ⟨cl_10, cld_10, .cell (some (.ref kc10)), csl_10⟩)
    (xo_10 : oc_10 = .type "function") (xv_10 : vs_10[2]? = some (.str fi_10 tf_10)) (xw_10 : ((P.main.file : Str) == fi_10) = true)
    (xn0_10 : PySem.W.findIn K (.ref kc10) "at" = some none)
    {N_11 : Addr} {nm_11 q_11 : Str} {bs_11 : List Value} {sn_11 : List Str} {sub_11 : List Value} {ab_11 : Bool} {col_11 : Option Bool} {dd_11 : Option Addr} {u0_11 u1_11 u2_11 u3_11 u5_11 : Option Value}
    (xa_11 : PySem.W.nsIn K mainGlobals "BadPlacing" = some (some (.ref kc11))) (xl_11 : K.lookup kc11 = some (excClassObj nm_11 q_11 kc11 N_11 bs_11 (.ref kc21 :: veM) true sn_11 sub_11 ab_11 col_11 dd_11 u0_11 u1_11 u2_11 u3_11 u5_11 "ValueError.__new__"))
    (xs_11 : PySem.W.findIn K (.ref kc11) "__setattr__" = some (some (.builtin "object.__setattr__"))) (xk_11 : PySem.W.keepIn K (.ref kc11) = true)
    (xg_11 : PySem.W.findIn K (.ref kc11) "__getattribute__" = some (some (.builtin "BaseException.__getattribute__"))) (xh_11 : PySem.W.findIn K (.ref kc11) "__getattr__" = some none) (xc_11 : PySem.W.findIn K (.ref kc11) "__class__" = some (some (.builtin "object.__class__")))
    {f_11 cda_11 cc_11 : Addr} {na_11 qu_11 : Str} {oc_11 kV_11 doc_11 pm_11 ct_11 ccl_11 cl_11 : Value} {od_11 an_11 cdd_11 cld_11 : Option Addr} {osl_11 ccs_11 csl_11 : Array (Option Value)} {vs_11 : Array Value} {fi_11 : Str} {tf_11 : Tok}
    (xi_11 : PySem.W.findIn K (.ref kc11) "__init__" = some (some (.ref f_11))) (xf_11 : K.lookup f_11 = some ⟨oc_11, od_11, .func (PySem.W.ksFn na_11 qu_11 (defArgs i_BadPlacing) (defBody i_BadPlacing) (defScope i_BadPlacing) .none kV_11 doc_11 pm_11 an_11 (.ref cda_11) ct_11 cc_11), osl_11⟩)
    (xj_11 : PySem.W.codeIn K (.ref cda_11) qu_11 = true) (xd_11 : K.lookup cda_11 = some ⟨ccl_11, cdd_11, .fields vs_11, ccs_11⟩) (xe_11 : K.lookup cc_11 = some ⟨cl_11, cld_11, .cell (some (.ref kc11)), csl_11⟩)
    (xo_11 : oc_11 = .type "function") (xv_11 : vs_11[2]? = some (.str fi_11 tf_11)) (xw_11 : ((P.main.file : Str) == fi_11) = true)
    (xn0_11 : PySem.W.findIn K (.ref kc11) "at" = some none)
    {N_12 : Addr} {nm_12 q_12 : Str} {bs_12 : List Value} {sn_12 : List Str} {sub_12 : List Value} {ab_12 : Bool} {col_12 : Option Bool} {dd_12 : Option Addr} {u0_12 u1_12 u2_12 u3_12 u5_12 : Option Value}
    (xa_12 : PySem.W.nsIn K mainGlobals "TooMany" = some (some (.ref kc12))) (xl_12 : K.lookup kc12 = some (excClassObj nm_12 q_12 kc12 N_12 bs_12 (.ref kc21 :: veM) true sn_12 sub_12 ab_12 col_12 dd_12 u0_12 u1_12 u2_12 u3_12 u5_12 "ValueError.__new__"))
    (xs_12 : PySem.W.findIn K (.ref kc12) "__setattr__" = some (some (.builtin "object.__setattr__"))) (xk_12 : PySem.W.keepIn K (.ref kc12) = true)
    (xg_12 : PySem.W.findIn K (.ref kc12) "__getattribute__" = some (some (.builtin "BaseException.__getattribute__"))) (xh_12 : PySem.W.findIn K (.ref kc12) "__getattr__" = some none) (xc_12 : PySem.W.findIn K (.ref kc12) "__class__" = some (some (.builtin "object.__class__")))
    {f_12 cda_12 cc_12 : Addr} {na_12 qu_12 : Str} {oc_12 kV_12 doc_12 pm_12 ct_12 ccl_12 cl_12 : Value} {od_12 an_12 cdd_12 cld_12 : Option Addr} {osl_12 ccs_12 csl_12 : Array (Option Value)} {vs_12 : Array Value} {fi_12 : Str} {tf_12 : Tok}
    (xi_12 : PySem.W.findIn K (.ref kc12) "__init__" = some (some (.ref f_12))) (xf_12 : K.lookup f_12 = some ⟨oc_12, od_12, .func (PySem.W.ksFn na_12 qu_12 (defArgs i_TooMany) (defBody i_TooMany) (defScope i_TooMany) .none kV_12 doc_12 pm_12 an_12 (.ref cda_12) ct_12 cc_12), osl_12⟩)
    (xj_12 : PySem.W.codeIn K (.ref cda_12) qu_12 = true) (xd_12 : K.lookup cda_12 = some ⟨ccl_12, cdd_12, .fields vs_12, ccs_12⟩) (xe_12 : K.lookup cc_12 = some ⟨cl_12, cld_12, .cell (some (.ref kc12)), csl_12⟩)
    (xo_12 : oc_12 = .type "function") (xv_12 : vs_12[2]? = some (.str fi_12 tf_12)) (xw_12 : ((P.main.file : Str) == fi_12) = true)
    (xn0_12 : PySem.W.findIn K (.ref kc12) "limit" = some none)
    {N_13 : Addr} {nm_13 q_13 : Str} {bs_13 : List Value} {sn_13 : List Str} {sub_13 : List Value} {ab_13 : Bool} {col_13 : Option Bool} {dd_13 : Option Addr} {u0_13 u1_13 u2_13 u3_13 u5_13 : Option Value}
    (xa_13 : PySem.W.nsIn K mainGlobals "Faulty" = some (some (.ref kc13))) (xl_13 : K.lookup kc13 = some (excClassObj nm_13 q_13 kc13 N_13 bs_13 (.ref kc21 :: veM) true sn_13 sub_13 ab_13 col_13 dd_13 u0_13 u1_13 u2_13 u3_13 u5_13 "ValueError.__new__"))
    (xs_13 : PySem.W.findIn K (.ref kc13) "__setattr__" = some (some (.builtin "object.__setattr__"))) (xk_13 : PySem.W.keepIn K (.ref kc13) = true)
    (xg_13 : PySem.W.findIn K (.ref kc13) "__getattribute__" = some (some (.builtin "BaseException.__getattribute__"))) (xh_13 : PySem.W.findIn K (.ref kc13) "__getattr__" = some none) (xc_13 : PySem.W.findIn K (.ref kc13) "__class__" = some (some (.builtin "object.__class__")))
    {f_13 cda_13 cc_13 : Addr} {na_13 qu_13 : Str} {oc_13 kV_13 doc_13 pm_13 ct_13 ccl_13 cl_13 : Value} {od_13 an_13 cdd_13 cld_13 : Option Addr} {osl_13 ccs_13 csl_13 : Array (Option Value)} {vs_13 : Array Value} {fi_13 : Str} {tf_13 : Tok}
    (xi_13 : PySem.W.findIn K (.ref kc13) "__init__" = some (some (.ref f_13))) (xf_13 : K.lookup f_13 = some ⟨oc_13, od_13, .func (PySem.W.ksFn na_13 qu_13 (defArgs i_Faulty) (defBody i_Faulty) (defScope i_Faulty) .none kV_13 doc_13 pm_13 an_13 (.ref cda_13) ct_13 cc_13), osl_13⟩)
    (xj_13 : PySem.W.codeIn K (.ref cda_13) qu_13 = true) (xd_13 : K.lookup cda_13 = some ⟨ccl_13, cdd_13, .fields vs_13, ccs_13⟩) (xe_13 : K.lookup cc_13 = some ⟨cl_13, cld_13, .cell (some (.ref kc13)), csl_13⟩)
    (xo_13 : oc_13 = .type "function") (xv_13 : vs_13[2]? = some (.str fi_13 tf_13)) (xw_13 : ((P.main.file : Str) == fi_13) = true)
    (xn0_13 : PySem.W.findIn K (.ref kc13) "word" = some none) (xn1_13 : PySem.W.findIn K (.ref kc13) "function" = some none) (xn2_13 : PySem.W.findIn K (.ref kc13) "address" = some none)
    {N_14 : Addr} {nm_14 q_14 : Str} {bs_14 : List Value} {sn_14 : List Str} {sub_14 : List Value} {ab_14 : Bool} {col_14 : Option Bool} {dd_14 : Option Addr} {u0_14 u1_14 u2_14 u3_14 u5_14 : Option Value}
    (xa_14 : PySem.W.nsIn K mainGlobals "Unsteady" = some (some (.ref kc14))) (xl_14 : K.lookup kc14 = some (excClassObj nm_14 q_14 kc14 N_14 bs_14 (.ref kc21 :: veM) true sn_14 sub_14 ab_14 col_14 dd_14 u0_14 u1_14 u2_14 u3_14 u5_14 "ValueError.__new__"))
    (xs_14 : PySem.W.findIn K (.ref kc14) "__setattr__" = some (some (.builtin "object.__setattr__"))) (xk_14 : PySem.W.keepIn K (.ref kc14) = true)
    (xg_14 : PySem.W.findIn K (.ref kc14) "__getattribute__" = some (some (.builtin "BaseException.__getattribute__"))) (xh_14 : PySem.W.findIn K (.ref kc14) "__getattr__" = some none) (xc_14 : PySem.W.findIn K (.ref kc14) "__class__" = some (some (.builtin "object.__class__")))
    {f_14 cda_14 cc_14 : Addr} {na_14 qu_14 : Str} {oc_14 kV_14 doc_14 pm_14 ct_14 ccl_14 cl_14 : Value} {od_14 an_14 cdd_14 cld_14 : Option Addr} {osl_14 ccs_14 csl_14 : Array (Option Value)} {vs_14 : Array Value} {fi_14 : Str} {tf_14 : Tok}
    (xi_14 : PySem.W.findIn K (.ref kc14) "__init__" = some (some (.ref f_14))) (xf_14 : K.lookup f_14 = some ⟨oc_14, od_14, .func (PySem.W.ksFn na_14 qu_14 (defArgs i_Unsteady) (defBody i_Unsteady) (defScope i_Unsteady) .none kV_14 doc_14 pm_14 an_14 (.ref cda_14) ct_14 cc_14), osl_14⟩)
    (xj_14 : PySem.W.codeIn K (.ref cda_14) qu_14 = true) (xd_14 : K.lookup cda_14 = some ⟨ccl_14, cdd_14, .fields vs_14, ccs_14⟩) (xe_14 : K.lookup cc_14 = some ⟨cl_14, cld_14, .cell (some (.ref kc14)), csl_14⟩)
    (xo_14 : oc_14 = .type "function") (xv_14 : vs_14[2]? = some (.str fi_14 tf_14)) (xw_14 : ((P.main.file : Str) == fi_14) = true)
    (xn0_14 : PySem.W.findIn K (.ref kc14) "why" = some none)
    {N_15 : Addr} {nm_15 q_15 : Str} {bs_15 : List Value} {sn_15 : List Str} {sub_15 : List Value} {ab_15 : Bool} {col_15 : Option Bool} {dd_15 : Option Addr} {u0_15 u1_15 u2_15 u3_15 u5_15 : Option Value}
    (xa_15 : PySem.W.nsIn K mainGlobals "NoDeed" = some (some (.ref kc15))) (xl_15 : K.lookup kc15 = some (excClassObj nm_15 q_15 kc15 N_15 bs_15 (.ref kc21 :: veM) true sn_15 sub_15 ab_15 col_15 dd_15 u0_15 u1_15 u2_15 u3_15 u5_15 "ValueError.__new__"))
    (xs_15 : PySem.W.findIn K (.ref kc15) "__setattr__" = some (some (.builtin "object.__setattr__"))) (xk_15 : PySem.W.keepIn K (.ref kc15) = true)
    (xg_15 : PySem.W.findIn K (.ref kc15) "__getattribute__" = some (some (.builtin "BaseException.__getattribute__"))) (xh_15 : PySem.W.findIn K (.ref kc15) "__getattr__" = some none) (xc_15 : PySem.W.findIn K (.ref kc15) "__class__" = some (some (.builtin "object.__class__")))
    (xi_15 : PySem.W.findIn K (.ref kc15) "__init__" = some (some (.builtin "ValueError.__init__")))
    {N_16 : Addr} {nm_16 q_16 : Str} {bs_16 : List Value} {sn_16 : List Str} {sub_16 : List Value} {ab_16 : Bool} {col_16 : Option Bool} {dd_16 : Option Addr} {u0_16 u1_16 u2_16 u3_16 u5_16 : Option Value}
    (xa_16 : PySem.W.nsIn K mainGlobals "Full" = some (some (.ref kc16))) (xl_16 : K.lookup kc16 = some (excClassObj nm_16 q_16 kc16 N_16 bs_16 (.ref kc21 :: veM) true sn_16 sub_16 ab_16 col_16 dd_16 u0_16 u1_16 u2_16 u3_16 u5_16 "ValueError.__new__"))
    (xs_16 : PySem.W.findIn K (.ref kc16) "__setattr__" = some (some (.builtin "object.__setattr__"))) (xk_16 : PySem.W.keepIn K (.ref kc16) = true)
    (xg_16 : PySem.W.findIn K (.ref kc16) "__getattribute__" = some (some (.builtin "BaseException.__getattribute__"))) (xh_16 : PySem.W.findIn K (.ref kc16) "__getattr__" = some none) (xc_16 : PySem.W.findIn K (.ref kc16) "__class__" = some (some (.builtin "object.__class__")))
    {f_16 cda_16 cc_16 : Addr} {na_16 qu_16 : Str} {oc_16 kV_16 doc_16 pm_16 ct_16 ccl_16 cl_16 : Value} {od_16 an_16 cdd_16 cld_16 : Option Addr} {osl_16 ccs_16 csl_16 : Array (Option Value)} {vs_16 : Array Value} {fi_16 : Str} {tf_16 : Tok}
    (xi_16 : PySem.W.findIn K (.ref kc16) "__init__" = some (some (.ref f_16))) (xf_16 : K.lookup f_16 = some ⟨oc_16, od_16, .func (PySem.W.ksFn na_16 qu_16 (defArgs i_Full) (defBody i_Full) (defScope i_Full) .none kV_16 doc_16 pm_16 an_16 (.ref cda_16) ct_16 cc_16), osl_16⟩)
    (xj_16 : PySem.W.codeIn K (.ref cda_16) qu_16 = true) (xd_16 : K.lookup cda_16 = some ⟨ccl_16, cdd_16, .fields vs_16, ccs_16⟩) (xe_16 : K.lookup cc_16 = some ⟨cl_16, cld_16, .cell (some (.ref kc16)), csl_16⟩)
    (xo_16 : oc_16 = .type "function") (xv_16 : vs_16[2]? = some (.str fi_16 tf_16)) (xw_16 : ((P.main.file : Str) == fi_16) = true)
    (xn0_16 : PySem.W.findIn K (.ref kc16) "limit" = some none)
    {N_17 : Addr} {nm_17 q_17 : Str} {bs_17 : List Value} {sn_17 : List Str} {sub_17 : List Value} {ab_17 : Bool} {col_17 : Option Bool} {dd_17 : Option Addr} {u0_17 u1_17 u2_17 u3_17 u5_17 : Option Value}
    (xa_17 : PySem.W.nsIn K mainGlobals "Refused" = some (some (.ref kc17))) (xl_17 : K.lookup kc17 = some (excClassObj nm_17 q_17 kc17 N_17 bs_17 (.ref kc21 :: veM) true sn_17 sub_17 ab_17 col_17 dd_17 u0_17 u1_17 u2_17 u3_17 u5_17 "ValueError.__new__"))
    (xs_17 : PySem.W.findIn K (.ref kc17) "__setattr__" = some (some (.builtin "object.__setattr__"))) (xk_17 : PySem.W.keepIn K (.ref kc17) = true)
    (xg_17 : PySem.W.findIn K (.ref kc17) "__getattribute__" = some (some (.builtin "BaseException.__getattribute__"))) (xh_17 : PySem.W.findIn K (.ref kc17) "__getattr__" = some none) (xc_17 : PySem.W.findIn K (.ref kc17) "__class__" = some (some (.builtin "object.__class__")))
    {f_17 cda_17 cc_17 : Addr} {na_17 qu_17 : Str} {oc_17 kV_17 doc_17 pm_17 ct_17 ccl_17 cl_17 : Value} {od_17 an_17 cdd_17 cld_17 : Option Addr} {osl_17 ccs_17 csl_17 : Array (Option Value)} {vs_17 : Array Value} {fi_17 : Str} {tf_17 : Tok}
    (xi_17 : PySem.W.findIn K (.ref kc17) "__init__" = some (some (.ref f_17))) (xf_17 : K.lookup f_17 = some ⟨oc_17, od_17, .func (PySem.W.ksFn na_17 qu_17 (defArgs i_Refused) (defBody i_Refused) (defScope i_Refused) .none kV_17 doc_17 pm_17 an_17 (.ref cda_17) ct_17 cc_17), osl_17⟩)
    (xj_17 : PySem.W.codeIn K (.ref cda_17) qu_17 = true) (xd_17 : K.lookup cda_17 = some ⟨ccl_17, cdd_17, .fields vs_17, ccs_17⟩) (xe_17 : K.lookup cc_17 = some ⟨cl_17, cld_17, .cell (some (.ref kc17)), csl_17⟩)
    (xo_17 : oc_17 = .type "function") (xv_17 : vs_17[2]? = some (.str fi_17 tf_17)) (xw_17 : ((P.main.file : Str) == fi_17) = true)
    (xn0_17 : PySem.W.findIn K (.ref kc17) "deed" = some none) (xn1_17 : PySem.W.findIn K (.ref kc17) "why" = some none)
    {N_18 : Addr} {nm_18 q_18 : Str} {bs_18 : List Value} {sn_18 : List Str} {sub_18 : List Value} {ab_18 : Bool} {col_18 : Option Bool} {dd_18 : Option Addr} {u0_18 u1_18 u2_18 u3_18 u5_18 : Option Value}
    (xa_18 : PySem.W.nsIn K mainGlobals "NoEntry" = some (some (.ref kc18))) (xl_18 : K.lookup kc18 = some (excClassObj nm_18 q_18 kc18 N_18 bs_18 (.ref kc21 :: veM) true sn_18 sub_18 ab_18 col_18 dd_18 u0_18 u1_18 u2_18 u3_18 u5_18 "ValueError.__new__"))
    (xs_18 : PySem.W.findIn K (.ref kc18) "__setattr__" = some (some (.builtin "object.__setattr__"))) (xk_18 : PySem.W.keepIn K (.ref kc18) = true)
    (xg_18 : PySem.W.findIn K (.ref kc18) "__getattribute__" = some (some (.builtin "BaseException.__getattribute__"))) (xh_18 : PySem.W.findIn K (.ref kc18) "__getattr__" = some none) (xc_18 : PySem.W.findIn K (.ref kc18) "__class__" = some (some (.builtin "object.__class__")))
    {f_18 cda_18 cc_18 : Addr} {na_18 qu_18 : Str} {oc_18 kV_18 doc_18 pm_18 ct_18 ccl_18 cl_18 : Value} {od_18 an_18 cdd_18 cld_18 : Option Addr} {osl_18 ccs_18 csl_18 : Array (Option Value)} {vs_18 : Array Value} {fi_18 : Str} {tf_18 : Tok}
    (xi_18 : PySem.W.findIn K (.ref kc18) "__init__" = some (some (.ref f_18))) (xf_18 : K.lookup f_18 = some ⟨oc_18, od_18, .func (PySem.W.ksFn na_18 qu_18 (defArgs i_NoEntry) (defBody i_NoEntry) (defScope i_NoEntry) .none kV_18 doc_18 pm_18 an_18 (.ref cda_18) ct_18 cc_18), osl_18⟩)
    (xj_18 : PySem.W.codeIn K (.ref cda_18) qu_18 = true) (xd_18 : K.lookup cda_18 = some ⟨ccl_18, cdd_18, .fields vs_18, ccs_18⟩) (xe_18 : K.lookup cc_18 = some ⟨cl_18, cld_18, .cell (some (.ref kc18)), csl_18⟩)
    (xo_18 : oc_18 = .type "function") (xv_18 : vs_18[2]? = some (.str fi_18 tf_18)) (xw_18 : ((P.main.file : Str) == fi_18) = true)
    (xn0_18 : PySem.W.findIn K (.ref kc18) "many" = some none)
    {N_19 : Addr} {nm_19 q_19 : Str} {bs_19 : List Value} {sn_19 : List Str} {sub_19 : List Value} {ab_19 : Bool} {col_19 : Option Bool} {dd_19 : Option Addr} {u0_19 u1_19 u2_19 u3_19 u5_19 : Option Value}
    (xa_19 : PySem.W.nsIn K mainGlobals "NoText" = some (some (.ref kc19))) (xl_19 : K.lookup kc19 = some (excClassObj nm_19 q_19 kc19 N_19 bs_19 (.ref kc21 :: veM) true sn_19 sub_19 ab_19 col_19 dd_19 u0_19 u1_19 u2_19 u3_19 u5_19 "ValueError.__new__"))
    (xs_19 : PySem.W.findIn K (.ref kc19) "__setattr__" = some (some (.builtin "object.__setattr__"))) (xk_19 : PySem.W.keepIn K (.ref kc19) = true)
    (xg_19 : PySem.W.findIn K (.ref kc19) "__getattribute__" = some (some (.builtin "BaseException.__getattribute__"))) (xh_19 : PySem.W.findIn K (.ref kc19) "__getattr__" = some none) (xc_19 : PySem.W.findIn K (.ref kc19) "__class__" = some (some (.builtin "object.__class__")))
    (xi_19 : PySem.W.findIn K (.ref kc19) "__init__" = some (some (.builtin "ValueError.__init__")))
    {N_20 : Addr} {nm_20 q_20 : Str} {bs_20 : List Value} {sn_20 : List Str} {sub_20 : List Value} {ab_20 : Bool} {col_20 : Option Bool} {dd_20 : Option Addr} {u0_20 u1_20 u2_20 u3_20 u5_20 : Option Value}
    (xa_20 : PySem.W.nsIn K mainGlobals "NoCommand" = some (some (.ref kc20))) (xl_20 : K.lookup kc20 = some (excClassObj nm_20 q_20 kc20 N_20 bs_20 (.ref kc21 :: veM) true sn_20 sub_20 ab_20 col_20 dd_20 u0_20 u1_20 u2_20 u3_20 u5_20 "ValueError.__new__"))
    (xs_20 : PySem.W.findIn K (.ref kc20) "__setattr__" = some (some (.builtin "object.__setattr__"))) (xk_20 : PySem.W.keepIn K (.ref kc20) = true)
    (xg_20 : PySem.W.findIn K (.ref kc20) "__getattribute__" = some (some (.builtin "BaseException.__getattribute__"))) (xh_20 : PySem.W.findIn K (.ref kc20) "__getattr__" = some none) (xc_20 : PySem.W.findIn K (.ref kc20) "__class__" = some (some (.builtin "object.__class__")))
    (xi_20 : PySem.W.findIn K (.ref kc20) "__init__" = some (some (.builtin "ValueError.__init__")))
    (nd : [kc0, kc1, kc2, kc3, kc4, kc5, kc6, kc7, kc8, kc9, kc10, kc11, kc12, kc13, kc14, kc15, kc16, kc17, kc18, kc19, kc20, kc21].Nodup)
    {f0 : Addr} {od0 an0 : Option Addr} {sl0 : Array (Option Value)} {oc0 kV0 dc0 pm0 cd0 ct0 : Value}
    {f1 : Addr} {od1 an1 : Option Addr} {sl1 : Array (Option Value)} {oc1 kV1 dc1 pm1 cd1 ct1 : Value}
    {f2 : Addr} {od2 an2 : Option Addr} {sl2 : Array (Option Value)} {oc2 kV2 dc2 pm2 cd2 ct2 : Value}
    {f3 : Addr} {od3 an3 : Option Addr} {sl3 : Array (Option Value)} {oc3 kV3 dc3 pm3 cd3 ct3 : Value}
    {f4 : Addr} {od4 an4 : Option Addr} {sl4 : Array (Option Value)} {oc4 kV4 dc4 pm4 cd4 ct4 : Value}
    {f5 : Addr} {od5 an5 : Option Addr} {sl5 : Array (Option Value)} {oc5 kV5 dc5 pm5 cd5 ct5 : Value}
    {f6 : Addr} {od6 an6 : Option Addr} {sl6 : Array (Option Value)} {oc6 kV6 dc6 pm6 cd6 ct6 : Value}
    {f7 : Addr} {od7 an7 : Option Addr} {sl7 : Array (Option Value)} {oc7 kV7 dc7 pm7 cd7 ct7 : Value}
    (a0 : PySem.W.nsIn K mainGlobals "_law_bag" = some (some (.ref f0))) (l0 : K.lookup f0 = some ⟨oc0, od0, .func (PySem.W.fnOf "_law_bag" "_law_bag" (defArgs s_F_law_bag) (defBody s_F_law_bag) (defScope s_F_law_bag) .none kV0 dc0 pm0 an0 cd0 ct0), sl0⟩) (c0 : PySem.W.codeIn K cd0 "_law_bag" = true) (k0 : PySem.W.keepIn K (.ref f0) = true)
    (a1 : PySem.W.nsIn K mainGlobals "_law_take" = some (some (.ref f1))) (l1 : K.lookup f1 = some ⟨oc1, od1, .func (PySem.W.fnOf "_law_take" "_law_take" (defArgs s_F_law_take) (defBody s_F_law_take) (defScope s_F_law_take) .none kV1 dc1 pm1 an1 cd1 ct1), sl1⟩) (c1 : PySem.W.codeIn K cd1 "_law_take" = true) (k1 : PySem.W.keepIn K (.ref f1) = true)
    (a2 : PySem.W.nsIn K mainGlobals "_law_alike" = some (some (.ref f2))) (l2 : K.lookup f2 = some ⟨oc2, od2, .func (PySem.W.fnOf "_law_alike" "_law_alike" (defArgs s_F_law_alike) (defBody s_F_law_alike) (defScope s_F_law_alike) .none kV2 dc2 pm2 an2 cd2 ct2), sl2⟩) (c2 : PySem.W.codeIn K cd2 "_law_alike" = true) (k2 : PySem.W.keepIn K (.ref f2) = true)
    (a3 : PySem.W.nsIn K mainGlobals "_law_thing" = some (some (.ref f3))) (l3 : K.lookup f3 = some ⟨oc3, od3, .func (PySem.W.fnOf "_law_thing" "_law_thing" (defArgs s_F_law_thing) (defBody s_F_law_thing) (defScope s_F_law_thing) .none kV3 dc3 pm3 an3 cd3 ct3), sl3⟩) (c3 : PySem.W.codeIn K cd3 "_law_thing" = true) (k3 : PySem.W.keepIn K (.ref f3) = true)
    (a4 : PySem.W.nsIn K mainGlobals "_law_errors" = some (some (.ref f4))) (l4 : K.lookup f4 = some ⟨oc4, od4, .func (PySem.W.fnOf "_law_errors" "_law_errors" (defArgs s_F_law_errors) (defBody s_F_law_errors) (defScope s_F_law_errors) .none kV4 dc4 pm4 an4 cd4 ct4), sl4⟩) (c4 : PySem.W.codeIn K cd4 "_law_errors" = true) (k4 : PySem.W.keepIn K (.ref f4) = true)
    (a5 : PySem.W.nsIn K mainGlobals "_law_kinds" = some (some (.ref f5))) (l5 : K.lookup f5 = some ⟨oc5, od5, .func (PySem.W.fnOf "_law_kinds" "_law_kinds" (defArgs s_F_law_kinds) (defBody s_F_law_kinds) (defScope s_F_law_kinds) .none kV5 dc5 pm5 an5 cd5 ct5), sl5⟩) (c5 : PySem.W.codeIn K cd5 "_law_kinds" = true) (k5 : PySem.W.keepIn K (.ref f5) = true)
    (a6 : PySem.W.nsIn K mainGlobals "_law_fields" = some (some (.ref f6))) (l6 : K.lookup f6 = some ⟨oc6, od6, .func (PySem.W.fnOf "_law_fields" "_law_fields" (defArgs s_F_law_fields) (defBody s_F_law_fields) (defScope s_F_law_fields) .none kV6 dc6 pm6 an6 cd6 ct6), sl6⟩) (c6 : PySem.W.codeIn K cd6 "_law_fields" = true) (k6 : PySem.W.keepIn K (.ref f6) = true)
    (a7 : PySem.W.nsIn K mainGlobals "law" = some (some (.ref f7))) (l7 : K.lookup f7 = some ⟨oc7, od7, .func (PySem.W.fnOf "law" "law" (defArgs s_F_law) (defBody s_F_law) (defScope s_F_law) .none kV7 dc7 pm7 an7 cd7 ct7), sl7⟩) (c7 : PySem.W.codeIn K cd7 "law" = true) (k7 : PySem.W.keepIn K (.ref f7) = true)
    (z_ValueError : PySem.W.nsIn K mainGlobals "ValueError" = some none)
    (z_abs : PySem.W.nsIn K mainGlobals "abs" = some none)
    (z_dict : PySem.W.nsIn K mainGlobals "dict" = some none)
    (z_enumerate : PySem.W.nsIn K mainGlobals "enumerate" = some none)
    (z_int : PySem.W.nsIn K mainGlobals "int" = some none)
    (z_isinstance : PySem.W.nsIn K mainGlobals "isinstance" = some none)
    (z_len : PySem.W.nsIn K mainGlobals "len" = some none)
    (z_list : PySem.W.nsIn K mainGlobals "list" = some none)
    (z_range : PySem.W.nsIn K mainGlobals "range" = some none)
    (z_repr : PySem.W.nsIn K mainGlobals "repr" = some none) : Tx P K mg (fun i => [kc0, kc1, kc2, kc3, kc4, kc5, kc6, kc7, kc8, kc9, kc10, kc11, kc12, kc13, kc14, kc15, kc16, kc17, kc18, kc19, kc20, kc21].getD i 0) := by
  have bk : OwnY K mg "BackError" kc21 (.ref kc21 :: veM) := mkY X G rfl xa_21 xl_21 xs_21 xk_21 xg_21 xh_21 xc_21 xi_21
  exact ⟨⟨PySem.W.mg_none_of X G gs, go, gt⟩, ⟨gg1, gg2⟩, inj_of rfl nd, mkX X G bk rfl xo_0 xw_0 xv_0 xa_0 xl_0 xs_0 xk_0 xg_0 xh_0 xc_0 xi_0 xf_0 xj_0 xd_0 xe_0 (all1 xn0_0), mkX X G bk rfl xo_1 xw_1 xv_1 xa_1 xl_1 xs_1 xk_1 xg_1 xh_1 xc_1 xi_1 xf_1 xj_1 xd_1 xe_1 (all2 xn0_1 xn1_1), mkX X G bk rfl xo_2 xw_2 xv_2 xa_2 xl_2 xs_2 xk_2 xg_2 xh_2 xc_2 xi_2 xf_2 xj_2 xd_2 xe_2 (all1 xn0_2), mkX X G bk rfl xo_3 xw_3 xv_3 xa_3 xl_3 xs_3 xk_3 xg_3 xh_3 xc_3 xi_3 xf_3 xj_3 xd_3 xe_3 (all2 xn0_3 xn1_3), mkX X G bk rfl xo_4 xw_4 xv_4 xa_4 xl_4 xs_4 xk_4 xg_4 xh_4 xc_4 xi_4 xf_4 xj_4 xd_4 xe_4 (all2 xn0_4 xn1_4), mkX X G bk rfl xo_5 xw_5 xv_5 xa_5 xl_5 xs_5 xk_5 xg_5 xh_5 xc_5 xi_5 xf_5 xj_5 xd_5 xe_5 (all1 xn0_5), mkX X G bk rfl xo_6 xw_6 xv_6 xa_6 xl_6 xs_6 xk_6 xg_6 xh_6 xc_6 xi_6 xf_6 xj_6 xd_6 xe_6 (all1 xn0_6), mkY X G rfl xa_7 xl_7 xs_7 xk_7 xg_7 xh_7 xc_7 xi_7, mkY X G rfl xa_8 xl_8 xs_8 xk_8 xg_8 xh_8 xc_8 xi_8, mkY X G rfl xa_9 xl_9 xs_9 xk_9 xg_9 xh_9 xc_9 xi_9, mkX X G bk rfl xo_10 xw_10 xv_10 xa_10 xl_10 xs_10 xk_10 xg_10 xh_10 xc_10 xi_10 xf_10 xj_10 xd_10 xe_10 (all1 xn0_10), mkX X G bk rfl xo_11 xw_11 xv_11 xa_11 xl_11 xs_11 xk_11 xg_11 xh_11 xc_11 xi_11 xf_11 xj_11 xd_11 xe_11 (all1 xn0_11), mkX X G bk rfl xo_12 xw_12 xv_12 xa_12 xl_12 xs_12 xk_12 xg_12 xh_12 xc_12 xi_12 xf_12 xj_12 xd_12 xe_12 (all1 xn0_12), mkX X G bk rfl xo_13 xw_13 xv_13 xa_13 xl_13 xs_13 xk_13 xg_13 xh_13 xc_13 xi_13 xf_13 xj_13 xd_13 xe_13 (all3 xn0_13 xn1_13 xn2_13), mkX X G bk rfl xo_14 xw_14 xv_14 xa_14 xl_14 xs_14 xk_14 xg_14 xh_14 xc_14 xi_14 xf_14 xj_14 xd_14 xe_14 (all1 xn0_14), mkY X G rfl xa_15 xl_15 xs_15 xk_15 xg_15 xh_15 xc_15 xi_15, mkX X G bk rfl xo_16 xw_16 xv_16 xa_16 xl_16 xs_16 xk_16 xg_16 xh_16 xc_16 xi_16 xf_16 xj_16 xd_16 xe_16 (all1 xn0_16), mkX X G bk rfl xo_17 xw_17 xv_17 xa_17 xl_17 xs_17 xk_17 xg_17 xh_17 xc_17 xi_17 xf_17 xj_17 xd_17 xe_17 (all2 xn0_17 xn1_17), mkX X G bk rfl xo_18 xw_18 xv_18 xa_18 xl_18 xs_18 xk_18 xg_18 xh_18 xc_18 xi_18 xf_18 xj_18 xd_18 xe_18 (all1 xn0_18), mkY X G rfl xa_19 xl_19 xs_19 xk_19 xg_19 xh_19 xc_19 xi_19, mkY X G rfl xa_20 xl_20 xs_20 xk_20 xg_20 xh_20 xc_20 xi_20, bk, has_mk X G a0 l0 c0 k0, has_mk X G a1 l1 c1 k1, has_mk X G a2 l2 c2 k2, has_mk X G a3 l3 c3 k3, has_mk X G a4 l4 c4 k4, has_mk X G a5 l5 c5 k5, has_mk X G a6 l6 c6 k6, has_mk X G a7 l7 c7 k7, PySem.W.mg_none_of X G z_ValueError, PySem.W.mg_none_of X G z_abs, PySem.W.mg_none_of X G z_dict, PySem.W.mg_none_of X G z_enumerate, PySem.W.mg_none_of X G z_int, PySem.W.mg_none_of X G z_isinstance, PySem.W.mg_none_of X G z_len, PySem.W.mg_none_of X G z_list, PySem.W.mg_none_of X G z_range, PySem.W.mg_none_of X G z_repr⟩
theorem all_mk {P : Program} {w : World} {K : PySem.W.Frag} {mg : Str → Option Value} {cs : Nat → Addr} {fa : Addr} (hfa : mg "law" = some (.ref fa)) (T : Tx P K mg cs) :
    ∃ fd : FuncData, (∀ (s : Shared) (u : Value), BindsTo s fd ⟨[u], []⟩ [("_law_script", u)]) ∧ ∀ base : Heap, K.In base → base.Ns mainGlobals mg → FnG P w K mg base CX0 3 fa fd ["_law_script"] (spEnd K) :=
  end_mk hfa T.h_F_law bn_F_law fun base f fd F => ok_law T f fd F
end K11
open PySem PySem.W PyProof.Rows
set_option maxRecDepth 100000 in
set_option maxHeartbeats 0 in
theorem PySem.Challenge.cw_landedback_k11_errors_kept_holds : PySem.Challenge.rw_landedback_k11_errors_kept.Holds := by
  w_on; o_law; k_head; (case hw => w_witness2)
  k_fill
  refine Lb.walk63 (k := 3) (x := "_law_script") (l := PySem.Challenge.rw_landedback_k11_errors_kept) (by decide) rfl rfl (fun w h Y => PySem.W.kIn_of Y) ?F
  case F =>
    intro w mg fa h KX G hmg
    refine' K11.all_mk hmg (K11.tx_mk (P := PySem.Challenge.pw_landedback_k11_errors_kept) KX G ?gs ?go ?gt ?gg1 ?gg2 ?xa_21 ?xl_21 ?xs_21 ?xk_21 ?xg_21 ?xh_21 ?xc_21 ?xi_21 ?xa_0 ?xl_0 ?xs_0 ?xk_0 ?xg_0 ?xh_0 ?xc_0 ?xi_0 ?xf_0 ?xj_0 ?xd_0 ?xe_0 ?xo_0 ?xv_0 ?xw_0 ?xn0_0 ?xa_1 ?xl_1 ?xs_1 ?xk_1 ?xg_1 ?xh_1 ?xc_1 ?xi_1 ?xf_1 ?xj_1 ?xd_1 ?xe_1 ?xo_1 ?xv_1 ?xw_1 ?xn0_1 ?xn1_1 ?xa_2 ?xl_2 ?xs_2 ?xk_2 ?xg_2 ?xh_2 ?xc_2 ?xi_2 ?xf_2 ?xj_2 ?xd_2 ?xe_2 ?xo_2 ?xv_2 ?xw_2 ?xn0_2 ?xa_3 ?xl_3 ?xs_3 ?xk_3 ?xg_3 ?xh_3 ?xc_3 ?xi_3 ?xf_3 ?xj_3 ?xd_3 ?xe_3 ?xo_3 ?xv_3 ?xw_3 ?xn0_3 ?xn1_3 ?xa_4 ?xl_4 ?xs_4 ?xk_4 ?xg_4 ?xh_4 ?xc_4 ?xi_4 ?xf_4 ?xj_4 ?xd_4 ?xe_4 ?xo_4 ?xv_4 ?xw_4 ?xn0_4 ?xn1_4 ?xa_5 ?xl_5 ?xs_5 ?xk_5 ?xg_5 ?xh_5 ?xc_5 ?xi_5 ?xf_5 ?xj_5 ?xd_5 ?xe_5 ?xo_5 ?xv_5 ?xw_5 ?xn0_5 ?xa_6 ?xl_6 ?xs_6 ?xk_6 ?xg_6 ?xh_6 ?xc_6 ?xi_6 ?xf_6 ?xj_6 ?xd_6 ?xe_6 ?xo_6 ?xv_6 ?xw_6 ?xn0_6 ?xa_7 ?xl_7 ?xs_7 ?xk_7 ?xg_7 ?xh_7 ?xc_7 ?xi_7 ?xa_8 ?xl_8 ?xs_8 ?xk_8 ?xg_8 ?xh_8 ?xc_8 ?xi_8 ?xa_9 ?xl_9 ?xs_9 ?xk_9 ?xg_9 ?xh_9 ?xc_9 ?xi_9 ?xa_10 ?xl_10 ?xs_10 ?xk_10 ?xg_10 ?xh_10 ?xc_10 ?xi_10 ?xf_10 ?xj_10 ?xd_10 ?xe_10 ?xo_10 ?xv_10 ?xw_10 ?xn0_10 ?xa_11 ?xl_11 ?xs_11 ?xk_11 ?xg_11 ?xh_11 ?xc_11 ?xi_11 ?xf_11 ?xj_11 ?xd_11 ?xe_11 ?xo_11 ?xv_11 ?xw_11 ?xn0_11 ?xa_12 ?xl_12 ?xs_12 ?xk_12 ?xg_12 ?xh_12 ?xc_12 ?xi_12 ?xf_12 ?xj_12 ?xd_12 ?xe_12 ?xo_12 ?xv_12 ?xw_12 ?xn0_12 ?xa_13 ?xl_13 ?xs_13 ?xk_13 ?xg_13 ?xh_13 ?xc_13 ?xi_13 ?xf_13 ?xj_13 ?xd_13 ?xe_13 ?xo_13 ?xv_13 ?xw_13 ?xn0_13 ?xn1_13 ?xn2_13 ?xa_14 ?xl_14 ?xs_14 ?xk_14 ?xg_14 ?xh_14 ?xc_14 ?xi_14 ?xf_14 ?xj_14 ?xd_14 ?xe_14 ?xo_14 ?xv_14 ?xw_14 ?xn0_14 ?xa_15 ?xl_15 ?xs_15 ?xk_15 ?xg_15 ?xh_15 ?xc_15 ?xi_15 ?xa_16 ?xl_16 ?xs_16 ?xk_16 ?xg_16 ?xh_16 ?xc_16 ?xi_16 ?xf_16 ?xj_16 ?xd_16 ?xe_16 ?xo_16 ?xv_16 ?xw_16 ?xn0_16 ?xa_17 ?xl_17 ?xs_17 ?xk_17 ?xg_17 ?xh_17 ?xc_17 ?xi_17 ?xf_17 ?xj_17 ?xd_17 ?xe_17 ?xo_17 ?xv_17 ?xw_17 ?xn0_17 ?xn1_17 ?xa_18 ?xl_18 ?xs_18 ?xk_18 ?xg_18 ?xh_18 ?xc_18 ?xi_18 ?xf_18 ?xj_18 ?xd_18 ?xe_18 ?xo_18 ?xv_18 ?xw_18 ?xn0_18 ?xa_19 ?xl_19 ?xs_19 ?xk_19 ?xg_19 ?xh_19 ?xc_19 ?xi_19 ?xa_20 ?xl_20 ?xs_20 ?xk_20 ?xg_20 ?xh_20 ?xc_20 ?xi_20 ?nd ?a0 ?l0 ?c0 ?k0 ?a1 ?l1 ?c1 ?k1 ?a2 ?l2 ?c2 ?k2 ?a3 ?l3 ?c3 ?k3 ?a4 ?l4 ?c4 ?k4 ?a5 ?l5 ?c5 ?k5 ?a6 ?l6 ?c6 ?k6 ?a7 ?l7 ?c7 ?k7 ?z_ValueError ?z_abs ?z_dict ?z_enumerate ?z_int ?z_isinstance ?z_len ?z_list ?z_range ?z_repr)
    (case gs => k_is); (case go => k_is); (case gt => rfl); (case gg1 => k_is); (case gg2 => k_is); (case xa_21 => k_is); (case xl_21 => k_is); (case xs_21 => k_is)
    (case xk_21 => k_is); (case xg_21 => k_is); (case xh_21 => k_is); (case xc_21 => k_is); (case xi_21 => k_is); (case xa_0 => k_is); (case xl_0 => k_is); (case xs_0 => k_is)
    (case xk_0 => k_is); (case xg_0 => k_is); (case xh_0 => k_is); (case xc_0 => k_is); (case xi_0 => k_is); (case xf_0 => k_is); (case xj_0 => k_is); (case xd_0 => k_is)
    (case xe_0 => k_is); (case xo_0 => rfl); (case xv_0 => rfl); (case xw_0 => rfl); (case xn0_0 => k_is); (case xa_1 => k_is); (case xl_1 => k_is); (case xs_1 => k_is)
    (case xk_1 => k_is); (case xg_1 => k_is); (case xh_1 => k_is); (case xc_1 => k_is); (case xi_1 => k_is); (case xf_1 => k_is); (case xj_1 => k_is); (case xd_1 => k_is)
    (case xe_1 => k_is); (case xo_1 => rfl); (case xv_1 => rfl); (case xw_1 => rfl); (case xn0_1 => k_is); (case xn1_1 => k_is); (case xa_2 => k_is); (case xl_2 => k_is)
    (case xs_2 => k_is); (case xk_2 => k_is); (case xg_2 => k_is); (case xh_2 => k_is); (case xc_2 => k_is); (case xi_2 => k_is); (case xf_2 => k_is); (case xj_2 => k_is)
    (case xd_2 => k_is); (case xe_2 => k_is); (case xo_2 => rfl); (case xv_2 => rfl); (case xw_2 => rfl); (case xn0_2 => k_is); (case xa_3 => k_is); (case xl_3 => k_is)
    (case xs_3 => k_is); (case xk_3 => k_is); (case xg_3 => k_is); (case xh_3 => k_is); (case xc_3 => k_is); (case xi_3 => k_is); (case xf_3 => k_is); (case xj_3 => k_is)
    (case xd_3 => k_is); (case xe_3 => k_is); (case xo_3 => rfl); (case xv_3 => rfl); (case xw_3 => rfl); (case xn0_3 => k_is); (case xn1_3 => k_is); (case xa_4 => k_is)
    (case xl_4 => k_is); (case xs_4 => k_is); (case xk_4 => k_is); (case xg_4 => k_is); (case xh_4 => k_is); (case xc_4 => k_is); (case xi_4 => k_is); (case xf_4 => k_is)
    (case xj_4 => k_is); (case xd_4 => k_is); (case xe_4 => k_is); (case xo_4 => rfl); (case xv_4 => rfl); (case xw_4 => rfl); (case xn0_4 => k_is); (case xn1_4 => k_is)
    (case xa_5 => k_is); (case xl_5 => k_is); (case xs_5 => k_is); (case xk_5 => k_is); (case xg_5 => k_is); (case xh_5 => k_is); (case xc_5 => k_is); (case xi_5 => k_is)
    (case xf_5 => k_is); (case xj_5 => k_is); (case xd_5 => k_is); (case xe_5 => k_is); (case xo_5 => rfl); (case xv_5 => rfl); (case xw_5 => rfl); (case xn0_5 => k_is)
    (case xa_6 => k_is); (case xl_6 => k_is); (case xs_6 => k_is); (case xk_6 => k_is); (case xg_6 => k_is); (case xh_6 => k_is); (case xc_6 => k_is); (case xi_6 => k_is)
    (case xf_6 => k_is); (case xj_6 => k_is); (case xd_6 => k_is); (case xe_6 => k_is); (case xo_6 => rfl); (case xv_6 => rfl); (case xw_6 => rfl); (case xn0_6 => k_is)
    (case xa_7 => k_is); (case xl_7 => k_is); (case xs_7 => k_is); (case xk_7 => k_is); (case xg_7 => k_is); (case xh_7 => k_is); (case xc_7 => k_is); (case xi_7 => k_is)
    (case xa_8 => k_is); (case xl_8 => k_is); (case xs_8 => k_is); (case xk_8 => k_is); (case xg_8 => k_is); (case xh_8 => k_is); (case xc_8 => k_is); (case xi_8 => k_is)
    (case xa_9 => k_is); (case xl_9 => k_is); (case xs_9 => k_is); (case xk_9 => k_is); (case xg_9 => k_is); (case xh_9 => k_is); (case xc_9 => k_is); (case xi_9 => k_is)
    (case xa_10 => k_is); (case xl_10 => k_is); (case xs_10 => k_is); (case xk_10 => k_is); (case xg_10 => k_is); (case xh_10 => k_is); (case xc_10 => k_is); (case xi_10 => k_is)
    (case xf_10 => k_is); (case xj_10 => k_is); (case xd_10 => k_is); (case xe_10 => k_is); (case xo_10 => rfl); (case xv_10 => rfl); (case xw_10 => rfl); (case xn0_10 => k_is)
    (case xa_11 => k_is); (case xl_11 => k_is); (case xs_11 => k_is); (case xk_11 => k_is); (case xg_11 => k_is); (case xh_11 => k_is); (case xc_11 => k_is); (case xi_11 => k_is)
    (case xf_11 => k_is); (case xj_11 => k_is); (case xd_11 => k_is); (case xe_11 => k_is); (case xo_11 => rfl); (case xv_11 => rfl); (case xw_11 => rfl); (case xn0_11 => k_is)
    (case xa_12 => k_is); (case xl_12 => k_is); (case xs_12 => k_is); (case xk_12 => k_is); (case xg_12 => k_is); (case xh_12 => k_is); (case xc_12 => k_is); (case xi_12 => k_is)
    (case xf_12 => k_is); (case xj_12 => k_is); (case xd_12 => k_is); (case xe_12 => k_is); (case xo_12 => rfl); (case xv_12 => rfl); (case xw_12 => rfl); (case xn0_12 => k_is)
    (case xa_13 => k_is); (case xl_13 => k_is); (case xs_13 => k_is); (case xk_13 => k_is); (case xg_13 => k_is); (case xh_13 => k_is); (case xc_13 => k_is); (case xi_13 => k_is)
    (case xf_13 => k_is); (case xj_13 => k_is); (case xd_13 => k_is); (case xe_13 => k_is); (case xo_13 => rfl); (case xv_13 => rfl); (case xw_13 => rfl); (case xn0_13 => k_is)
    (case xn1_13 => k_is); (case xn2_13 => k_is); (case xa_14 => k_is); (case xl_14 => k_is); (case xs_14 => k_is); (case xk_14 => k_is); (case xg_14 => k_is); (case xh_14 => k_is)
    (case xc_14 => k_is); (case xi_14 => k_is); (case xf_14 => k_is); (case xj_14 => k_is); (case xd_14 => k_is); (case xe_14 => k_is); (case xo_14 => rfl); (case xv_14 => rfl)
    (case xw_14 => rfl); (case xn0_14 => k_is); (case xa_15 => k_is); (case xl_15 => k_is); (case xs_15 => k_is); (case xk_15 => k_is); (case xg_15 => k_is); (case xh_15 => k_is)
    (case xc_15 => k_is); (case xi_15 => k_is); (case xa_16 => k_is); (case xl_16 => k_is); (case xs_16 => k_is); (case xk_16 => k_is); (case xg_16 => k_is); (case xh_16 => k_is)
    (case xc_16 => k_is); (case xi_16 => k_is); (case xf_16 => k_is); (case xj_16 => k_is); (case xd_16 => k_is); (case xe_16 => k_is); (case xo_16 => rfl); (case xv_16 => rfl)
    (case xw_16 => rfl); (case xn0_16 => k_is); (case xa_17 => k_is); (case xl_17 => k_is); (case xs_17 => k_is); (case xk_17 => k_is); (case xg_17 => k_is); (case xh_17 => k_is)
    (case xc_17 => k_is); (case xi_17 => k_is); (case xf_17 => k_is); (case xj_17 => k_is); (case xd_17 => k_is); (case xe_17 => k_is); (case xo_17 => rfl); (case xv_17 => rfl)
    (case xw_17 => rfl); (case xn0_17 => k_is); (case xn1_17 => k_is); (case xa_18 => k_is); (case xl_18 => k_is); (case xs_18 => k_is); (case xk_18 => k_is); (case xg_18 => k_is)
    (case xh_18 => k_is); (case xc_18 => k_is); (case xi_18 => k_is); (case xf_18 => k_is); (case xj_18 => k_is); (case xd_18 => k_is); (case xe_18 => k_is); (case xo_18 => rfl)
    (case xv_18 => rfl); (case xw_18 => rfl); (case xn0_18 => k_is); (case xa_19 => k_is); (case xl_19 => k_is); (case xs_19 => k_is); (case xk_19 => k_is); (case xg_19 => k_is)
    (case xh_19 => k_is); (case xc_19 => k_is); (case xi_19 => k_is); (case xa_20 => k_is); (case xl_20 => k_is); (case xs_20 => k_is); (case xk_20 => k_is); (case xg_20 => k_is)
    (case xh_20 => k_is); (case xc_20 => k_is); (case xi_20 => k_is); (case nd => decide); (case a0 => k_is); (case l0 => k_is); (case c0 => k_is); (case k0 => k_is)
    (case a1 => k_is); (case l1 => k_is); (case c1 => k_is); (case k1 => k_is); (case a2 => k_is); (case l2 => k_is); (case c2 => k_is); (case k2 => k_is)
    (case a3 => k_is); (case l3 => k_is); (case c3 => k_is); (case k3 => k_is); (case a4 => k_is); (case l4 => k_is); (case c4 => k_is); (case k4 => k_is)
    (case a5 => k_is); (case l5 => k_is); (case c5 => k_is); (case k5 => k_is); (case a6 => k_is); (case l6 => k_is); (case c6 => k_is); (case k6 => k_is)
    (case a7 => k_is); (case l7 => k_is); (case c7 => k_is); (case k7 => k_is); (case z_ValueError => k_is); (case z_abs => k_is); (case z_dict => k_is); (case z_enumerate => k_is)
    (case z_int => k_is); (case z_isinstance => k_is); (case z_len => k_is); (case z_list => k_is); (case z_range => k_is); (case z_repr => k_is)
