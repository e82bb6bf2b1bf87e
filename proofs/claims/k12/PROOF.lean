import PyProof.Rows.All
import Wide.All
import OpenK.AllK
import Wide.FinOn
import HandS.ForMost
import HandS.IsInst
import HandS.Flow
import HandS.Style
import HandS.TupLe
import HandS.TupAny
import HandS.Deep
import HandS.Conv
import HandS.Evl
import HandS.Walk
import PySem.Challenge.RW_landedback_k12_kinds_known
set_option Elab.async false
set_option linter.all false
set_option maxRecDepth 100000
set_option maxHeartbeats 4000000
/-! LbA: promises of defs that are called while no guarded call (repr) runs around them. -/
namespace Lb
open PySem PySem.Spec PyProof.Rows L2

/-- FnOk, where no guarded call stands on the stack -/
structure FnG (P : Program) (w : World) (K : PySem.W.Frag) (mg : Str → Option Value) (base : Heap) (CX : CXT) (k : Nat)
    (f : Addr) (fd : FuncData) (ps : List Str) (sp : Sp) : Prop where
  len : ∀ vs H Q E, sp vs H Q E → vs.length = ps.length
  run : ∀ (A : Around) (outer : List Env) (s : Shared) (H : Hp) (args : Args) (us : List Value) (vs : List V) (Q : VK) (E : XK),
    A.guards = some [] → Room k A → Env0 P w K mg base A outer s H → BindsTo s fd args (ps.zip us) → Vals vs us → sp vs H Q E →
      codeAny (model P w) A (.call (.ref f) args) (CR CX outer P w H s Q E) s

section
variable {P : Program} {w : World} {K : PySem.W.Frag} {mg : Str → Option Value} {base : Heap} {CX : CXT}
theorem fg_of_ok {k : Nat} {f : Addr} {fd : FuncData} {ps : List Str} {sp : Sp} (F : FnOk P w K mg base CX k f fd ps sp) :
    FnG P w K mg base CX k f fd ps sp :=
  ⟨F.len, fun A o s H args us vs Q E _ hr e0 hb hv hs => F.run A o s H args us vs Q E hr e0 hb hv hs⟩

/-- a def by its body, no guarded call around -/
theorem fg_of {k : Nat} {f : Addr} {name qual : Str} {params : Arguments} {body : List Stmt} {scope : Scope}
    {dV kV doc pm cdv ct oc : Value} {an od : Option Addr} {osl : Array (Option Value)} {N ps : List Str} {sp : Sp}
    (lk : K.lookup f = some ⟨oc, od, .func (PySem.W.fnOf name qual params body scope dV kV doc pm an cdv ct), osl⟩)
    (hcd : PySem.W.codeIn K cdv qual = true) (S : FnScope N ps scope) (len : ∀ vs H Q E, sp vs H Q E → vs.length = ps.length)
    (hbody : ∀ (A : Around) (outer : List Env) (s : Shared) (H : Hp) (vs : List V) (Q : VK) (E : XK), A.guards = some [] →
      Room k (A.deeper (envOfC qual scope s.heap.objs.size f cdv)) → sp vs H Q E →
      ∃ t, PSs (cxOf CX P w K mg base N qual scope f cdv A outer s H E) body t ∧
        t { nx := fun _ H' => Q .non H', rt := Q } (start N vs) H) :
    FnG P w K mg base CX (k + 1) f (PySem.W.fnOf name qual params body scope dV kV doc pm an cdv ct) ps sp := by
  refine ⟨len, fun A outer s H args us vs Q E hG hr e0 hb r hsp => ?_⟩
  have old : ∀ b o, base.get? b = some o → s.heap.get? b = some o := fun b o e => (e0.bs b o e).1
  have KX : K.In s.heap := e0.mod.kin.keeps old
  have lim : s.heap.NoLimit := e0.mod.nolimit.keeps old
  refine codeAny_call_function hr.depth (KX _ _ lk) rfl S.co S.gen rfl (PySem.W.codeRec_of KX hcd) (hb _ _ _ _ ?_)
  refine wpAny_newFunctionEnv_cells S.kind (fun y hy => ?_) fun env he s1 x => ?_
  · rcases S.par y.1 (List.of_mem_zip (a := y.1) (b := y.2) hy).1 with q | q
    · exact Or.inl q
    · exact Or.inr ⟨q, PySem.W.cellsFrom_some _ _ _ (Or.inl q)⟩
  · subst he
    refine ⟨lim.keeps x.toInCall.keep, codeAny_func ?_⟩
    obtain ⟨t, ht, hq⟩ := hbody A outer s H vs Q E hG (hr.deeper _) hsp
    have I := inv_start (CX := CX) (E := E) S hr.hd e0 (len _ _ _ _ hsp) r x
    refine wpAny_mono (ht.run [] s1 (start N vs) H _ I hq) (fun fl s' hs => ?_) fun e s' hs => hs
    cases fl with
    | ret u =>
      obtain ⟨v, σ', H', J, rv, q⟩ := hs
      exact ⟨v, H', J.os, J.bare, J.base, J.hok, rv, q⟩
    | next =>
      obtain ⟨σ', H', J, q⟩ := hs
      exact ⟨V.non, H', J.os, J.bare, J.base, J.hok, rfl, q⟩
    | brk =>
      obtain ⟨_, _, _, q⟩ := hs
      exact False.elim q
    | cont =>
      obtain ⟨_, _, _, q⟩ := hs
      exact False.elim q

/-- the rule for a def of the text; nothing is raised out of it -/
theorem okG {x qual : Str} {st : Stmt} {f : Addr} {fd : FuncData} {N ps : List Str} {k : Nat} {sp : Sp}
    (F : Fun K x qual st f fd) (S : FnScope N ps (defScope st)) (len : ∀ vs H Q E, sp vs H Q E → vs.length = ps.length)
    (hbody : ∀ (cdv : Value) (A : Around) (outer : List Env) (s : Shared) (H : Hp) (vs : List V) (Q : VK) (E : XK), A.guards = some [] →
      Room k (A.deeper (envOfC qual (defScope st) s.heap.objs.size f cdv)) → sp vs H Q E →
      ∃ t, PSs (cxOf CX0 P w K mg base N qual (defScope st) f cdv A outer s H E).nox (defBody st) t ∧
        t { nx := fun _ H' => Q .non H', rt := Q } (start N vs) H) :
    FnG P w K mg base CX0 (k + 1) f fd ps sp := by
  obtain ⟨oc, od, kV, doc, pm, an, cdv, ct, osl, rfl, lk, hcd⟩ := F.ex
  refine fg_of lk hcd S len fun A outer s H vs Q E hG hr hsp => ?_
  obtain ⟨t, h, q⟩ := hbody cdv A outer s H vs Q E hG hr hsp
  exact ⟨t, h.nox, q⟩
end

/-! ### calls of such defs -/
section
variable {X : Cx} {CX : CXT} {k : Nat} {f : Addr} {fd : FuncData} {ps : List Str} {sp : Sp} {dvs : List V} {ds : List Value} {E : XK}
  {x : Str} {p pos : Pos} {e : Expr} {es : List Expr} {t : TA}
theorem runG {pins : List (Addr × Obj)} {σ : L2.St} {H : Hp} {s : Shared} {Q : VK} {us : List Value} {vs : List V}
    (F : FnG X.prog X.w X.K X.mg X.base CX k f fd ps sp) (hG : X.A.guards = some []) (hr : Room k X.A) (hb : Binds X.K fd ps ds)
    (hd : Vals dvs ds) (hx : Passes CX X E) (I : Inv X pins σ H s) (r : Vals vs us) (h : sp (vs ++ dvs) H Q E) :
    wpAny (model X.prog X.w) X.A (call (.ref f) us) (EP X pins σ Q) X.xe s := by
  have r2 : Vals (vs ++ dvs) (us ++ ds) := r.append hd
  have hl : (us ++ ds).length = ps.length := r2.length.symm.trans (F.len _ _ _ _ h)
  refine wpAny_call (codeAny_mono (F.run X.A X.stack s H ⟨us, []⟩ _ _ Q E hG hr I.env0 (hb s us I.kIn hl) r2 h) fun res s' hq => ?_)
  cases res with
  | error er => exact hx pins σ H s er s' I hq
  | ok fl =>
    cases fl with
    | ret u => exact I.after hq
    | next => exact False.elim hq
    | brk => exact False.elim hq
    | cont => exact False.elim hq

theorem pe_callG (F : FnG X.prog X.w X.K X.mg X.base CX k f fd ps sp) (hG : X.A.guards = some []) (hr : Room k X.A) (hg : Gl X x)
    (hm : X.mg x = some (.ref f)) (hk : PySem.W.keepIn X.K (.ref f) = true) (hb : Binds X.K fd ps ds) (hd : Vals dvs ds) (hx : Passes CX X E)
    (ha : PA X (e :: es) t) (hdb : (x == ("__debug__" : Str)) = false := by decide)
    (he : starEach (e :: es) X.env = (false, eval e X.env) :: starEach es X.env := by rfl)
    (hpl : (backTo pos (starEach es X.env)).any (·.1) = false := by rfl) :
    PE X (.Call (.Name x p) (e :: es) [] pos) (tCall sp dvs E t) := by
  refine ⟨fun pins s σ H Q I h => wpAny_Call_Name_kw (ld_glob I hg hm ?_ hdb)⟩
  refine PySem.W.callWith_K (h₀ := X.base) I.ok.mod.kin hk (thn (ha.run pos pins s σ H _ I h) fun us s1 hh => ?_) he hpl
  obtain ⟨vs, H1, I1, r, q⟩ := hh
  exact ⟨I1.kIn, runG F hG hr hb hd hx I1 r q⟩
end

/-! ### the end: the law's def at the heap behind the top -/
section
variable {P : Program} {w : World} {K : PySem.W.Frag} {mg mb : Str → Option Value} {k : Nat} {fa a : Addr} {fd : FuncData} {x : Str} {sp : Sp}
  {s₁ : Shared} {vs : List Value} {ns : List Int}
/-- what is wanted of the law's call -/
def LawEnd (s₁ : Shared) (r : Result) (s' : Shared) : Prop :=
  r = .ok (.ret (.bool true)) ∧ OldK s₁.heap s'.heap ∧ s'.os = s₁.os ∧ AllBare s'.gens

/-- from an abstract heap that knows the script alone -/
theorem law_at {H : Hp} (KX : K.In s₁.heap) (hns : s₁.heap.Ns mainGlobals mg) (hb : s₁.heap.Ns builtinsNs mb)
    (hbb : ∀ x : Str, x ≠ "__name__" → mb x = bootBuiltins x) (hlim : s₁.heap.NoLimit) (hg : s₁.gens = #[])
    (ha : s₁.heap.get? a = some { cls := .type "list", data := .seq vs.toArray }) (hr : Room k callerA)
    (F : ∀ base : Heap, K.In base → base.Ns mainGlobals mg → FnG P w K mg base CX0 k fa fd [x] sp)
    (hbind : ∀ (s : Shared) (u : Value), BindsTo s fd ⟨[u], []⟩ [(x, u)]) (hO : Only H) (hok : HOk P w H s₁.heap)
    (hA : ∀ b, H b ≠ none → b = a) (hK : H a ≠ none → K.lookup a = none) (hs : sp [.ref a] H (fun v _ => v = .bl true) fun _ _ _ => False) :
    codeAny (model P w) callerA (.call (.ref fa) ⟨[.ref a], []⟩) (LawEnd s₁) s₁ := by
  -- a dict is not the script
  have free : ∀ {b : Addr} {o : Obj} {es : Array DictEntry} {ep : Nat}, s₁.heap.get? b = some o → o.data = .dict es ep → H b = none := by
    intro b o es ep e d
    cases q : H b with
    | none => rfl
    | some u =>
      have e' : b = a := hA b (by rw [q]; simp)
      subst e'
      rw [ha] at e
      cases e
      exact nomatch (show Data.seq vs.toArray _ = Data.dict es ep from d)
  have nsK : ∀ {b : Addr} {m : Str → Option Value}, s₁.heap.Ns b m → (hidT s₁.heap H).Ns b m := by
    rintro b m ⟨o, es, ep, e, d, r⟩
    exact ⟨o, es, ep, hidT_get e (free e d), d, r⟩
  have hKb : K.In (hidT s₁.heap H) := by
    intro b o e
    refine hidT_get (KX b o e) ?_
    cases q : H b with
    | none => rfl
    | some u =>
      have e' : b = a := hA b (by rw [q]; simp)
      subst e'
      rw [hK (by rw [q]; simp)] at e
      cases e
  have lim : (hidT s₁.heap H).NoLimit := by
    obtain ⟨mc, h1, h2⟩ := hlim
    exact ⟨mc, nsK h1, h2⟩
  have e0 : Env0 P w K mg (hidT s₁.heap H) callerA [] s₁ H :=
    { frames := rfl, mod := ⟨hKb, nsK hns, ⟨mb, nsK hb, hbb⟩, lim⟩, bs := fun b o e => of_hidT e, bsz := Nat.le_of_eq (hidT_size _ _),
      funs := trivial, frf := fun b z => absurd (show b ∈ ([] : List Addr) from z) (by simp), hok := hok, bare := AllBare.of_eq hg }
  refine codeAny_mono ((F _ hKb (nsK hns)).run callerA [] s₁ H ⟨[.ref a], []⟩ [.ref a] [.ref a] _ _ rfl hr e0 (hbind s₁ (.ref a)) (.cons rfl .nil) hs) fun r s' h => ?_
  cases r with
  | error e => exact (show False from h).elim
  | ok fl =>
    cases fl with
    | next => exact (show False from h).elim
    | brk => exact (show False from h).elim
    | cont => exact (show False from h).elim
    | ret u =>
      obtain ⟨v, H', os, bare, un, hok', r', q⟩ := h
      obtain rfl : v = .bl true := q
      obtain rfl : u = Value.bool true := r'
      refine ⟨rfl, OldK.of_keep fun b o e => ?_, os, bare⟩
      cases q : H b with
      | none => exact un.keep b o e q (fun z => absurd (show b ∈ ([] : List Addr) from z) (by simp)) (by simp)
      | some u =>
        rcases hO b with z | ⟨ob, xs, z⟩
        · rw [q] at z
          cases z
        · have e1 := (hok b _ z).1
          have e2 := (hok' b _ (un.frzs b ob _ z)).1
          rw [e] at e1
          cases e1
          exact e2

theorem law_callG (KX : K.In s₁.heap) (hns : s₁.heap.Ns mainGlobals mg) (hb : s₁.heap.Ns builtinsNs mb)
    (hbb : ∀ x : Str, x ≠ "__name__" → mb x = bootBuiltins x) (hlim : s₁.heap.NoLimit) (hg : s₁.gens = #[])
    (ha : s₁.heap.get? a = some { cls := .type "list", data := .seq vs.toArray }) (hi : IntsAre vs ns) (hl : ns.length ≤ sizeLine) (hr : Room k callerA)
    (F : ∀ base : Heap, K.In base → base.Ns mainGlobals mg → FnG P w K mg base CX0 k fa fd [x] sp)
    (hbind : ∀ (s : Shared) (u : Value), BindsTo s fd ⟨[u], []⟩ [(x, u)])
    (hsp : ∀ H : Hp, Only H → SqL K H a (ns.map V.int) → sp [.ref a] H (fun v _ => v = .bl true) fun _ _ _ => False) :
    codeAny (model P w) callerA (.call (.ref fa) ⟨[.ref a], []⟩) (LawEnd s₁) s₁ := by
  have rv := vals_ints hi
  cases hk : K.lookup a with
  | some o =>
    have e := KX a o hk
    rw [ha] at e
    cases e
    have hO : Only (fun _ => none) := fun _ => Or.inl rfl
    refine law_at (H := fun _ => none) KX hns hb hbb hlim hg ha hr F hbind hO (fun b u z => nomatch (show (none : Option HO) = some u from z))
      (fun b z => absurd rfl z) (fun z => absurd rfl z) (hsp _ hO (Or.inr ⟨_, vs.toArray, _, hk, rfl, rfl, rfl, ?_, by simpa using rv⟩))
    rw [List.size_toArray, hi.length]
    exact hl
  | none =>
    have hO : Only (fun b => if b = a then some (.frz { cls := .type "list", data := .seq vs.toArray } (.lst (ns.map V.int))) else none) := by
      intro b
      by_cases hb : b = a
      · exact Or.inr ⟨_, _, if_pos hb⟩
      · exact Or.inl (if_neg hb)
    refine law_at (H := fun b => if b = a then some (.frz { cls := .type "list", data := .seq vs.toArray } (.lst (ns.map V.int))) else none)
      KX hns hb hbb hlim hg ha hr F hbind hO (fun b u z => ?_) (fun b z => ?_) (fun _ => hk) (hsp _ hO (Or.inl (Or.inr ⟨_, if_pos rfl⟩)))
    · by_cases hb : b = a
      · have z' := (if_pos hb).symm.trans z
        cases z'
        subst hb
        exact ⟨ha, by rw [List.length_map]; exact hl, vs, _, rv, ha⟩
      · have z' := (if_neg hb).symm.trans z
        cases z'
    · by_cases hb : b = a
      · exact hb
      · exact absurd (if_neg hb) z
end

/-- the goal that k_head leaves, from the law's promise under no guarded call -/
theorem walk_ofG {l : PySem.W.OpenLaw} {n k : Nat} {q : Program} {loose : List Str} {XP : (Str → Option Value) → Heap → Prop} {YP : World → Heap → Prop}
    {d : DefRec} {K : Params → PySem.W.Frag} {sp : World → Sp} {x : Str}
    (hn : l.most = some n) (hn2 : n ≤ sizeLine) (hdf : d.params.defaults = []) (hr : Room k callerA) (hY : ∀ (w : World) (h : Heap), YP w h → (K w.params).In h)
    (F : ∀ (w : World) (mg : Str → Option Value) (fa : Addr) (h : Heap), (K w.params).In h → h.Ns mainGlobals mg → mg d.name = some (.ref fa) →
      ∃ fd : FuncData, (∀ (s : Shared) (u : Value), BindsTo s fd ⟨[u], []⟩ [(x, u)]) ∧
        ∀ base : Heap, (K w.params).In base → base.Ns mainGlobals mg → FnG l.prog w (K w.params) mg base CX0 k fa fd [x] (sp w))
    (hsp : ∀ (w : World) (H : Hp) (a : Addr) (ns : List Int), ns.length ≤ n → Only H → SqL (K w.params) H a (ns.map V.int) →
      sp w [.ref a] H (fun v _ => v = .bl true) fun _ _ _ => False) :
    PySem.W.WalkO q loose XP YP l.row.toRowW d [] (fun f vs => PySem.call f vs) := by
  refine Att.attach_call hn hdf fun w s₀ s₁ mg mb fa o pm cd doc a vs ns G Y ho hd hcd hmg hobj hints hlen hg => ?_
  obtain ⟨fd, hb, hF⟩ := F w mg fa _ (hY w _ Y) G.T.g hmg
  exact law_callG (hY w _ Y) G.T.g G.T.b G.T.builtins G.T.nolimit hg hobj hints (Nat.le_trans hlen hn2) hr hF hb fun H hO hS => hsp w H a ns hlen hO hS
end Lb

/-! LbB: a logic of data over the layer: no addresses, no heap; what changes (a bag) stands apart. -/
namespace Lb
open PySem PySem.Spec PyProof.Rows L2
open Evl (Ex)

/-- data; raw: a value as it is (a class, a def, the bag) -/
inductive D where
  | non | bl (b : Bool) | int (i : Int) | str (x : Str) | lst (ds : List D) | tup (ds : List D) | dct (kvs : List (D × D)) | raw (v : V)

/-- what H knew away from B is so in H' -/
def Xt (B : Addr → Prop) (H H' : Hp) : Prop := ∀ a o, ¬ B a → H a = some o → H' a = some o
theorem Xt.refl (B : Addr → Prop) (H : Hp) : Xt B H H := fun _ _ _ h => h
theorem Xt.trans {B : Addr → Prop} {H H1 H2 : Hp} (a : Xt B H H1) (b : Xt B H1 H2) : Xt B H H2 := fun x o n h => b x o n (a x o n h)
theorem Xt.of {B : Addr → Prop} {H H' : Hp} (e : Ex H H') : Xt B H H' := fun a o _ h => e a o h

/-- a list away from B, or one of the written part -/
def LB (K : PySem.W.Frag) (B : Addr → Prop) (H : Hp) (a : Addr) (xs : List V) : Prop := (¬ B a ∧ Rd H a (.lst xs)) ∨ SqL K (fun _ => none) a xs
def TB (K : PySem.W.Frag) (B : Addr → Prop) (H : Hp) (a : Addr) (xs : List V) : Prop := (¬ B a ∧ Rd H a (.tup xs)) ∨ SqT K (fun _ => none) a xs
section
variable {K : PySem.W.Frag} {B B' : Addr → Prop} {H H' : Hp} {a : Addr} {xs : List V}
theorem LB.sq (h : LB K B H a xs) : SqL K H a xs := by
  rcases h with ⟨_, h⟩ | h
  · exact Or.inl h
  · exact Evl.ex_l (fun _ _ z => by cases z) h
theorem TB.sq (h : TB K B H a xs) : SqT K H a xs := by
  rcases h with ⟨_, h⟩ | h
  · exact Or.inl h
  · exact Evl.ex_t (fun _ _ z => by cases z) h
theorem rd_xt {u : HO} (e : Xt B H H') (n : ¬ B a) (h : Rd H a u) : Rd H' a u := by
  rcases h with h | ⟨o, h⟩
  · exact Or.inl (e a _ n h)
  · exact Or.inr ⟨o, e a _ n h⟩
theorem LB.mono (e : Xt B H H') (h : LB K B H a xs) : LB K B H' a xs := by
  rcases h with ⟨n, h⟩ | h
  · exact Or.inl ⟨n, rd_xt e n h⟩
  · exact Or.inr h
theorem TB.mono (e : Xt B H H') (h : TB K B H a xs) : TB K B H' a xs := by
  rcases h with ⟨n, h⟩ | h
  · exact Or.inl ⟨n, rd_xt e n h⟩
  · exact Or.inr h
theorem rd_some {u : HO} (h : Rd H a u) : H a ≠ none := by
  rcases h with h | ⟨o, h⟩ <;> rw [h] <;> simp
/-- more is set apart, of what H does not know -/
def Wk (B B' : Addr → Prop) (H : Hp) : Prop := ∀ a, B' a → B a ∨ H a = none
theorem LB.weak (w : Wk B B' H) (h : LB K B H a xs) : LB K B' H a xs := by
  rcases h with ⟨n, h⟩ | h
  · refine Or.inl ⟨fun z => ?_, h⟩
    rcases w a z with z | z
    · exact n z
    · exact rd_some h z
  · exact Or.inr h
theorem TB.weak (w : Wk B B' H) (h : TB K B H a xs) : TB K B' H a xs := by
  rcases h with ⟨n, h⟩ | h
  · refine Or.inl ⟨fun z => ?_, h⟩
    rcases w a z with z | z
    · exact n z
    · exact rd_some h z
  · exact Or.inr h
end

mutual
inductive DV (K : PySem.W.Frag) (B : Addr → Prop) (H : Hp) : V → D → Prop
  | non : DV K B H .non .non
  | bl (b : Bool) : DV K B H (.bl b) (.bl b)
  | int (i : Int) : DV K B H (.int i) (.int i)
  | str (x : Str) : DV K B H (.str x) (.str x)
  | lst {a : Addr} {xs : List V} {ds : List D} : LB K B H a xs → DVs K B H xs ds → DV K B H (.ref a) (.lst ds)
  | tup {a : Addr} {xs : List V} {ds : List D} : TB K B H a xs → DVs K B H xs ds → DV K B H (.ref a) (.tup ds)
  | dct {a : Addr} {kvs : List (Key × V)} {ds : List (D × D)} : ¬ B a → H a = some (.dK kvs) → DVs K B H (kvs.map fun p => kV p.1) (ds.map (·.1)) →
      DVs K B H (kvs.map (·.2)) (ds.map (·.2)) → DV K B H (.ref a) (.dct ds)
  | raw (v : V) : DV K B H v (.raw v)
inductive DVs (K : PySem.W.Frag) (B : Addr → Prop) (H : Hp) : List V → List D → Prop
  | nil : DVs K B H [] []
  | cons {v : V} {vs : List V} {d : D} {ds : List D} : DV K B H v d → DVs K B H vs ds → DVs K B H (v :: vs) (d :: ds)
end
section
variable {K : PySem.W.Frag} {B B' : Addr → Prop} {H H' : Hp}
mutual
theorem DV.mono (e : Xt B H H') : ∀ {v : V} {d : D}, DV K B H v d → DV K B H' v d
  | _, _, .non => .non
  | _, _, .bl b => .bl b
  | _, _, .int i => .int i
  | _, _, .str x => .str x
  | _, _, .lst h hs => .lst (h.mono e) (DVs.mono e hs)
  | _, _, .tup h hs => .tup (h.mono e) (DVs.mono e hs)
  | _, _, .dct n h h1 h2 => .dct n (e _ _ n h) (DVs.mono e h1) (DVs.mono e h2)
  | _, _, .raw v => .raw v
theorem DVs.mono (e : Xt B H H') : ∀ {vs : List V} {ds : List D}, DVs K B H vs ds → DVs K B H' vs ds
  | _, _, .nil => .nil
  | _, _, .cons h hs => .cons (DV.mono e h) (DVs.mono e hs)
end
mutual
theorem DV.weak (w : Wk B B' H) : ∀ {v : V} {d : D}, DV K B H v d → DV K B' H v d
  | _, _, .non => .non
  | _, _, .bl b => .bl b
  | _, _, .int i => .int i
  | _, _, .str x => .str x
  | _, _, .lst h hs => .lst (h.weak w) (DVs.weak w hs)
  | _, _, .tup h hs => .tup (h.weak w) (DVs.weak w hs)
  | _, _, .dct n h h1 h2 => .dct (fun z => (w _ z).elim n fun q => by rw [h] at q; cases q) h (DVs.weak w h1) (DVs.weak w h2)
  | _, _, .raw v => .raw v
theorem DVs.weak (w : Wk B B' H) : ∀ {vs : List V} {ds : List D}, DVs K B H vs ds → DVs K B' H vs ds
  | _, _, .nil => .nil
  | _, _, .cons h hs => .cons (DV.weak w h) (DVs.weak w hs)
end
/-- less is set apart -/
theorem wk_of (h : ∀ a, B' a → B a) : Wk B B' H := fun a z => Or.inl (h a z)
theorem DVs.len : ∀ {vs : List V} {ds : List D}, DVs K B H vs ds → vs.length = ds.length
  | _, _, .nil => rfl
  | _, _, .cons _ hs => by rw [List.length_cons, List.length_cons, hs.len]
theorem DVs.get : ∀ {vs : List V} {ds : List D} {i : Nat} {d : D}, DVs K B H vs ds → ds[i]? = some d → ∃ v, vs[i]? = some v ∧ DV K B H v d
  | _, _, _, _, .nil, e => by simp at e
  | _, _, 0, _, .cons h _, e => by
    simp at e
    subst e
    exact ⟨_, rfl, h⟩
  | _, _, i + 1, d, .cons _ hs, e => by
    obtain ⟨v, h1, h2⟩ := hs.get (i := i) (d := d) (by simpa using e)
    exact ⟨v, by simpa using h1, h2⟩
theorem DVs.append : ∀ {vs us : List V} {ds es : List D}, DVs K B H vs ds → DVs K B H us es → DVs K B H (vs ++ us) (ds ++ es)
  | _, _, _, _, .nil, h => h
  | _, _, _, _, .cons h hs, g => .cons h (hs.append g)
theorem DVs.take : ∀ {vs : List V} {ds : List D} (n : Nat), DVs K B H vs ds → DVs K B H (vs.take n) (ds.take n)
  | _, _, 0, _ => by simpa using DVs.nil
  | _, _, n + 1, .nil => .nil
  | _, _, n + 1, .cons h hs => .cons h (hs.take n)
theorem DVs.drop : ∀ {vs : List V} {ds : List D} (n : Nat), DVs K B H vs ds → DVs K B H (vs.drop n) (ds.drop n)
  | _, _, 0, h => h
  | _, _, n + 1, .nil => .nil
  | _, _, n + 1, .cons h hs => hs.drop n
theorem DVs.rev {vs : List V} {ds : List D} (h : DVs K B H vs ds) : DVs K B H vs.reverse ds.reverse := by
  induction vs generalizing ds with
  | nil => cases h; exact .nil
  | cons v vs ih =>
    cases h with
    | cons h hs =>
      rw [List.reverse_cons, List.reverse_cons]
      exact (ih hs).append (.cons h .nil)
end

/-! ### worlds -/
/-- B: what may change; R: how heaps go on; I: what holds of what may change -/
structure Wd where
  K : PySem.W.Frag
  B : Addr → Prop
  R : Hp → Hp → Prop
  I : Hp → Prop
  rfl' : ∀ H, R H H
  trans' : ∀ {H H1 H2}, R H H1 → R H1 H2 → R H H2
  ofEx : ∀ {H H1}, Ex H H1 → R H H1
  keep : ∀ {H H1}, R H H1 → Xt B H H1
  chg : ∀ {H H1 p o}, R H H1 → H p = none → R H (upd H1 p o)
  inv : ∀ {H H1}, Ex H H1 → I H → I H1
  fresh : ∀ {H p}, I H → H p = none → ¬ B p
  imut : ∀ {H H1 p o}, I H → R H H1 → I H1 → H p = none → I (upd H1 p o)
/-- a new address -/
def Wd.Fr (W : Wd) (p : Addr) : Prop := ∃ H, W.I H ∧ H p = none
theorem Ex.none {H H1 : Hp} {p : Addr} (e : Ex H H1) (h : H1 p = none) : H p = none := Evl.fresh_back e h
theorem upd_none' {H : Hp} {p q : Addr} {o : HO} (h : upd H p o q = none) : q ≠ p ∧ H q = none := by
  by_cases e : q = p
  · subst e
    rw [upd_same] at h
    cases h
  · rw [upd_ne e] at h
    exact ⟨e, h⟩
/-- pure code -/
def Wp (K : PySem.W.Frag) (B : Addr → Prop) : Wd where
  K := K
  B := B
  R := Ex
  I := fun H => ∀ p, H p = none → ¬ B p
  rfl' := Evl.Ex.refl
  trans' := Evl.Ex.trans
  ofEx := fun h => h
  keep := fun h => Xt.of h
  chg := fun e n => Evl.Ex.mut e n
  inv := fun e i p h => i p (Ex.none e h)
  fresh := fun i h => i _ h
  imut := fun _ _ i1 _ q h => i1 q (upd_none' h).2
/-- one more address apart (the list that a comprehension fills) -/
def Wd.plus (W : Wd) (L : Addr) : Wd where
  K := W.K
  B := fun a => W.B a ∨ a = L
  R := W.R
  I := fun H => W.I H ∧ H L ≠ none
  rfl' := W.rfl'
  trans' := W.trans'
  ofEx := W.ofEx
  keep := fun r a o n h => W.keep r a o (fun z => n (Or.inl z)) h
  chg := W.chg
  inv := fun e i => ⟨W.inv e i.1, fun z => i.2 (Ex.none e z)⟩
  fresh := fun i h z => z.elim (W.fresh i.1 h) fun e => by subst e; exact i.2 h
  imut := fun i r i1 n => ⟨W.imut i.1 r i1.1 n, fun z => i1.2 (upd_none' z).2⟩

/-! ### what the slots hold -/
structure Slots (W : Wd) (σ : L2.St) (H : Hp) (ρ : List (Option D)) : Prop where
  len : σ.length = ρ.length
  get : ∀ (i : Nat) (d : D), ρ[i]? = some (some d) → ∃ v, σ[i]? = some (some v) ∧ DV W.K W.B H v d
section
variable {W : Wd} {σ : L2.St} {H H' : Hp} {ρ : List (Option D)}
theorem Slots.mono (r : W.R H H') (e : Slots W σ H ρ) : Slots W σ H' ρ := ⟨e.len, fun i d h => by
  obtain ⟨v, h1, h2⟩ := e.get i d h
  exact ⟨v, h1, h2.mono (W.keep r)⟩⟩
theorem Slots.set {i : Nat} {v : V} {d : D} (e : Slots W σ H ρ) (h : DV W.K W.B H v d) : Slots W (σ.set i (some v)) H (ρ.set i (some d)) := by
  refine ⟨by rw [List.length_set, List.length_set, e.len], fun j c hj => ?_⟩
  by_cases hij : i = j
  · subst hij
    by_cases hl : i < ρ.length
    · rw [List.getElem?_set_self hl] at hj
      cases hj
      exact ⟨v, List.getElem?_set_self (by rw [e.len]; exact hl), h⟩
    · rw [List.getElem?_eq_none (by rw [List.length_set]; omega)] at hj
      cases hj
  · rw [List.getElem?_set_ne hij] at hj
    rw [List.getElem?_set_ne hij]
    exact e.get j c hj
theorem Slots.out {i : Nat} (e : Slots W σ H ρ) : Slots W (σ.set i none) H (ρ.set i none) := by
  refine ⟨by rw [List.length_set, List.length_set, e.len], fun j c hj => ?_⟩
  by_cases hij : i = j
  · subst hij
    by_cases hl : i < ρ.length
    · rw [List.getElem?_set_self hl] at hj
      cases hj
    · rw [List.getElem?_eq_none (by rw [List.length_set]; omega)] at hj
      cases hj
  · rw [List.getElem?_set_ne hij] at hj
    rw [List.getElem?_set_ne hij]
    exact e.get j c hj
theorem Slots.weak {W' : Wd} (hK : W'.K = W.K) (w : Wk W.B W'.B H) (e : Slots W σ H ρ) : Slots W' σ H ρ := ⟨e.len, fun i d h => by
  obtain ⟨v, h1, h2⟩ := e.get i d h
  exact ⟨v, h1, by rw [hK]; exact h2.weak w⟩⟩
def wipeD (ρ : List (Option D)) : List Nat → List (Option D)
  | [] => ρ
  | v :: vs => (wipeD ρ vs).set v none
theorem Slots.wipe (e : Slots W σ H ρ) : ∀ vs : List Nat, Slots W (wipe σ vs) H (wipeD ρ vs)
  | [] => e
  | v :: vs => (Slots.wipe e vs).out
end

/-! ### judgements: wp over data -/
abbrev RhoP := List (Option D) → Prop
def Ev (W : Wd) (te : TE) (ρ : List (Option D)) (S : D → Prop) : Prop :=
  ∀ σ H, Slots W σ H ρ → W.I H → ∀ Q : VK, (∀ v H' d, W.R H H' → W.I H' → S d → DV W.K W.B H' v d → Q v H') → te σ H Q
def Ts (W : Wd) (tt : TT) (ρ : List (Option D)) (S : Bool → Prop) : Prop :=
  ∀ σ H, Slots W σ H ρ → W.I H → ∀ Q : Bool → Hp → Prop, (∀ b H', W.R H H' → W.I H' → S b → Q b H') → tt σ H Q
def Ea (W : Wd) (ta : TA) (ρ : List (Option D)) (S : List D → Prop) : Prop :=
  ∀ σ H, Slots W σ H ρ → W.I H → ∀ Q : List V → Hp → Prop, (∀ vs H' ds, W.R H H' → W.I H' → S ds → DVs W.K W.B H' vs ds → Q vs H') → ta σ H Q
def Eo (W : Wd) (to : TO) (ρ : List (Option D)) (S : Option Int → Prop) : Prop :=
  ∀ σ H, Slots W σ H ρ → W.I H → ∀ Q : Option Int → Hp → Prop, (∀ o H', W.R H H' → W.I H' → S o → Q o H') → to σ H Q
/-- what a relation of values gives on data: two places, one, a list -/
def Rb (W : Wd) (r : R2) (d e : D) (S : D → Prop) : Prop :=
  ∀ H x y, W.I H → DV W.K W.B H x d → DV W.K W.B H y e → ∀ Q : VK, (∀ z H' c, W.R H H' → W.I H' → S c → DV W.K W.B H' z c → Q z H') → r x y H Q
def Ru (W : Wd) (r : V → Hp → VK → Prop) (d : D) (S : D → Prop) : Prop :=
  ∀ H x, W.I H → DV W.K W.B H x d → ∀ Q : VK, (∀ z H' c, W.R H H' → W.I H' → S c → DV W.K W.B H' z c → Q z H') → r x H Q
def Rc (W : Wd) (r : List V → Hp → VK → Prop) (ds : List D) (S : D → Prop) : Prop :=
  ∀ H xs, W.I H → DVs W.K W.B H xs ds → ∀ Q : VK, (∀ z H' c, W.R H H' → W.I H' → S c → DV W.K W.B H' z c → Q z H') → r xs H Q
def Rs (W : Wd) (r : V → Option Int → Option Int → Hp → VK → Prop) (d : D) (lo hi : Option Int) (S : D → Prop) : Prop :=
  ∀ H x, W.I H → DV W.K W.B H x d → ∀ Q : VK, (∀ z H' c, W.R H H' → W.I H' → S c → DV W.K W.B H' z c → Q z H') → r x lo hi H Q
/-- statements: N of the slots behind, T of what is returned -/
structure Wants where
  N : RhoP
  T : D → Prop
def Sm (W : Wd) (ts : TS) (ρ : List (Option D)) (Z : Wants) : Prop :=
  ∀ σ H, Slots W σ H ρ → W.I H → ∀ E : Ends, (∀ σ' H' ρ', Slots W σ' H' ρ' → W.R H H' → W.I H' → Z.N ρ' → E.nx σ' H') →
    (∀ v H' d, W.R H H' → W.I H' → Z.T d → DV W.K W.B H' v d → E.rt v H') → ts E σ H
section
variable {W : Wd} {ρ : List (Option D)} {S : D → Prop} {ta tb tc te : TE} {t u : TT} {Z : Wants}

theorem ev_imp {S' : D → Prop} (h : Ev W te ρ S) (i : ∀ d, S d → S' d) : Ev W te ρ S' :=
  fun σ H e hi Q q => h σ H e hi Q fun v H' d r i' s => q v H' d r i' (i d s)
theorem ts_imp {S S' : Bool → Prop} (h : Ts W t ρ S) (i : ∀ d, S d → S' d) : Ts W t ρ S' :=
  fun σ H e hi Q q => h σ H e hi Q fun v H' r i' s => q v H' r i' (i v s)

theorem ev_var {i : Nat} {d : D} (h : ρ[i]? = some (some d)) (s : S d) : Ev W (tVar i) ρ S := fun σ H e hi Q q => by
  obtain ⟨v, h1, h2⟩ := e.get i d h
  exact ⟨v, h1, q v H d (W.rfl' H) hi s h2⟩
theorem ev_int {i : Int} (s : S (.int i)) : Ev W (tC (.int i)) ρ S := fun σ H e hi Q q => q _ H _ (W.rfl' H) hi s (.int i)
theorem ev_bl {b : Bool} (s : S (.bl b)) : Ev W (tC (.bl b)) ρ S := fun σ H e hi Q q => q _ H _ (W.rfl' H) hi s (.bl b)
theorem ev_str {x : Str} (s : S (.str x)) : Ev W (tC (.str x)) ρ S := fun σ H e hi Q q => q _ H _ (W.rfl' H) hi s (.str x)
theorem ev_non (s : S .non) : Ev W (tC .non) ρ S := fun σ H e hi Q q => q _ H _ (W.rfl' H) hi s .non
theorem ev_raw {v : V} (s : S (.raw v)) : Ev W (tC v) ρ S := fun σ H e hi Q q => q _ H _ (W.rfl' H) hi s (.raw v)

theorem ev_op {r : R2} (h : Ev W ta ρ fun d => Ev W tb ρ fun e => Rb W r d e S) : Ev W (tOp r ta tb) ρ S := fun σ H e hi Q q =>
  h σ H e hi _ fun x H1 d r1 i1 hb dx => hb σ H1 (e.mono r1) i1 _ fun y H2 c r2 i2 hr dy =>
    hr H2 x y i2 (dx.mono (W.keep r2)) dy Q fun z H3 a r3 i3 s dz => q z H3 a (W.trans' (W.trans' r1 r2) r3) i3 s dz
theorem ev_un {r : V → Hp → VK → Prop} (h : Ev W ta ρ fun d => Ru W r d S) : Ev W (tUn r ta) ρ S := fun σ H e hi Q q =>
  h σ H e hi _ fun x H1 d r1 i1 hr dx => hr H1 x i1 dx Q fun z H3 a r3 i3 s dz => q z H3 a (W.trans' r1 r3) i3 s dz
theorem ev_and (h : Ev W ta ρ fun d => ∃ b, d = .bl b ∧ if b = true then Ev W tb ρ S else S (.bl false)) : Ev W (tAndV ta tb) ρ S := fun σ H e hi Q q =>
  h σ H e hi _ fun x H1 d r1 i1 hb dx => by
    obtain ⟨b, rfl, hb⟩ := hb
    cases dx
    refine ⟨b, rfl, ?_⟩
    cases b with
    | true => exact hb σ H1 (e.mono r1) i1 Q fun z H3 a r3 i3 s dz => q z H3 a (W.trans' r1 r3) i3 s dz
    | false => exact q _ H1 _ r1 i1 hb (.bl false)
theorem ev_or (h : Ev W ta ρ fun d => ∃ b, d = .bl b ∧ if b = true then S (.bl true) else Ev W tb ρ S) : Ev W (tOrV ta tb) ρ S := fun σ H e hi Q q =>
  h σ H e hi _ fun x H1 d r1 i1 hb dx => by
    obtain ⟨b, rfl, hb⟩ := hb
    cases dx
    refine ⟨b, rfl, ?_⟩
    cases b with
    | false => exact hb σ H1 (e.mono r1) i1 Q fun z H3 a r3 i3 s dz => q z H3 a (W.trans' r1 r3) i3 s dz
    | true => exact q _ H1 _ r1 i1 hb (.bl true)
theorem ev_not (h : Ev W ta ρ fun d => ∃ b, d = .bl b ∧ S (.bl (!b))) : Ev W (tNotV ta) ρ S := fun σ H e hi Q q =>
  h σ H e hi _ fun x H1 d r1 i1 hb dx => by
    obtain ⟨b, rfl, hb⟩ := hb
    cases dx
    exact ⟨b, rfl, q _ H1 _ r1 i1 hb (.bl _)⟩
theorem ev_if (h : Ts W t ρ fun b => if b = true then Ev W ta ρ S else Ev W tb ρ S) : Ev W (tIf t ta tb) ρ S := fun σ H e hi Q q =>
  h σ H e hi _ fun b H1 r1 i1 hb => by
    cases b with
    | true => exact hb σ H1 (e.mono r1) i1 Q fun z H3 a r3 i3 s dz => q z H3 a (W.trans' r1 r3) i3 s dz
    | false => exact hb σ H1 (e.mono r1) i1 Q fun z H3 a r3 i3 s dz => q z H3 a (W.trans' r1 r3) i3 s dz
theorem ev_chain {r r' : R2} (h : Ev W ta ρ fun d => Ev W tb ρ fun e => Rb W r d e fun z => ∃ k, z = .bl k ∧ if k = true then Ev W tc ρ fun c => Rb W r' e c S else S (.bl false)) :
    Ev W (tChain r r' ta tb tc) ρ S := fun σ H e hi Q q =>
  h σ H e hi _ fun x H1 d r1 i1 hb dx => hb σ H1 (e.mono r1) i1 _ fun y H2 c r2 i2 hr dy =>
    hr H2 x y i2 (dx.mono (W.keep r2)) dy _ fun z H3 a r3 i3 s dz => by
      obtain ⟨k, rfl, s⟩ := s
      cases dz
      refine ⟨k, rfl, ?_⟩
      cases k with
      | true =>
        refine s σ H3 (e.mono (W.trans' (W.trans' r1 r2) r3)) i3 _ fun w' H4 a4 r4 i4 s4 d4 => ?_
        refine s4 H4 y w' i4 (dy.mono (W.keep (W.trans' r3 r4))) d4 Q fun z5 H5 a5 r5 i5 s5 d5 => ?_
        exact q z5 H5 a5 (W.trans' (W.trans' (W.trans' (W.trans' r1 r2) r3) r4) r5) i5 s5 d5
      | false => exact q _ H3 _ (W.trans' (W.trans' r1 r2) r3) i3 s (.bl false)

/-! tests -/
theorem ts_B {S : Bool → Prop} (h : Ev W te ρ fun d => ∃ b, d = .bl b ∧ S b) : Ts W (tB te) ρ S := fun σ H e hi Q q =>
  h σ H e hi _ fun x H1 d r1 i1 hb dx => by
    obtain ⟨b, rfl, hb⟩ := hb
    cases dx
    exact ⟨b, rfl, q b H1 r1 i1 hb⟩
theorem ts_test {S : Bool → Prop} (h : Ev W te ρ fun d => ∃ b, d = .bl b ∧ S b) : Ts W (tTest te) ρ S := fun σ H e hi Q q =>
  h σ H e hi _ fun x H1 d r1 i1 hb dx => by
    obtain ⟨b, rfl, hb⟩ := hb
    cases dx
    exact ⟨b, rfl, q b H1 r1 i1 hb⟩
theorem ts_not {S : Bool → Prop} (h : Ts W t ρ fun b => S (!b)) : Ts W (tNot t) ρ S := fun σ H e hi Q q =>
  h σ H e hi _ fun b H1 r1 i1 hb => q _ H1 r1 i1 hb
theorem ts_and {S : Bool → Prop} (h : Ts W t ρ fun b => if b = true then Ts W u ρ S else S false) : Ts W (tAnd t u) ρ S := fun σ H e hi Q q =>
  h σ H e hi _ fun b H1 r1 i1 hb => by
    cases b with
    | true => exact hb σ H1 (e.mono r1) i1 _ fun c H2 r2 i2 s => q c H2 (W.trans' r1 r2) i2 s
    | false => exact q false H1 r1 i1 hb
theorem ts_or {S : Bool → Prop} (h : Ts W t ρ fun b => if b = true then S true else Ts W u ρ S) : Ts W (tOr t u) ρ S := fun σ H e hi Q q =>
  h σ H e hi _ fun b H1 r1 i1 hb => by
    cases b with
    | false => exact hb σ H1 (e.mono r1) i1 _ fun c H2 r2 i2 s => q c H2 (W.trans' r1 r2) i2 s
    | true => exact q true H1 r1 i1 hb
theorem ts_yes {S : Bool → Prop} (h : S true) : Ts W tYes ρ S := fun σ H e hi Q q => q true H (W.rfl' H) hi h

/-! argument lists, displays -/
theorem ea_nil {S : List D → Prop} (s : S []) : Ea W tNil ρ S := fun σ H e hi Q q => q [] H [] (W.rfl' H) hi s .nil
theorem ea_cons {S : List D → Prop} {tr : TA} (h : Ev W ta ρ fun d => Ea W tr ρ fun ds => S (d :: ds)) : Ea W (tCons ta tr) ρ S := fun σ H e hi Q q =>
  h σ H e hi _ fun x H1 d r1 i1 hb dx => hb σ H1 (e.mono r1) i1 _ fun xs H2 ds r2 i2 s dxs => q (x :: xs) H2 (d :: ds) (W.trans' r1 r2) i2 s (.cons (dx.mono (W.keep r2)) dxs)
theorem new_lst {H : Hp} {p : Addr} {xs : List V} {ds : List D} (i : W.I H) (n : H p = none) (h : DVs W.K W.B H xs ds) : DV W.K W.B (upd H p (.lst xs)) (.ref p) (.lst ds) :=
  .lst (Or.inl ⟨W.fresh i n, Or.inl upd_same⟩) (h.mono (Xt.of (Evl.Ex.new n)))
theorem new_tup {H : Hp} {p : Addr} {xs : List V} {ds : List D} (i : W.I H) (n : H p = none) (h : DVs W.K W.B H xs ds) : DV W.K W.B (upd H p (.tup xs)) (.ref p) (.tup ds) :=
  .tup (Or.inl ⟨W.fresh i n, Or.inl upd_same⟩) (h.mono (Xt.of (Evl.Ex.new n)))
theorem ev_lst {tr : TA} (h : Ea W tr ρ fun ds => ds.length ≤ sizeLine ∧ S (.lst ds)) : Ev W (tLst tr) ρ S := fun σ H e hi Q q =>
  h σ H e hi _ fun xs H1 ds r1 i1 s dxs => ⟨by rw [dxs.len]; exact s.1, fun p n =>
    q _ _ _ (W.trans' r1 (W.ofEx (Evl.Ex.new n))) (W.inv (Evl.Ex.new n) i1) s.2 (new_lst i1 n dxs)⟩
theorem ev_tup {tr : TA} (h : Ea W tr ρ fun ds => ds.length ≤ sizeLine ∧ S (.tup ds)) : Ev W (tTup tr) ρ S := fun σ H e hi Q q =>
  h σ H e hi _ fun xs H1 ds r1 i1 s dxs => ⟨by rw [dxs.len]; exact s.1, fun p n =>
    q _ _ _ (W.trans' r1 (W.ofEx (Evl.Ex.new n))) (W.inv (Evl.Ex.new n) i1) s.2 (new_tup i1 n dxs)⟩
theorem ev_CB {r : List V → Hp → VK → Prop} {tr : TA} (h : Ea W tr ρ fun ds => Rc W r ds S) : Ev W (tCB r tr) ρ S := fun σ H e hi Q q =>
  h σ H e hi _ fun xs H1 ds r1 i1 s dxs => s H1 xs i1 dxs Q fun z H2 c r2 i2 s2 dz => q z H2 c (W.trans' r1 r2) i2 s2 dz

/-! slices -/
theorem eo_none {S : Option Int → Prop} (s : S none) : Eo W tNoPart ρ S := fun σ H e hi Q q => q none H (W.rfl' H) hi s
theorem eo_some {S : Option Int → Prop} (h : Ev W te ρ fun d => ∃ i, d = .int i ∧ S (some i)) : Eo W (tPart te) ρ S := fun σ H e hi Q q =>
  h σ H e hi _ fun x H1 d r1 i1 hb dx => by
    obtain ⟨i, rfl, hb⟩ := hb
    cases dx
    exact ⟨i, rfl, q _ H1 r1 i1 hb⟩
theorem ev_sl {r : V → Option Int → Option Int → Hp → VK → Prop} {tl th : TO} (h : Ev W te ρ fun d => Eo W tl ρ fun lo => Eo W th ρ fun hi => Rs W r d lo hi S) : Ev W (tSl r te tl th) ρ S := fun σ H e hi Q q =>
  h σ H e hi _ fun x H1 d r1 i1 hb dx => hb σ H1 (e.mono r1) i1 _ fun lo H2 r2 i2 hl => hl σ H2 (e.mono (W.trans' r1 r2)) i2 _ fun up H3 r3 i3 s =>
    s H3 x i3 (dx.mono (W.keep (W.trans' r2 r3))) Q fun z H4 c r4 i4 s4 dz => q z H4 c (W.trans' (W.trans' (W.trans' r1 r2) r3) r4) i4 s4 dz

/-! statements -/
theorem sm_next (h : Z.N ρ) : Sm W tNext ρ Z := fun σ H e hi E n _ => n σ H ρ e (W.rfl' H) hi h
theorem sm_seq {ts us : TS} (h : Sm W ts ρ ⟨fun ρ' => Sm W us ρ' Z, Z.T⟩) : Sm W (tSeq ts us) ρ Z := fun σ H e hi E n rt =>
  h σ H e hi _ (fun σ' H' ρ' e' r' i' s => s σ' H' e' i' E (fun σ2 H2 ρ2 e2 r2 i2 s2 => n σ2 H2 ρ2 e2 (W.trans' r' r2) i2 s2)
    fun v H2 d r2 i2 s2 dv => rt v H2 d (W.trans' r' r2) i2 s2 dv) rt
theorem sm_ret (h : Ev W te ρ Z.T) : Sm W (tRet te) ρ Z := fun σ H e hi E n rt => h σ H e hi _ fun v H' d r i s dv => rt v H' d r i s dv
theorem sm_retN (h : Z.T .non) : Sm W tRetN ρ Z := fun σ H e hi E n rt => rt _ H _ (W.rfl' H) hi h .non
theorem sm_drop (h : Ev W te ρ fun _ => Z.N ρ) : Sm W (tDrop te) ρ Z := fun σ H e hi E n rt => h σ H e hi _ fun v H' d r i s dv => n σ H' ρ (e.mono r) r i s
theorem sm_if {ts us : TS} (h : Ts W t ρ fun b => if b = true then Sm W ts ρ Z else Sm W us ρ Z) : Sm W (tIfS t ts us) ρ Z := fun σ H e hi E n rt =>
  h σ H e hi _ fun b H1 r1 i1 hb => by
    cases b with
    | true => exact hb σ H1 (e.mono r1) i1 E (fun σ2 H2 ρ2 e2 r2 i2 s2 => n σ2 H2 ρ2 e2 (W.trans' r1 r2) i2 s2) fun v H2 d r2 i2 s2 dv => rt v H2 d (W.trans' r1 r2) i2 s2 dv
    | false => exact hb σ H1 (e.mono r1) i1 E (fun σ2 H2 ρ2 e2 r2 i2 s2 => n σ2 H2 ρ2 e2 (W.trans' r1 r2) i2 s2) fun v H2 d r2 i2 s2 dv => rt v H2 d (W.trans' r1 r2) i2 s2 dv

/-! targets: what is stored, in slots of ls alone -/
def Tg (W : Wd) (g : TG) (ls : List Nat) (ρ : List (Option D)) (d : D) (N : RhoP) : Prop :=
  ∀ σ H v, Slots W σ H ρ → W.I H → DV W.K W.B H v d → ∀ Q : L2.St → Hp → Prop,
    (∀ σ' ρ', Slots W σ' H ρ' → (∀ j, j ∉ ls → σ'[j]? = σ[j]?) → σ'.length = σ.length → N ρ' → Q σ' H) → g v σ H Q
theorem tg_name {i : Nat} {d : D} {N : RhoP} (h : N (ρ.set i (some d))) : Tg W (gName i) [i] ρ d N := fun σ H v e hi dv Q q =>
  q _ _ (e.set dv) (fun j hj => List.getElem?_set_ne (fun z => hj (by rw [z]; exact List.mem_cons_self))) (List.length_set ..) h
/-- several targets -/
def Tgs (W : Wd) (g : TGs) (ls : List Nat) (ρ : List (Option D)) (ds : List D) (N : RhoP) : Prop :=
  ∀ σ H vs, Slots W σ H ρ → W.I H → DVs W.K W.B H vs ds → ∀ Q : L2.St → Hp → Prop,
    (∀ σ' ρ', Slots W σ' H ρ' → (∀ j, j ∉ ls → σ'[j]? = σ[j]?) → σ'.length = σ.length → N ρ' → Q σ' H) → g vs σ H Q
theorem tgs_nil {N : RhoP} (h : N ρ) : Tgs W gNil [] ρ [] N := fun σ H vs e hi dv Q q => by
  cases dv
  exact ⟨rfl, q σ ρ e (fun _ _ => rfl) rfl h⟩
theorem tgs_cons {g : TG} {gs : TGs} {l1 l2 : List Nat} {d : D} {ds : List D} {N : RhoP} (h : Tg W g l1 ρ d fun ρ' => Tgs W gs l2 ρ' ds N) : Tgs W (gCons g gs) (l1 ++ l2) ρ (d :: ds) N := fun σ H vs e hi dv Q q => by
  cases dv with
  | cons h1 h2 =>
    refine ⟨_, _, rfl, h σ H _ e hi h1 _ fun σ1 ρ1 e1 a1 n1 s1 => ?_⟩
    refine s1 σ1 H _ e1 hi h2 Q fun σ2 ρ2 e2 a2 n2 s2 => q σ2 ρ2 e2 (fun j hj => ?_) (n2.trans n1) s2
    rw [a2 j fun z => hj (List.mem_append_right _ z), a1 j fun z => hj (List.mem_append_left _ z)]
theorem tg_tup {gs : TGs} {ls : List Nat} {n : Nat} {ds : List D} {N : RhoP} (hn : ds.length = n) (h : Tgs W gs ls ρ ds N) : Tg W (gTup W.K n gs) ls ρ (.tup ds) N := fun σ H v e hi dv Q q => by
  cases dv with
  | tup hs hd => exact ⟨_, _, rfl, hs.sq, by rw [hd.len]; exact hn, h σ H _ e hi hd Q q⟩
theorem sm_asg {g : TG} {ls : List Nat} (h : Ev W te ρ fun d => Tg W g ls ρ d Z.N) : Sm W (tAsg te g) ρ Z := fun σ H e hi E n rt =>
  h σ H e hi _ fun v H' d r i s dv => s σ H' v (e.mono r) i dv _ fun σ' ρ' e' _ _ s' => n σ' H' ρ' e' r i s'
theorem sm_set {i : Nat} (h : Ev W te ρ fun d => Z.N (ρ.set i (some d))) : Sm W (tAsg te (gName i)) ρ Z := sm_asg (ls := [i]) (ev_imp h fun d s => tg_name s)
theorem sm_par {i j : Nat} {tr : TA} (h : Ea W tr ρ fun ds => ∃ a b, ds = [a, b] ∧ Z.N ((ρ.set i (some a)).set j (some b))) : Sm W (tPar i j tr) ρ Z := fun σ H e hi E n rt =>
  h σ H e hi _ fun vs H' ds r i' s dv => by
    obtain ⟨a, b, rfl, s⟩ := s
    cases dv with
    | cons h1 h2 =>
      cases h2 with
      | cons h3 h4 =>
        cases h4
        exact ⟨_, _, rfl, n _ H' _ (((e.mono r).set h1).set h3) r i' s⟩
theorem sm_par3 {i j l : Nat} {tr : TA} (h : Ea W tr ρ fun ds => ∃ a b c, ds = [a, b, c] ∧ Z.N (((ρ.set i (some a)).set j (some b)).set l (some c))) : Sm W (tPar3 i j l tr) ρ Z := fun σ H e hi E n rt =>
  h σ H e hi _ fun vs H' ds r i' s dv => by
    obtain ⟨a, b, c, rfl, s⟩ := s
    cases dv with
    | cons h1 h2 =>
      cases h2 with
      | cons h3 h4 =>
        cases h4 with
        | cons h5 h6 =>
          cases h6
          exact ⟨_, _, _, rfl, n _ H' _ ((((e.mono r).set h1).set h3).set h5) r i' s⟩
end
end Lb

/-! LbC: loops and comprehensions over data; promises of defs over data; the bag. -/
namespace Lb
open PySem PySem.Spec PyProof.Rows L2
open Evl (Ex)

/-! ### what is walked -/
def DIt (K : PySem.W.Frag) (B : Addr → Prop) (J : It) (H0 : Hp) (items : List D) : Prop :=
  ∀ B' H, Wk B B' H0 → Xt B' H0 H → (∀ p, H p = none → ¬ B' p) → (∀ i, i < items.length → J.go i H) ∧ J.stop items.length H ∧
    ∀ i x H', i < items.length → J.yld i H x H' → Ex H H' ∧ ∃ d, items[i]? = some d ∧ DV K B' H' x d
section
variable {K : PySem.W.Frag} {B : Addr → Prop} {H0 : Hp}
theorem dit_list {a : Addr} {xs : List V} {ds : List D} (h : LB K B H0 a xs) (hs : DVs K B H0 xs ds) : DIt K B (Itl K a) H0 ds := by
  intro B' H w e _
  have h1 : SqL K H a xs := ((h.weak w).mono e).sq
  have hl := hs.len
  refine ⟨fun i hi => ⟨xs, xs[i]'(by omega), h1, by simp [hl, hi]⟩, ⟨xs, h1, by omega⟩, fun i x H' hi y => ?_⟩
  obtain ⟨e1, y⟩ := y
  subst e1
  refine ⟨Evl.Ex.refl _, ds[i], by simp [hi], ?_⟩
  obtain ⟨v, h2, h3⟩ := ((hs.weak w).mono e).get (i := i) (d := ds[i]) (by simp [hi])
  rw [y xs h1] at h2
  cases h2
  exact h3
theorem dit_tup {a : Addr} {xs : List V} {ds : List D} (h : TB K B H0 a xs) (hs : DVs K B H0 xs ds) : DIt K B (Itt K a) H0 ds := by
  intro B' H w e _
  have h1 : SqT K H a xs := ((h.weak w).mono e).sq
  have hl := hs.len
  refine ⟨fun i hi => ⟨xs, xs[i]'(by omega), h1, by simp [hl, hi]⟩, ⟨xs, h1, by omega⟩, fun i x H' hi y => ?_⟩
  obtain ⟨e1, y⟩ := y
  subst e1
  refine ⟨Evl.Ex.refl _, ds[i], by simp [hi], ?_⟩
  obtain ⟨v, h2, h3⟩ := ((hs.weak w).mono e).get (i := i) (d := ds[i]) (by simp [hi])
  rw [y xs h1] at h2
  cases h2
  exact h3
/-- lo, lo + 1, .. -/
def rngD (lo : Int) (n : Nat) : List D := (List.range n).map fun (i : Nat) => D.int (lo + (i : Int))
theorem rngD_len (lo : Int) (n : Nat) : (rngD lo n).length = n := by simp [rngD]
theorem rngD_get {lo : Int} {n i : Nat} {d : D} (h : (rngD lo n)[i]? = some d) : i < n ∧ d = .int (lo + i) := by
  unfold rngD at h
  rw [List.getElem?_map] at h
  by_cases hi : i < n
  · rw [List.getElem?_range hi] at h
    exact ⟨hi, (Option.some.inj h).symm⟩
  · rw [List.getElem?_eq_none (by simp; omega)] at h
    cases h
theorem dit_range (lo : Int) (n : Nat) : DIt K B (Itr lo n) H0 (rngD lo n) := by
  intro B' H w e _
  rw [rngD_len]
  refine ⟨fun i hi => hi, Nat.le_refl _, fun i x H' hi y => ?_⟩
  obtain ⟨e1, y⟩ := y
  subst e1 y
  refine ⟨Evl.Ex.refl _, .int (lo + i), ?_, .int _⟩
  unfold rngD
  rw [List.getElem?_map, List.getElem?_range hi]
  rfl
/-- the signs of a text -/
def sgnD (z : Str) : List D := z.cps.toList.map fun c => D.str ⟨#[c]⟩
theorem sgnD_len (z : Str) : (sgnD z).length = z.length := by simp [sgnD, Str.length]
theorem dit_str (z : Str) : DIt K B (Its z) H0 (sgnD z) := by
  intro B' H w e _
  have hl : (sgnD z).length = z.cps.size := by simp [sgnD]
  rw [hl]
  refine ⟨fun i hi => hi, Nat.le_refl _, fun i x H' hi y => ?_⟩
  obtain ⟨e1, c, y, ex⟩ := y
  subst e1 ex
  refine ⟨Evl.Ex.refl _, .str ⟨#[c]⟩, ?_, .str _⟩
  unfold sgnD
  rw [List.getElem?_map, Array.getElem?_toList, y]
  rfl
end

def Iw (W : Wd) (wi : TI) (ρ : List (Option D)) (P : List D → Prop) : Prop :=
  ∀ σ H, Slots W σ H ρ → W.I H → ∀ Rk : It → Hp → Prop, (∀ J H2 items, W.R H H2 → W.I H2 → DIt W.K W.B J H2 items → P items → Rk J H2) → wi σ H Rk
section
variable {W : Wd} {ρ : List (Option D)} {S : D → Prop} {P : List D → Prop} {te tl : TE} {Z : Wants}
theorem iw_list (h : Ev W tl ρ fun d => ∃ ds, d = .lst ds ∧ P ds) : Iw W (iList W.K tl) ρ P := fun σ H e hi Rk q =>
  h σ H e hi _ fun x H1 d r1 i1 s dx => by
    obtain ⟨ds, rfl, s⟩ := s
    cases dx with
    | lst hl hs => exact ⟨_, rfl, ⟨_, hl.sq⟩, q _ H1 ds r1 i1 (dit_list hl hs) s⟩
theorem iw_tup (h : Ev W tl ρ fun d => ∃ ds, d = .tup ds ∧ P ds) : Iw W (iTup W.K tl) ρ P := fun σ H e hi Rk q =>
  h σ H e hi _ fun x H1 d r1 i1 s dx => by
    obtain ⟨ds, rfl, s⟩ := s
    cases dx with
    | tup hl hs => exact ⟨_, rfl, ⟨_, hl.sq⟩, q _ H1 ds r1 i1 (dit_tup hl hs) s⟩
theorem iw_str (h : Ev W te ρ fun d => ∃ z, d = .str z ∧ P (sgnD z)) : Iw W (iStr te) ρ P := fun σ H e hi Rk q =>
  h σ H e hi _ fun x H1 d r1 i1 s dx => by
    obtain ⟨z, rfl, s⟩ := s
    cases dx
    exact ⟨z, rfl, q _ H1 _ r1 i1 (dit_str z) s⟩
theorem iw_rng1 {ta : TA} (h : Ea W ta ρ fun ds => ∃ j : Int, ds = [.int j] ∧ -(2 ^ 62) ≤ j ∧ j < 2 ^ 62 ∧ P (rngD 0 j.toNat)) : Iw W (iRng1 ta) ρ P := fun σ H e hi Rk q =>
  h σ H e hi _ fun xs H1 ds r1 i1 s dx => by
    obtain ⟨j, rfl, h1, h2, s⟩ := s
    cases dx with
    | cons h3 h4 =>
      cases h4
      cases h3
      exact ⟨j, rfl, h1, h2, q _ H1 _ r1 i1 (dit_range 0 _) s⟩
theorem wipe_in {σ : L2.St} {j : Nat} : ∀ {vs : List Nat}, j ∈ vs → (wipe σ vs)[j]? = if j < σ.length then some none else none
  | [], h => by simp at h
  | v :: vs, h => by
    unfold wipe
    by_cases e : v = j
    · subst e
      by_cases hl : v < σ.length
      · rw [if_pos hl, List.getElem?_set_self (by rw [wipe_length]; exact hl)]
      · rw [if_neg hl, List.getElem?_eq_none (by rw [List.length_set, wipe_length]; omega)]
    · rw [List.getElem?_set_ne e]
      exact wipe_in ((List.mem_cons.mp h).resolve_left fun z => e z.symm)
theorem wipe_same {σ σ' : L2.St} {vs : List Nat} (hl : σ'.length = σ.length) (h : ∀ j, j ∉ vs → σ'[j]? = (wipe σ vs)[j]?) : wipe σ' vs = wipe σ vs := by
  refine List.ext_getElem? fun j => ?_
  by_cases hj : j ∈ vs
  · rw [wipe_in hj, wipe_in hj, hl]
  · rw [wipe_out hj, h j hj]

/-- [te for g in wi if tt] -/
theorem ev_lc {wi : TI} {g : TG} {tt : TT} {vs ls : List Nat} (hls : ∀ j ∈ ls, j ∈ vs)
    (h : Iw W wi ρ fun items => items.length < sizeLine ∧ ∃ P : Nat → List D → Prop, P 0 [] ∧
      (∀ L, W.Fr L → ∀ i d out, items[i]? = some d → P i out → Tg (W.plus L) g ls (wipeD ρ vs) d fun ρ' =>
        Ts (W.plus L) tt ρ' fun b => if b = true then Ev (W.plus L) te ρ' fun e => P (i + 1) (out ++ [e]) else P (i + 1) out) ∧
      ∀ out, P items.length out → S (.lst out)) : Ev W (tLc wi g tt te vs) ρ S := by
  intro σ H e hi Q q
  refine h σ H e hi _ fun J H2 items r2 i2 dit hh => ?_
  obtain ⟨hz, P, p0, step, done⟩ := hh
  intro L hL
  have nB : ¬ W.B L := W.fresh i2 hL
  have wk : Wk W.B (W.plus L).B H2 := fun a z => z.elim Or.inl fun q => Or.inr (by rw [q]; exact hL)
  have fr : ∀ H', (W.plus L).I H' → ∀ p, H' p = none → ¬ (W.plus L).B p := fun H' i' p n => (W.plus L).fresh i' n
  have wlk : Walk J items.length (fun H' => W.R H2 H' ∧ (W.plus L).I H') (fun i H' x H'' => Ex H' H'' ∧ ∃ d, items[i]? = some d ∧ DV W.K (W.plus L).B H'' x d) :=
    ⟨fun i H' hi' hg => (dit _ H' wk ((W.plus L).keep hg.1) (fr H' hg.2)).1 i hi', fun H' hg => (dit _ H' wk ((W.plus L).keep hg.1) (fr H' hg.2)).2.1,
      fun i H' x H'' hi' hg y => (dit _ H' wk ((W.plus L).keep hg.1) (fr H' hg.2)).2.2 i x H'' hi' y⟩
  refine lc_it wlk (fun i H' => (W.R H2 H' ∧ (W.plus L).I H') ∧ ∃ acc out, H' L = some (.lst acc) ∧ acc.length ≤ i ∧ DVs W.K (W.plus L).B H' acc out ∧ P i out) ?_ (fun i H' _ p => p.1) ?_ ?_
  · have en : Ex H2 (upd H2 L (.lst [])) := Evl.Ex.new hL
    exact ⟨⟨W.ofEx en, W.inv en i2, by rw [upd_same]; simp⟩, [], [], upd_same, Nat.le_refl _, .nil, p0⟩
  · rintro i x H3 H4 hi3 ⟨⟨r3, i3⟩, acc, out, hacc, hlen, hout, pi⟩ ⟨e34, d, hd, dx⟩
    have i4 : (W.plus L).I H4 := (W.plus L).inv e34 i3
    have r4 : W.R H2 H4 := W.trans' r3 (W.ofEx e34)
    have sl2 : Slots W σ H2 ρ := e.mono r2
    have sl3 : Slots (W.plus L) σ H2 ρ := Slots.weak (W := W) (W' := W.plus L) rfl wk sl2
    have sl : Slots (W.plus L) (wipe σ vs) H4 (wipeD ρ vs) := (Slots.mono (W := W.plus L) r4 sl3).wipe vs
    refine step L ⟨H2, i2, hL⟩ i d out hd pi (wipe σ vs) H4 x sl i4 dx _ fun σ' ρ' sl' ag ln s => ⟨?_, ?_⟩
    · refine wipe_same ?_ fun j hj => ag j fun z => hj (hls j z)
      rw [ln, wipe_length]
    · refine s σ' H4 sl' i4 _ fun b H5 r5 i5 s5 => ?_
      have r5' : W.R H4 H5 := r5
      have keepL : ∀ {H6}, W.R H5 H6 → H6 L = some (.lst acc) := fun r6 => W.keep (W.trans' r5' r6) L _ nB (e34 L _ hacc)
      cases b with
      | false =>
        exact ⟨⟨W.trans' r4 r5', i5⟩, acc, out, keepL (W.rfl' _), Nat.le_succ_of_le hlen, (hout.mono (Xt.of e34)).mono ((W.plus L).keep r5), s5⟩
      | true =>
        refine s5 σ' H5 (sl'.mono r5) i5 _ fun y H6 c r6 i6 s6 dy => ?_
        have r6' : W.R H5 H6 := r6
        have r26 : W.R H2 H6 := W.trans' (W.trans' r4 r5') r6'
        have xu : ∀ o, Xt (W.plus L).B H6 (upd H6 L o) := fun o a u n ha => by
          rw [upd_ne fun z => n (Or.inr z)]
          exact ha
        refine ⟨acc, keepL r6', by omega, ⟨W.chg r26 hL, W.imut i2 r26 i6.1 hL, by rw [upd_same]; simp⟩, acc ++ [y], out ++ [c], upd_same, by simp; omega, ?_, s6⟩
        have h6 : DVs W.K (W.plus L).B H6 acc out := ((hout.mono (Xt.of e34)).mono ((W.plus L).keep r5)).mono ((W.plus L).keep r6)
        exact (h6.append (.cons dy .nil)).mono (xu _)
  · rintro H3 ⟨⟨r3, i3⟩, acc, out, hacc, hlen, hout, pn⟩
    exact q _ H3 _ (W.trans' r2 r3) i3.1 (done out pn) (.lst (Or.inl ⟨nB, Or.inl hacc⟩) (hout.weak (wk_of fun a z => Or.inl z)))

/-- for g in wi: tb -/
theorem sm_for {wi : TI} {g : TG} {tb : TS} {ls : List Nat}
    (h : Iw W wi ρ fun items => ∃ J : Nat → RhoP, J 0 ρ ∧
      (∀ i d ρ', items[i]? = some d → J i ρ' → Tg W g ls ρ' d fun ρ2 => Sm W tb ρ2 ⟨J (i + 1), Z.T⟩) ∧ ∀ ρ', J items.length ρ' → Z.N ρ') : Sm W (tFor wi g tb) ρ Z := by
  intro σ H e hi E n rt
  refine h σ H e hi _ fun It H2 items r2 i2 dit hh => ?_
  obtain ⟨J, j0, step, done⟩ := hh
  have wk : Wk W.B W.B H2 := fun a z => Or.inl z
  have wlk : Walk It items.length (fun H' => W.R H2 H' ∧ W.I H') (fun i H' x H'' => Ex H' H'' ∧ ∃ d, items[i]? = some d ∧ DV W.K W.B H'' x d) :=
    ⟨fun i H' hi' hg => (dit _ H' wk (W.keep hg.1) fun p z => W.fresh hg.2 z).1 i hi', fun H' hg => (dit _ H' wk (W.keep hg.1) fun p z => W.fresh hg.2 z).2.1,
      fun i H' x H'' hi' hg y => (dit _ H' wk (W.keep hg.1) fun p z => W.fresh hg.2 z).2.2 i x H'' hi' y⟩
  refine for_it wlk (fun i σ' H' => (W.R H2 H' ∧ W.I H') ∧ ∃ ρ', Slots W σ' H' ρ' ∧ J i ρ') ⟨⟨W.rfl' _, i2⟩, ρ, e.mono r2, j0⟩ (fun i σ' H' _ p => p.1) ?_ ?_
  · rintro i x σ3 H3 H4 hi3 ⟨⟨r3, i3⟩, ρ3, sl3, ji⟩ ⟨e34, d, hd, dx⟩
    have i4 : W.I H4 := W.inv e34 i3
    have r4 : W.R H2 H4 := W.trans' r3 (W.ofEx e34)
    refine step i d ρ3 hd ji σ3 H4 x (sl3.mono (W.ofEx e34)) i4 dx _ fun σ5 ρ5 sl5 _ _ s5 => ?_
    refine s5 σ5 H4 sl5 i4 _ (fun σ6 H6 ρ6 sl6 r6 i6 s6 => ⟨⟨W.trans' r4 r6, i6⟩, ρ6, sl6, s6⟩) fun v H6 c r6 i6 s6 dv => ?_
    exact rt v H6 c (W.trans' (W.trans' r2 r4) r6) i6 s6 dv
  · rintro σ3 H3 ⟨⟨r3, i3⟩, ρ3, sl3, jn⟩
    exact n σ3 H3 ρ3 sl3 (W.trans' r2 r3) i3 (done ρ3 jn)
end

/-! ### promises over data -/
/-- pure: n arguments, Pre of them, Post of them and of what is returned -/
def DSp (K : PySem.W.Frag) (n : Nat) (Pre : List D → Prop) (Post : List D → D → Prop) : Sp := fun vs H Q _ =>
  ∃ (B : Addr → Prop) (ds : List D), vs.length = n ∧ (∀ p, H p = none → ¬ B p) ∧ DVs K B H vs ds ∧ Pre ds ∧ ∀ v H' d, Ex H H' → Post ds d → DV K B H' v d → Q v H'
theorem slots_start {W : Wd} {H : Hp} {N : List Str} {vs : List V} {ds : List D} (h : DVs W.K W.B H vs ds) : Slots W (L2.start N vs) H (ds.map some ++ List.replicate (N.length - ds.length) none) := by
  have hl := h.len
  refine ⟨by unfold L2.start; simp [hl], fun i d hd => ?_⟩
  by_cases hi : i < ds.length
  · rw [List.getElem?_append_left (by simpa using hi), List.getElem?_map] at hd
    obtain ⟨c, hc, e⟩ := Option.map_eq_some_iff.mp hd
    obtain ⟨v, hv, dv⟩ := h.get hc
    cases e
    refine ⟨v, ?_, dv⟩
    unfold L2.start
    rw [List.getElem?_append_left (by rw [List.length_map, hl]; exact hi), List.getElem?_map, hv]
    rfl
  · rw [List.getElem?_append_right (by simpa using hi), List.getElem?_replicate] at hd
    split at hd <;> cases hd
section
variable {P : Program} {w : World} {K : PySem.W.Frag} {mg : Str → Option Value} {base : Heap} {x qual : Str} {st : Stmt} {f : Addr} {fd : FuncData} {N ps : List Str} {k n : Nat}
  {Pre : List D → Prop} {Post : List D → D → Prop} {t : TS}
theorem dsp_len (hn : ps.length = n) : ∀ vs H Q E, DSp K n Pre Post vs H Q E → vs.length = ps.length := fun vs H Q E h => by
  obtain ⟨_, _, h, _⟩ := h
  omega
theorem dsp_run {H : Hp} {vs : List V} {Q : VK} {E : XK} (h : DSp K n Pre Post vs H Q E)
    (hb : ∀ B ds, ds.length = n → Pre ds → Sm (Wp K B) t (ds.map some ++ List.replicate (N.length - n) none) ⟨fun _ => Post ds .non, Post ds⟩) :
    t { nx := fun _ H' => Q .non H', rt := Q } (L2.start N vs) H := by
  obtain ⟨B, ds, hl, fr, dv, pre, q⟩ := h
  have e : ds.length = n := dv.len.symm.trans hl
  subst e
  exact hb B ds rfl pre (L2.start N vs) H (slots_start (W := Wp K B) dv) fr _ (fun σ' H' ρ' _ r i s => q _ H' _ r s .non) fun v H' d r i s d' => q v H' d r s d'
theorem okD (F : Fun K x qual st f fd) (S : FnScope N ps (defScope st)) (hn : ps.length = n)
    (der : ∀ (cdv : Value) (A : Around) (outer : List Env) (s : Shared) (H : Hp) (E : XK), Room k (A.deeper (envOfC qual (defScope st) s.heap.objs.size f cdv)) →
      PSs (cxOf CX0 P w K mg base N qual (defScope st) f cdv A outer s H E).nox (defBody st) t)
    (hb : ∀ B ds, ds.length = n → Pre ds → Sm (Wp K B) t (ds.map some ++ List.replicate (N.length - n) none) ⟨fun _ => Post ds .non, Post ds⟩) :
    FnOk P w K mg base CX0 (k + 1) f fd ps (DSp K n Pre Post) :=
  F.ok S (dsp_len hn) fun cdv A outer s H vs Q E hr h => ⟨t, der cdv A outer s H E hr, dsp_run h hb⟩
/-- .. of a def that shows values (repr) -/
theorem okDG (F : Fun K x qual st f fd) (S : FnScope N ps (defScope st)) (hn : ps.length = n)
    (der : ∀ (cdv : Value) (A : Around) (outer : List Env) (s : Shared) (H : Hp) (E : XK), A.guards = some [] → Room k (A.deeper (envOfC qual (defScope st) s.heap.objs.size f cdv)) →
      PSs (cxOf CX0 P w K mg base N qual (defScope st) f cdv A outer s H E).nox (defBody st) t)
    (hb : ∀ B ds, ds.length = n → Pre ds → Sm (Wp K B) t (ds.map some ++ List.replicate (N.length - n) none) ⟨fun _ => Post ds .non, Post ds⟩) :
    FnG P w K mg base CX0 (k + 1) f fd ps (DSp K n Pre Post) :=
  okG F S (dsp_len hn) fun cdv A outer s H vs Q E hG hr h => ⟨t, der cdv A outer s H E hG hr, dsp_run h hb⟩
end
section
variable {W : Wd} {ρ : List (Option D)} {S : D → Prop} {E : XK} {n : Nat} {Pre : List D → Prop} {Post : List D → D → Prop}
/-- a call of a pure def -/
theorem ev_callD {ta : TA} (h : Ea W ta ρ fun ds => ds.length = n ∧ Pre ds ∧ ∀ d, Post ds d → S d) : Ev W (tCall (DSp W.K n Pre Post) [] E ta) ρ S := fun σ H e hi Q q =>
  h σ H e hi _ fun vs H1 ds r1 i1 s dv => by
    obtain ⟨hl, pre, post⟩ := s
    rw [List.append_nil]
    exact ⟨W.B, ds, by rw [dv.len]; exact hl, fun p z => W.fresh i1 z, dv, pre, fun v H' d ex p d' => q v H' d (W.trans' r1 (W.ofEx ex)) (W.inv ex i1) (post d p) d'⟩
end

/-! ### the bag -/
/-- at b the bag: what is left of a great number, a seed, a count, the cells (at bl, the ints ns) -/
structure BagAt (K : PySem.W.Frag) (H : Hp) (b bl : Addr) (ns : List Int) : Prop where
  ob : ∃ c z k : Int, H b = some (.lst [.int c, .int z, .int k, .ref bl]) ∧ 0 ≤ c ∧ 0 ≤ z ∧ z < 2147483647 ∧ 0 ≤ k
  cells : LB K (· = b) H bl (ns.map V.int)
  pos : ∀ n ∈ ns, 0 ≤ n
theorem BagAt.ne {K : PySem.W.Frag} {H : Hp} {b bl : Addr} {ns : List Int} (h : BagAt K H b bl ns) : H b ≠ none := by
  obtain ⟨c, z, k, e, _⟩ := h.ob
  rw [e]
  simp
theorem BagAt.ex {K : PySem.W.Frag} {H H' : Hp} {b bl : Addr} {ns : List Int} (e : Ex H H') (h : BagAt K H b bl ns) : BagAt K H' b bl ns := by
  obtain ⟨c, z, k, e1, r⟩ := h.ob
  exact ⟨⟨c, z, k, e _ _ e1, r⟩, h.cells.mono (Xt.of e), h.pos⟩
theorem BagAt.upd {K : PySem.W.Frag} {H H' : Hp} {b bl p : Addr} {o : HO} {ns : List Int} (h : BagAt K H b bl ns) (h' : BagAt K H' b bl ns) (n : H p = none) : BagAt K (upd H' p o) b bl ns := by
  have nb : b ≠ p := fun z => h.ne (by rw [z]; exact n)
  obtain ⟨c, z, k, e1, r⟩ := h'.ob
  refine ⟨⟨c, z, k, by rw [upd_ne nb]; exact e1, r⟩, ?_, h.pos⟩
  rcases h.cells with ⟨n1, h1⟩ | h1
  · have nl : bl ≠ p := fun z => rd_some h1 (by rw [z]; exact n)
    rcases h'.cells with ⟨n2, h2⟩ | h2
    · refine Or.inl ⟨n2, ?_⟩
      rcases h2 with h2 | ⟨o2, h2⟩
      · exact Or.inl (by rw [upd_ne nl]; exact h2)
      · exact Or.inr ⟨o2, by rw [upd_ne nl]; exact h2⟩
    · exact Or.inr h2
  · exact Or.inr h1
/-- a world in which the bag at b may turn -/
structure Bagged (W : Wd) (b bl : Addr) (ns : List Int) : Prop where
  at_ : ∀ {H}, W.I H → BagAt W.K H b bl ns
  B : W.B b
  R : ∀ {H H'}, Xt (· = b) H H' → W.R H H'
  I : ∀ {H H'}, W.I H → Xt (· = b) H H' → BagAt W.K H' b bl ns → W.I H'
theorem Bagged.plus {W : Wd} {b bl : Addr} {ns : List Int} (g : Bagged W b bl ns) {L : Addr} (fr : W.Fr L) : Bagged (W.plus L) b bl ns := by
  obtain ⟨H0, i0, n0⟩ := fr
  have nb : L ≠ b := fun z => (g.at_ i0).ne (by rw [← z]; exact n0)
  refine ⟨fun i => g.at_ i.1, Or.inl g.B, fun e => g.R e, fun {H H'} i e h => ⟨g.I i.1 e h, ?_⟩⟩
  cases q : H L with
  | none => exact absurd q i.2
  | some o => rw [e L o nb q]; simp
/-- the body of a def that is handed the bag -/
def Wb (K : PySem.W.Frag) (b bl : Addr) (ns : List Int) (B : Addr → Prop) (hB : B b) : Wd where
  K := K
  B := B
  R := Xt (· = b)
  I := fun H => BagAt K H b bl ns ∧ ∀ p, H p = none → ¬ B p
  rfl' := Xt.refl _
  trans' := Xt.trans
  ofEx := Xt.of
  keep := fun r a o n h => r a o (fun z => n (by rw [z]; exact hB)) h
  chg := fun e n a o na ha => by
    rw [upd_ne (ne_of_none ha n)]
    exact e a o na ha
  inv := fun e i => ⟨i.1.ex e, fun p h => i.2 p (Ex.none e h)⟩
  fresh := fun i h => i.2 _ h
  imut := fun i r i1 n => ⟨i.1.upd i1.1 n, fun q h => i1.2 q (upd_none' h).2⟩
theorem bagged_Wb {K : PySem.W.Frag} {b bl : Addr} {ns : List Int} {B : Addr → Prop} {hB : B b} : Bagged (Wb K b bl ns B hB) b bl ns := by
  refine ⟨fun i => i.1, hB, fun e => e, fun {H H'} i e h => ⟨h, fun p n => i.2 p ?_⟩⟩
  cases q : H p with
  | none => rfl
  | some o =>
    by_cases hp : p = b
    · subst hp
      exact absurd n h.ne
    · rw [e p o hp q] at n
      cases n
/-- with the bag ahead of n arguments -/
def BSp (K : PySem.W.Frag) (n : Nat) (Pre : List D → Prop) (Post : List D → D → Prop) : Sp := fun vs H Q _ =>
  ∃ (b bl : Addr) (ns : List Int) (B : Addr → Prop) (vs' : List V) (ds : List D), vs = .ref b :: vs' ∧ vs'.length = n ∧ B b ∧ BagAt K H b bl ns ∧ (∀ p, H p = none → ¬ B p) ∧
    DVs K B H vs' ds ∧ Pre ds ∧ ∀ v H' d, Xt (· = b) H H' → BagAt K H' b bl ns → Post ds d → DV K B H' v d → Q v H'
section
variable {P : Program} {w : World} {K : PySem.W.Frag} {mg : Str → Option Value} {base : Heap} {x qual : Str} {st : Stmt} {f : Addr} {fd : FuncData} {N ps : List Str} {k n : Nat}
  {Pre : List D → Prop} {Post : List D → D → Prop} {t : TS}
theorem bsp_len (hn : ps.length = n + 1) : ∀ vs H Q E, BSp K n Pre Post vs H Q E → vs.length = ps.length := fun vs H Q E h => by
  obtain ⟨_, _, _, _, vs', _, e, h, _⟩ := h
  subst e
  rw [List.length_cons]
  omega
theorem bsp_run {H : Hp} {vs : List V} {Q : VK} {E : XK} (h : BSp K n Pre Post vs H Q E)
    (hb : ∀ b bl ns B hB ds, ds.length = n → Pre ds → Sm (Wb K b bl ns B hB) t (some (.raw (.ref b)) :: ds.map some ++ List.replicate (N.length - (n + 1)) none) ⟨fun _ => Post ds .non, Post ds⟩) :
    t { nx := fun _ H' => Q .non H', rt := Q } (L2.start N vs) H := by
  obtain ⟨b, bl, ns, B, vs', ds, rfl, hl, hB, bag, fr, dv, pre, q⟩ := h
  have e : ds.length = n := dv.len.symm.trans hl
  subst e
  have sl := slots_start (W := Wb K b bl ns B hB) (N := N) (H := H) (vs := .ref b :: vs') (ds := .raw (.ref b) :: ds) (.cons (.raw _) dv)
  exact hb b bl ns B hB ds rfl pre (L2.start N (.ref b :: vs')) H sl ⟨bag, fr⟩ _ (fun σ' H' ρ' _ r i s => q _ H' _ r i.1 s .non) fun v H' d r i s d' => q v H' d r i.1 s d'
theorem okB (F : Fun K x qual st f fd) (S : FnScope N ps (defScope st)) (hn : ps.length = n + 1)
    (der : ∀ (cdv : Value) (A : Around) (outer : List Env) (s : Shared) (H : Hp) (E : XK), Room k (A.deeper (envOfC qual (defScope st) s.heap.objs.size f cdv)) →
      PSs (cxOf CX0 P w K mg base N qual (defScope st) f cdv A outer s H E).nox (defBody st) t)
    (hb : ∀ b bl ns B hB ds, ds.length = n → Pre ds → Sm (Wb K b bl ns B hB) t (some (.raw (.ref b)) :: ds.map some ++ List.replicate (N.length - (n + 1)) none) ⟨fun _ => Post ds .non, Post ds⟩) :
    FnOk P w K mg base CX0 (k + 1) f fd ps (BSp K n Pre Post) :=
  F.ok S (bsp_len hn) fun cdv A outer s H vs Q E hr h => ⟨t, der cdv A outer s H E hr, bsp_run h hb⟩
end
section
variable {W : Wd} {ρ : List (Option D)} {S : D → Prop} {E : XK} {n : Nat} {Pre : List D → Prop} {Post : List D → D → Prop} {b bl : Addr} {ns : List Int}
/-- a call with the bag -/
theorem ev_callB {ta : TA} (g : Bagged W b bl ns) (h : Ea W ta ρ fun ds => ∃ es, ds = .raw (.ref b) :: es ∧ es.length = n ∧ Pre es ∧ ∀ d, Post es d → S d) :
    Ev W (tCall (BSp W.K n Pre Post) [] E ta) ρ S := fun σ H e hi Q q =>
  h σ H e hi _ fun vs H1 ds r1 i1 s dv => by
    obtain ⟨es, rfl, hl, pre, post⟩ := s
    cases dv with
    | cons hb hs =>
      cases hb
      rw [List.append_nil]
      exact ⟨b, bl, ns, W.B, _, es, rfl, by rw [hs.len]; exact hl, g.B, g.at_ i1, fun p z => W.fresh i1 z, hs, pre,
        fun v H' d xt bag p d' => q v H' d (W.trans' r1 (g.R xt)) (g.I i1 xt bag) (post d p) d'⟩
end
end Lb

/-! LbD: operators, built-ins, subscripts over data; ==, repr. -/
namespace Lb
open PySem PySem.Spec PyProof.Rows L2
open Evl (Ex)

/-! ### data as PyData -/
mutual
def D.py : D → PyData
  | .non => .none
  | .bl b => .bool b
  | .int i => .int i
  | .str x => .str x
  | .lst ds => .list (D.pys ds)
  | .tup ds => .tuple (D.pys ds)
  | .dct kvs => .dict (D.pyKv kvs)
  | .raw _ => .none
def D.pys : List D → List PyData
  | [] => []
  | d :: ds => d.py :: D.pys ds
def D.pyKv : List (D × D) → List (PyData × PyData)
  | [] => []
  | (k, v) :: r => (k.py, v.py) :: D.pyKv r
end
mutual
/-- no dict, nothing raw -/
def D.pl : D → Bool
  | .non => true
  | .bl _ => true
  | .int _ => true
  | .str _ => true
  | .lst ds => D.pls ds
  | .tup ds => D.pls ds
  | .dct _ => false
  | .raw _ => false
def D.pls : List D → Bool
  | [] => true
  | d :: ds => d.pl && D.pls ds
end
section
variable {K : PySem.W.Frag} {B : Addr → Prop} {H : Hp}
mutual
theorem DV.dp : ∀ {v : V} {d : D}, DV K B H v d → d.pl = true → Dp K H v d.py
  | _, _, .non, _ => by simp only [D.py]; exact .non
  | _, _, .bl b, _ => by simp only [D.py]; exact .bl b
  | _, _, .int i, _ => by simp only [D.py]; exact .int i
  | _, _, .str x, _ => by simp only [D.py]; exact .str x
  | _, _, .lst h hs, p => by simp only [D.py]; simp only [D.pl] at p; exact .lst h.sq (DVs.dp hs p)
  | _, _, .tup h hs, p => by simp only [D.py]; simp only [D.pl] at p; exact .tup h.sq (DVs.dp hs p)
  | _, _, .dct _ _ _ _, p => by simp [D.pl] at p
  | _, _, .raw _, p => by simp [D.pl] at p
theorem DVs.dp : ∀ {vs : List V} {ds : List D}, DVs K B H vs ds → D.pls ds = true → DpAll K H vs (D.pys ds)
  | _, _, .nil, _ => by simp only [D.pys]; exact .nil
  | _, _, .cons h hs, p => by
    simp only [D.pls, Bool.and_eq_true] at p
    simp only [D.pys]
    exact .cons (h.dp p.1) (hs.dp p.2)
end
end

section
variable {W : Wd} {S : D → Prop} {ρ : List (Option D)}
/-! ### two ints -/
theorem rb_I0 {g : Int → Int → Int} {i j : Int} (s : S (.int (g i j))) : Rb W (rI0 fun a b => .int (g a b)) (.int i) (.int j) S := fun H x y hi dx dy Q q => by
  cases dx
  cases dy
  exact ⟨i, j, rfl, rfl, q _ H _ (W.rfl' H) hi s (.int _)⟩
theorem rb_I {C : Int → Int → Prop} {g : Int → Int → Int} {i j : Int} (c : C i j) (s : S (.int (g i j))) : Rb W (rI C fun a b => .int (g a b)) (.int i) (.int j) S := fun H x y hi dx dy Q q => by
  cases dx
  cases dy
  exact ⟨i, j, rfl, rfl, c, q _ H _ (W.rfl' H) hi s (.int _)⟩
theorem rb_B0 {g : Int → Int → Bool} {i j : Int} (s : S (.bl (g i j))) : Rb W (rI0 fun a b => .bl (g a b)) (.int i) (.int j) S := fun H x y hi dx dy Q q => by
  cases dx
  cases dy
  exact ⟨i, j, rfl, rfl, q _ H _ (W.rfl' H) hi s (.bl _)⟩
theorem ru_I {g : Int → Int} {i : Int} (s : S (.int (g i))) : Ru W (rU fun a => .int (g a)) (.int i) S := fun H x hi dx Q q => by
  cases dx
  exact ⟨i, rfl, q _ H _ (W.rfl' H) hi s (.int _)⟩
theorem rb_or1 {r r' : R2} {d e : D} (h : Rb W r d e S) : Rb W (fun x y H Q => r x y H Q ∨ r' x y H Q) d e S := fun H x y hi dx dy Q q => Or.inl (h H x y hi dx dy Q q)
theorem rb_or2 {r r' : R2} {d e : D} (h : Rb W r' d e S) : Rb W (fun x y H Q => r x y H Q ∨ r' x y H Q) d e S := fun H x y hi dx dy Q q => Or.inr (h H x y hi dx dy Q q)
theorem rc_or1 {r r' : List V → Hp → VK → Prop} {ds : List D} (h : Rc W r ds S) : Rc W (fun xs H Q => r xs H Q ∨ r' xs H Q) ds S := fun H xs hi dx Q q => Or.inl (h H xs hi dx Q q)
theorem rc_or2 {r r' : List V → Hp → VK → Prop} {ds : List D} (h : Rc W r' ds S) : Rc W (fun xs H Q => r xs H Q ∨ r' xs H Q) ds S := fun H xs hi dx Q q => Or.inr (h H xs hi dx Q q)

/-! ### texts -/
theorem rb_strle {i j : Str} (s : S (.bl (!decide (j.cps.toList < i.cps.toList)))) :
    Rb W (fun x y H Q => ∃ i j, x = .str i ∧ y = .str j ∧ Q (.bl (!decide (j.cps.toList < i.cps.toList))) H) (.str i) (.str j) S := fun H x y hi dx dy Q q => by
  cases dx
  cases dy
  exact ⟨i, j, rfl, rfl, q _ H _ (W.rfl' H) hi s (.bl _)⟩
theorem rb_stradd {i j : Str} (hz : i.length + j.length ≤ sizeLine) (s : S (.str (i ++ j))) :
    Rb W (fun x y H Q => ∃ i j, x = .str i ∧ y = .str j ∧ i.length + j.length ≤ sizeLine ∧ Q (.str (i ++ j)) H) (.str i) (.str j) S := fun H x y hi dx dy Q q => by
  cases dx
  cases dy
  exact ⟨i, j, rfl, rfl, hz, q _ H _ (W.rfl' H) hi s (.str _)⟩
theorem rb_sign {c : Nat} {z : Str} (s : S (.bl (decide (c ∈ z.cps.toList)))) :
    Rb W (fun x y H Q => ∃ (c : Nat) (z : Str), x = .str ⟨#[c]⟩ ∧ y = .str z ∧ Q (.bl (decide (c ∈ z.cps.toList))) H) (.str ⟨#[c]⟩) (.str z) S := fun H x y hi dx dy Q q => by
  cases dx
  cases dy
  exact ⟨c, z, rfl, rfl, q _ H _ (W.rfl' H) hi s (.bl _)⟩
theorem rb_notsign {c : Nat} {z : Str} (s : S (.bl (!decide (c ∈ z.cps.toList)))) :
    Rb W (fun x y H Q => ∃ (c : Nat) (z : Str), x = .str ⟨#[c]⟩ ∧ y = .str z ∧ Q (.bl (!decide (c ∈ z.cps.toList))) H) (.str ⟨#[c]⟩) (.str z) S := fun H x y hi dx dy Q q => by
  cases dx
  cases dy
  exact ⟨c, z, rfl, rfl, q _ H _ (W.rfl' H) hi s (.bl _)⟩
theorem rs_str {z : Str} {lo hi : Option Int} (hz : z.length ≤ sizeLine) (s : S (.str (cutS z lo hi))) : Rs W rSlS (.str z) lo hi S := fun H x hi dx Q q => by
  cases dx
  exact ⟨z, rfl, hz, q _ H _ (W.rfl' H) hi s (.str _)⟩

/-! ### == -/
theorem rb_eqD {d e : D} (pd : d.pl = true) (pe : e.pl = true) (sd : SeqAt.shaped d.py = true) (se : SeqAt.shaped e.py = true) (s : S (.bl (PyData.eqv d.py e.py))) : Rb W (rEqD W.K) d e S :=
  fun H x y hi dx dy Q q => ⟨_, _, dx.dp pd, dy.dp pe, sd, se, q _ H _ (W.rfl' H) hi s (.bl _)⟩
theorem rb_neD {d e : D} (pd : d.pl = true) (pe : e.pl = true) (sd : SeqAt.shaped d.py = true) (se : SeqAt.shaped e.py = true) (s : S (.bl (!PyData.eqv d.py e.py))) : Rb W (rNeD W.K) d e S :=
  fun H x y hi dx dy Q q => ⟨_, _, dx.dp pd, dy.dp pe, sd, se, q _ H _ (W.rfl' H) hi s (.bl _)⟩
theorem rb_eq {d e : D} {x y : V} (hd : ∀ H v, DV W.K W.B H v d → v = x) (he : ∀ H v, DV W.K W.B H v e → v = y) (h : scal x y = true) (s : S (.bl (decide (x = y)))) : Rb W rEq d e S :=
  fun H v u hi dx dy Q q => by
    obtain rfl := hd H v dx
    obtain rfl := he H u dy
    exact ⟨h, q _ H _ (W.rfl' H) hi s (.bl _)⟩
theorem rb_ne {d e : D} {x y : V} (hd : ∀ H v, DV W.K W.B H v d → v = x) (he : ∀ H v, DV W.K W.B H v e → v = y) (h : scal x y = true) (s : S (.bl (!decide (x = y)))) : Rb W rNe d e S :=
  fun H v u hi dx dy Q q => by
    obtain rfl := hd H v dx
    obtain rfl := he H u dy
    exact ⟨h, q _ H _ (W.rfl' H) hi s (.bl _)⟩
theorem dv_int {i : Int} : ∀ H v, DV W.K W.B H v (.int i) → v = .int i := fun H v h => by cases h; rfl
theorem dv_str {i : Str} : ∀ H v, DV W.K W.B H v (.str i) → v = .str i := fun H v h => by cases h; rfl
theorem dv_bl {i : Bool} : ∀ H v, DV W.K W.B H v (.bl i) → v = .bl i := fun H v h => by cases h; rfl
theorem dv_non : ∀ H v, DV W.K W.B H v .non → v = .non := fun H v h => by cases h; rfl
theorem rb_eqI {i j : Int} (s : S (.bl (decide (i = j)))) : Rb W rEq (.int i) (.int j) S := rb_eq dv_int dv_int rfl (by simpa using s)
theorem rb_eqS {i j : Str} (s : S (.bl (decide (i = j)))) : Rb W rEq (.str i) (.str j) S := rb_eq dv_str dv_str rfl (by simpa using s)
theorem rb_neI {i j : Int} (s : S (.bl (!decide (i = j)))) : Rb W rNe (.int i) (.int j) S := rb_ne dv_int dv_int rfl (by simpa using s)
theorem rb_neS {i j : Str} (s : S (.bl (!decide (i = j)))) : Rb W rNe (.str i) (.str j) S := rb_ne dv_str dv_str rfl (by simpa using s)

/-! ### subscripts, slices, +, of lists and tuples -/
theorem atI_of {ds : List D} {xs : List V} {H : Hp} {i : Int} {d : D} (h : DVs W.K W.B H xs ds) (e : atI ds i = some d) : ∃ v, atI xs i = some v ∧ DV W.K W.B H v d := by
  unfold atI at e ⊢
  rw [h.len]
  cases q : ixN ds.length i with
  | none => rw [q] at e; cases e
  | some j =>
    rw [q] at e
    exact h.get e
theorem rb_ixL {ds : List D} {i : Int} {d : D} (e : atI ds i = some d) (s : S d) : Rb W (rIxL W.K) (.lst ds) (.int i) S := fun H x y hi dx dy Q q => by
  cases dy
  cases dx with
  | lst hl hs =>
    obtain ⟨v, h1, h2⟩ := atI_of hs e
    exact ⟨_, _, i, v, rfl, rfl, hl.sq, h1, q _ H _ (W.rfl' H) hi s h2⟩
theorem rb_ixT {ds : List D} {i : Int} {d : D} (e : atI ds i = some d) (s : S d) : Rb W (rIxT W.K) (.tup ds) (.int i) S := fun H x y hi dx dy Q q => by
  cases dy
  cases dx with
  | tup hl hs =>
    obtain ⟨v, h1, h2⟩ := atI_of hs e
    exact ⟨_, _, i, v, rfl, rfl, hl.sq, h1, q _ H _ (W.rfl' H) hi s h2⟩
theorem rb_ixS {z : Str} {i : Int} {c : Nat} (hz : z.length ≤ sizeLine) (e : atI z.cps.toList i = some c) (s : S (.str ⟨#[c]⟩)) : Rb W rIxS (.str z) (.int i) S := fun H x y hi dx dy Q q => by
  cases dy
  cases dx
  exact ⟨z, i, c, rfl, rfl, hz, e, q _ H _ (W.rfl' H) hi s (.str _)⟩
theorem rb_ix1 {ds : List D} {i : Int} {d : D} (e : atI ds i = some d) (s : S d) : Rb W (rIx W.K) (.lst ds) (.int i) S := rb_or1 (rb_ixL e s)
theorem rb_ix2 {ds : List D} {i : Int} {d : D} (e : atI ds i = some d) (s : S d) : Rb W (rIx W.K) (.tup ds) (.int i) S := rb_or2 (rb_or1 (rb_ixT e s))
theorem rb_ix3 {z : Str} {i : Int} {c : Nat} (hz : z.length ≤ sizeLine) (e : atI z.cps.toList i = some c) (s : S (.str ⟨#[c]⟩)) : Rb W (rIx W.K) (.str z) (.int i) S := rb_or2 (rb_or2 (rb_ixS hz e s))
def cutD (ds : List D) (lo hi : Option Int) : List D := (ds.drop (HT.sIx ds.length 0 lo)).take (HT.sIx ds.length ds.length hi - HT.sIx ds.length 0 lo)
theorem cutD_len (ds : List D) (lo hi : Option Int) : (cutD ds lo hi).length ≤ ds.length := by
  unfold cutD
  rw [List.length_take, List.length_drop]
  omega
theorem cut_of {xs : List V} {ds : List D} {H : Hp} {lo hi : Option Int} (h : DVs W.K W.B H xs ds) : DVs W.K W.B H (cutV xs lo hi) (cutD ds lo hi) := by
  unfold cutV cutD
  rw [h.len]
  exact (h.drop _).take _
theorem rs_lst {ds : List D} {lo hi : Option Int} (s : S (.lst (cutD ds lo hi))) : Rs W (rSlL W.K) (.lst ds) lo hi S := fun H x hi dx Q q => by
  cases dx with
  | lst hl hs => exact ⟨_, _, rfl, hl.sq, fun p n => q _ _ _ (W.ofEx (Evl.Ex.new n)) (W.inv (Evl.Ex.new n) hi) s (new_lst hi n (cut_of hs))⟩
theorem rb_catA {xs ys : List D} (hz : xs.length + ys.length ≤ sizeLine) (s : S (.tup (xs ++ ys))) : Rb W (rCatA W.K) (.tup xs) (.tup ys) S := fun H x y hi dx dy Q q => by
  cases dx with
  | tup h1 s1 =>
    cases dy with
    | tup h2 s2 =>
      rename_i a vs b us
      refine ⟨_, _, _, _, rfl, rfl, h1.sq, h2.sq, by rw [s1.len, s2.len]; exact hz, fun e => ?_, fun _ e => ?_, fun _ _ p n => ?_⟩
      · subst e
        cases s1
        exact q _ H _ (W.rfl' H) hi s (.tup h2 s2)
      · subst e
        cases s2
        exact q _ H _ (W.rfl' H) hi s (.tup h1 (by simpa using s1))
      · exact q _ _ _ (W.ofEx (Evl.Ex.new n)) (W.inv (Evl.Ex.new n) hi) s (new_tup hi n (s1.append s2))
/-- list + list, wherever they stand -/
def rCatS (K : PySem.W.Frag) : R2 := fun x y H Q => ∃ l b xs zs, x = .ref l ∧ y = .ref b ∧ SqL K H l xs ∧ SqL K H b zs ∧ xs.length + zs.length ≤ sizeLine ∧ ∀ p, H p = none → Q (.ref p) (upd H p (.lst (xs ++ zs)))
theorem rb_catS {xs ys : List D} (hz : xs.length + ys.length ≤ sizeLine) (s : S (.lst (xs ++ ys))) : Rb W (rCatS W.K) (.lst xs) (.lst ys) S := fun H x y hi dx dy Q q => by
  cases dx with
  | lst h1 s1 =>
    cases dy with
    | lst h2 s2 => exact ⟨_, _, _, _, rfl, rfl, h1.sq, h2.sq, by rw [s1.len, s2.len]; exact hz, fun p n => q _ _ _ (W.ofEx (Evl.Ex.new n)) (W.inv (Evl.Ex.new n) hi) s (new_lst hi n (s1.append s2))⟩
theorem ev_rev {te : TE} (h : Ev W te ρ fun d => ∃ ds, d = .lst ds ∧ S (.lst ds.reverse)) : Ev W (tRevL W.K te) ρ S := fun σ H e hi Q q =>
  h σ H e hi _ fun x H1 d r1 i1 s dx => by
    obtain ⟨ds, rfl, s⟩ := s
    cases dx with
    | lst hl hs => exact ⟨_, _, rfl, hl.sq, fun p n => q _ _ _ (W.trans' r1 (W.ofEx (Evl.Ex.new n))) (W.inv (Evl.Ex.new n) i1) s (new_lst i1 n hs.rev)⟩

/-! ### built-ins -/
theorem rc_abs {i : Int} (s : S (.int (if i < 0 then -i else i))) : Rc W (fun xs H Q => ∃ i, xs = [.int i] ∧ Q (.int (if i < 0 then -i else i)) H) [.int i] S := fun H xs hi dx Q q => by
  cases dx with
  | cons h1 h2 =>
    cases h2
    cases h1
    exact ⟨i, rfl, q _ H _ (W.rfl' H) hi s (.int _)⟩
theorem rc_int {i : Int} (s : S (.int i)) : Rc W (fun xs H Q => (∃ i, xs = [.int i] ∧ Q (.int i) H) ∨ ∃ k, xs = [.bl k] ∧ Q (.int (if k then 1 else 0)) H) [.int i] S := fun H xs hi dx Q q => by
  cases dx with
  | cons h1 h2 =>
    cases h2
    cases h1
    exact Or.inl ⟨i, rfl, q _ H _ (W.rfl' H) hi s (.int _)⟩
theorem rc_intB {k : Bool} (s : S (.int (if k then 1 else 0))) : Rc W (fun xs H Q => (∃ i, xs = [.int i] ∧ Q (.int i) H) ∨ ∃ k, xs = [.bl k] ∧ Q (.int (if k then 1 else 0)) H) [.bl k] S := fun H xs hi dx Q q => by
  cases dx with
  | cons h1 h2 =>
    cases h2
    cases h1
    exact Or.inr ⟨k, rfl, q _ H _ (W.rfl' H) hi s (.int _)⟩
abbrev rLen (K : PySem.W.Frag) : List V → Hp → VK → Prop := fun xs H Q => ∃ x n, xs = [x] ∧ LenV K x H n ∧ Q (.int n) H
theorem rc_lenL {ds : List D} (s : S (.int ds.length)) : Rc W (rLen W.K) [.lst ds] S := fun H xs hi dx Q q => by
  cases dx with
  | cons h1 h2 =>
    cases h2
    cases h1 with
    | lst hl hs => exact ⟨_, _, rfl, Or.inl ⟨_, hl.sq, rfl⟩, q _ H _ (W.rfl' H) hi (by rw [hs.len]; exact s) (.int _)⟩
theorem rc_lenT {ds : List D} (s : S (.int ds.length)) : Rc W (rLen W.K) [.tup ds] S := fun H xs hi dx Q q => by
  cases dx with
  | cons h1 h2 =>
    cases h2
    cases h1 with
    | tup hl hs => exact ⟨_, _, rfl, Or.inr ⟨_, hl.sq, rfl⟩, q _ H _ (W.rfl' H) hi (by rw [hs.len]; exact s) (.int _)⟩
theorem rc_lenS {z : Str} (hz : z.length ≤ sizeLine) (s : S (.int z.length)) : Rc W (rLen W.K) [.str z] S := fun H xs hi dx Q q => by
  cases dx with
  | cons h1 h2 =>
    cases h2
    cases h1
    exact ⟨_, _, rfl, ⟨hz, rfl⟩, q _ H _ (W.rfl' H) hi s (.int _)⟩
theorem bls_of {H : Hp} : ∀ {bs : List Bool} {xs : List V}, DVs W.K W.B H xs (bs.map D.bl) → xs = bs.map V.bl
  | [], _, h => by cases h; rfl
  | b :: bs, _, h => by
    cases h with
    | cons h1 h2 =>
      cases h1
      rw [bls_of h2]
      rfl
theorem rc_all {bs : List Bool} (s : S (.bl (bs.all id))) : Rc W (rAll W.K) [.lst (bs.map D.bl)] S := fun H xs hi dx Q q => by
  cases dx with
  | cons h1 h2 =>
    cases h2
    cases h1 with
    | lst hl hs =>
      have e := bls_of hs
      subst e
      exact ⟨_, bs, rfl, hl.sq, q _ H _ (W.rfl' H) hi s (.bl _)⟩
/-- the built-in class of data -/
def D.ty : D → Option String
  | .non => some "NoneType"
  | .bl _ => some "bool"
  | .int _ => some "int"
  | .str _ => some "str"
  | .lst _ => some "list"
  | .tup _ => some "tuple"
  | .dct _ => some "dict"
  | .raw _ => none
theorem DV.tyx {K : PySem.W.Frag} {B : Addr → Prop} {H : Hp} {v : V} {d : D} {T : String} (h : DV K B H v d) (e : d.ty = some T) : TyX K H v (.type T) := by
  cases h with
  | non => cases e; exact .base .non
  | bl b => cases e; exact .base (.bl b)
  | int i => cases e; exact .base (.int i)
  | str x => cases e; exact .base (.str x)
  | lst h hs =>
    cases e
    rcases h.sq with (h | ⟨o, h⟩) | ⟨o, its, n, hk, hc, _⟩
    · exact .base (.lst h)
    · exact .base (.frz h)
    · exact .kList hk hc
  | tup h hs =>
    cases e
    rcases h.sq with (h | ⟨o, h⟩) | ⟨o, its, n, hk, hc, _⟩
    · exact .base (.tup h)
    · exact .fTuple h
    · exact .kTuple hk hc
  | dct n h h1 h2 => cases e; exact .base (.dK h)
  | raw v => cases e
theorem rc_isi {d : D} {T0 T : String} {b : Bool} (h0 : d.ty = some T0) (hk : kitB T0 T = some b) (s : S (.bl b)) : Rc W (rIsi W.K) [d, .raw (.ty T)] S := fun H xs hi dx Q q => by
  cases dx with
  | cons h1 h2 =>
    cases h2 with
    | cons h3 h4 =>
      cases h4
      cases h3
      exact ⟨_, _, _, _, b, rfl, .ty T, h1.tyx h0, kit_ty hk, q _ H _ (W.rfl' H) hi s (.bl _)⟩
/-- texts: split, join -/
theorem ev_m1 {r : V → List V → Hp → VK → Prop} {to te : TE} (h : Ev W to ρ fun d => ∃ a, d = .str a ∧ Ev W te ρ fun e => ∀ H x, W.I H → DV W.K W.B H x e → ∀ Q : VK,
      (∀ z H' c, W.R H H' → W.I H' → S c → DV W.K W.B H' z c → Q z H') → r (.str a) [x] H Q) : Ev W (tM1 r to te) ρ S := fun σ H e hi Q q =>
  h σ H e hi _ fun x H1 d r1 i1 s dx => by
    obtain ⟨a, rfl, s⟩ := s
    cases dx
    refine ⟨⟨a, rfl⟩, s σ H1 (e.mono r1) i1 _ fun y H2 c r2 i2 s2 dy => ?_⟩
    exact s2 H2 y i2 dy Q fun z H3 c3 r3 i3 s3 d3 => q z H3 c3 (W.trans' (W.trans' r1 r2) r3) i3 s3 d3
theorem strs_dv {H : Hp} : ∀ ys : List Str, DVs W.K W.B H (ys.map V.str) (ys.map D.str)
  | [] => .nil
  | y :: ys => .cons (.str y) (strs_dv ys)
theorem strs_of {H : Hp} : ∀ {ys : List Str} {xs : List V}, DVs W.K W.B H xs (ys.map D.str) → xs = ys.map V.str
  | [], _, h => by cases h; rfl
  | y :: ys, _, h => by
    cases h with
    | cons h1 h2 =>
      cases h1
      rw [strs_of h2]
      rfl
theorem ints_of {H : Hp} : ∀ {ys : List Int} {xs : List V}, DVs W.K W.B H xs (ys.map D.int) → xs = ys.map V.int
  | [], _, h => by cases h; rfl
  | y :: ys, _, h => by
    cases h with
    | cons h1 h2 =>
      cases h1
      rw [ints_of h2]
      rfl
theorem ints_dv {H : Hp} : ∀ ys : List Int, DVs W.K W.B H (ys.map V.int) (ys.map D.int)
  | [] => .nil
  | y :: ys => .cons (.int y) (ints_dv ys)
end

/-! ### rules of the layer that were not there -/
section
variable {X : Cx}
theorem op_catS : OpR X (binaryOp .Add) (rCatS X.K) := by
  intro pins s σ H x y v u Q I rx ry h
  obtain ⟨l, b, xs, zs, rfl, rfl, h1, h2, hz, q⟩ := h
  cases rx
  cases ry
  obtain ⟨its, r1, ⟨o1, n1, e1, c1, d1, f1⟩, _⟩ := I.list h1
  obtain ⟨its2, r2, ⟨o2, n2, e2, c2, d2, f2⟩, _⟩ := I.list h2
  obtain ⟨oc1, od1, dt1, sl1⟩ := o1
  obtain ⟨oc2, od2, dt2, sl2⟩ := o2
  simp only at c1 d1 f1 c2 d2 f2
  subst c1 d1 f1 c2 d2 f2
  have L1 := r1.length
  have L2 := r2.length
  refine concat_meets ⟨_, e1, rfl⟩ ⟨_, e2, rfl⟩ noFill_list_add seq_list_add PySem.F.slot_list_add PySem.F.entry_list_add (PySem.F.args_list_add_2 _ _)
    (list_addW l b its.toArray its2.toArray n1 n2 none none sl1 sl2 (by rw [List.size_toArray, List.size_toArray]; omega)) ⟨e1, e2, ?_⟩
  have ea : its.toArray ++ its2.toArray = (its ++ its2).toArray := by simp
  rw [ea]
  exact ⟨.ref _, _, I.lnew (t' := s.toks) (r1.append r2) (by rw [List.length_append]; omega), rfl, q _ I.fresh⟩
/-- is not, beside a truth value: ints and truth values -/
def rNotB' : R2 := fun x y H Q => ∃ b : Bool, y = .bl b ∧ ((∃ a, x = .bl a ∧ Q (.bl (!decide (a = b))) H) ∨ ((∃ i, x = .int i) ∧ Q (.bl true) H))
theorem op_notB : OpR X (compareOp .IsNot) rNotB' := by
  intro pins s σ H x y v u Q I rx ry h
  obtain ⟨b, rfl, ⟨a, rfl, q⟩ | ⟨⟨i, rfl⟩, q⟩⟩ := h
  · exact op_notBl pins s σ H _ _ v u Q I rx ry ⟨a, b, rfl, rfl, q⟩
  · obtain ⟨t, rfl⟩ := rx
    cases (show u = Value.bool b from ry)
    exact wpAny_isNot_other rfl (fun z => nomatch z) ⟨.bl true, H, I, rfl, q⟩
/-- a text times an int -/
def repS (z : Str) (n : Int) : Str := ⟨(List.replicate n.toNat z.cps).foldl (· ++ ·) #[]⟩
def rMulS : R2 := fun x y H Q => ∃ z n, x = .str z ∧ y = .int n ∧ 0 ≤ n ∧ n ≤ 1000 ∧ z.length ≤ 1000 ∧ Q (.str (if n < 1 then Str.empty else if (n == 1 || z.length == 0) = true then z else repS z n)) H
theorem op_mulS : OpR X (binaryOp .Mult) rMulS := by
  intro pins s σ H x y v u Q I rx ry h
  obtain ⟨z, n, rfl, rfl, h0, h1, hz, q⟩ := h
  obtain ⟨t, rfl⟩ := rx
  obtain ⟨t', rfl⟩ := ry
  have hl : z.length * n.toNat ≤ 1000 * 1000 := Nat.mul_le_mul hz (by omega)
  refine PySem.P.mul_str ?_ (fun hn _ => ?_) (fun _ _ => ?_) ?_
  · rw [decide_eq_false (by omega), decide_eq_false (by omega)]
    rfl
  · have hn' : 1 ≤ n := by omega
    intro hc
    have h2 : (2 ^ 63 - 1 : Int) / n ≥ (2 ^ 63 - 1) / 1000 := by
      apply Int.le_ediv_of_mul_le (by omega)
      have e : ((2 : Int) ^ 63 - 1) / 1000 = 9223372036854775 := by decide
      rw [e]
      calc (9223372036854775 : Int) * n ≤ 9223372036854775 * 1000 := Int.mul_le_mul_of_nonneg_left h1 (by decide)
        _ ≤ 2 ^ 63 - 1 := by decide
    have e : ((2 : Int) ^ 63 - 1) / 1000 = 9223372036854775 := by decide
    rw [e] at h2
    omega
  · have : z.length * n.toNat ≤ sizeLine := Nat.le_trans hl (by rw [sizeLine_eq]; decide)
    exact decide_eq_false (by omega)
  · by_cases c1 : n < 1
    · rw [if_pos c1] at q ⊢
      exact ⟨by decide, ⟨.str _, H, I.tok _, ⟨_, rfl⟩, q⟩⟩
    · rw [if_neg c1] at q ⊢
      by_cases c2 : (n == 1 || z.length == 0) = true
      · rw [if_pos c2] at q ⊢
        exact ⟨.str z, H, I, ⟨_, rfl⟩, q⟩
      · rw [if_neg c2] at q ⊢
        refine ⟨fits_reps ?_, ⟨.str _, H, I.tok _, ⟨_, rfl⟩, q⟩⟩
        have h3 : z.length * n.toNat ≤ sizeLine := Nat.le_trans hl (by rw [sizeLine_eq]; decide)
        exact decide_eq_false (by omega)
end
end Lb

/-! LbE: operators whatever the kinds; repr; dict displays. -/
namespace Lb
open PySem PySem.Spec PyProof.Rows L2
open Evl (Ex)

/-! ### + and * whatever the kinds -/
def rAddS : R2 := fun x y H Q => ∃ i j, x = .str i ∧ y = .str j ∧ i.length + j.length ≤ sizeLine ∧ Q (.str (i ++ j)) H
def rAdd4 (K : PySem.W.Frag) : R2 := fun x y H Q => rI0 (fun i j => .int (i + j)) x y H Q ∨ rAddS x y H Q ∨ rCatS K x y H Q ∨ rCatA K x y H Q
def rMul2 : R2 := fun x y H Q => rI CMul (fun i j => .int (i * j)) x y H Q ∨ rMulS x y H Q
def rSl3 (K : PySem.W.Frag) : V → Option Int → Option Int → Hp → VK → Prop := fun x lo hi H Q => rSlL K x lo hi H Q ∨ rSlS x lo hi H Q
def rSplit : V → List V → Hp → VK → Prop := fun x xs H Q => ∃ a b, x = .str a ∧ xs = [.str b] ∧ (b.length == 0) = false ∧ a.length + 2 ≤ sizeLine ∧ rNewStrs (Txt.split a b) H Q
def rJoin (K : PySem.W.Frag) : V → List V → Hp → VK → Prop := fun x xs H Q => ∃ a p, ∃ ys : List Str, x = .str a ∧ xs = [.ref p] ∧ (SqL K H p (ys.map V.str) ∨ SqT K H p (ys.map V.str)) ∧
  (ys.map (·.length)).sum + ys.length * a.length ≤ 16777216 ∧ Q (.str (Txt.join a ys)) H
def rLeS : R2 := fun x y H Q => ∃ i j, x = .str i ∧ y = .str j ∧ Q (.bl (!decide (j.cps.toList < i.cps.toList))) H
def rInS1 : R2 := fun x y H Q => ∃ (c : Nat) (z : Str), x = .str ⟨#[c]⟩ ∧ y = .str z ∧ Q (.bl (decide (c ∈ z.cps.toList))) H
def rNotInS1 : R2 := fun x y H Q => ∃ (c : Nat) (z : Str), x = .str ⟨#[c]⟩ ∧ y = .str z ∧ Q (.bl (!decide (c ∈ z.cps.toList))) H
abbrev rAbs : List V → Hp → VK → Prop := fun xs H Q => ∃ i, xs = [.int i] ∧ Q (.int (if i < 0 then -i else i)) H
abbrev rInt1 : List V → Hp → VK → Prop := fun xs H Q => (∃ i, xs = [.int i] ∧ Q (.int i) H) ∨ ∃ k, xs = [.bl k] ∧ Q (.int (if k then 1 else 0)) H
section
variable {X : Cx}
theorem oAdd : OpR X (binaryOp .Add) (rAdd4 X.K) := op_add.or (op_add_str.or (op_catS.or op_catA))
theorem oMul : OpR X (binaryOp .Mult) rMul2 := op_mul.or op_mulS
theorem sl3 : SlR X (rSl3 X.K) := sl_list.or sl_str
end
section
variable {W : Wd} {S : D → Prop} {ρ : List (Option D)}
theorem rb_addI {i j : Int} (s : S (.int (i + j))) : Rb W (rAdd4 W.K) (.int i) (.int j) S := rb_or1 (rb_I0 (g := fun a b => a + b) s)
theorem rb_addS {i j : Str} (hz : i.length + j.length ≤ sizeLine) (s : S (.str (i ++ j))) : Rb W (rAdd4 W.K) (.str i) (.str j) S := rb_or2 (rb_or1 (rb_stradd hz s))
theorem rb_addL {xs ys : List D} (hz : xs.length + ys.length ≤ sizeLine) (s : S (.lst (xs ++ ys))) : Rb W (rAdd4 W.K) (.lst xs) (.lst ys) S := rb_or2 (rb_or2 (rb_or1 (rb_catS hz s)))
theorem rb_addT {xs ys : List D} (hz : xs.length + ys.length ≤ sizeLine) (s : S (.tup (xs ++ ys))) : Rb W (rAdd4 W.K) (.tup xs) (.tup ys) S := rb_or2 (rb_or2 (rb_or2 (rb_catA hz s)))
theorem rb_mulI {i j : Int} (c : CMul i j) (s : S (.int (i * j))) : Rb W rMul2 (.int i) (.int j) S := rb_or1 (rb_I (g := fun a b => a * b) c s)
theorem rb_mulS {z : Str} {n : Int} (h0 : 0 ≤ n) (h1 : n ≤ 1000) (hz : z.length ≤ 1000) (s : S (.str (if n < 1 then Str.empty else if (n == 1 || z.length == 0) = true then z else repS z n))) :
    Rb W rMul2 (.str z) (.int n) S := rb_or2 fun H x y hi dx dy Q q => by
  cases dx
  cases dy
  exact ⟨z, n, rfl, rfl, h0, h1, hz, q _ H _ (W.rfl' H) hi s (.str _)⟩
theorem rs3_lst {ds : List D} {lo hi : Option Int} (s : S (.lst (cutD ds lo hi))) : Rs W (rSl3 W.K) (.lst ds) lo hi S := fun H x hi dx Q q => Or.inl (rs_lst s H x hi dx Q q)
theorem rs3_str {z : Str} {lo hi : Option Int} (hz : z.length ≤ sizeLine) (s : S (.str (cutS z lo hi))) : Rs W (rSl3 W.K) (.str z) lo hi S := fun H x hi dx Q q => Or.inr (rs_str hz s H x hi dx Q q)
theorem rb_notB {b : Bool} {d : D} {c : Bool} (h : (∃ a, d = .bl a ∧ c = !decide (a = b)) ∨ ((∃ i, d = .int i) ∧ c = true)) (s : S (.bl c)) : Rb W rNotB' d (.bl b) S := fun H x y hi dx dy Q q => by
  cases dy
  rcases h with ⟨a, rfl, rfl⟩ | ⟨⟨i, rfl⟩, rfl⟩
  · cases dx
    exact ⟨b, rfl, Or.inl ⟨a, rfl, q _ H _ (W.rfl' H) hi s (.bl _)⟩⟩
  · cases dx
    exact ⟨b, rfl, Or.inr ⟨⟨i, rfl⟩, q _ H _ (W.rfl' H) hi s (.bl _)⟩⟩
theorem ev_split {to te : TE} (h : Ev W to ρ fun d => ∃ a, d = .str a ∧ Ev W te ρ fun e => ∃ b : Str, e = .str b ∧ (b.length == 0) = false ∧ a.length + 2 ≤ sizeLine ∧ S (.lst ((Txt.split a b).map D.str))) :
    Ev W (tM1 rSplit to te) ρ S := ev_m1 (ev_imp h fun d ⟨a, ea, s⟩ => ⟨a, ea, ev_imp s fun e ⟨b, eb, h0, hz, s⟩ H x hi dx Q q => by
  subst eb
  cases dx
  exact ⟨a, b, rfl, rfl, h0, hz, fun p n => q _ _ _ (W.ofEx (Evl.Ex.new n)) (W.inv (Evl.Ex.new n) hi) s (new_lst hi n (strs_dv _))⟩⟩)
theorem ev_join {to te : TE} (h : Ev W to ρ fun d => ∃ a, d = .str a ∧ Ev W te ρ fun e => ∃ ys : List Str, e = .lst (ys.map D.str) ∧ (ys.map (·.length)).sum + ys.length * a.length ≤ 16777216 ∧ S (.str (Txt.join a ys))) :
    Ev W (tM1 (rJoin W.K) to te) ρ S := ev_m1 (ev_imp h fun d ⟨a, ea, s⟩ => ⟨a, ea, ev_imp s fun e ⟨ys, eb, hz, s⟩ H x hi dx Q q => by
  subst eb
  cases dx with
  | lst hl hs =>
    have e := strs_of hs
    subst e
    exact ⟨a, _, ys, rfl, rfl, Or.inl hl.sq, hz, q _ H _ (W.rfl' H) hi s (.str _)⟩⟩)

/-! ### dict displays -/
def keyD : Key → D
  | .inl i => .int i
  | .inr x => .str x
def Ep (W : Wd) (trs : List (TE × TE)) (ρ : List (Option D)) (S : List (D × D) → Prop) : Prop :=
  ∀ σ H, Slots W σ H ρ → W.I H → ∀ Q : List (V × V) → Hp → Prop,
    (∀ ps H' ds, W.R H H' → W.I H' → S ds → DVs W.K W.B H' (ps.map (·.1)) (ds.map (·.1)) → DVs W.K W.B H' (ps.map (·.2)) (ds.map (·.2)) → Q ps H') → tPairs trs σ H Q
theorem ep_nil {S : List (D × D) → Prop} (s : S []) : Ep W [] ρ S := fun σ H e hi Q q => q [] H [] (W.rfl' H) hi s .nil .nil
theorem ep_cons {S : List (D × D) → Prop} {tk tv : TE} {r : List (TE × TE)} (h : Ev W tk ρ fun k => Ev W tv ρ fun v => Ep W r ρ fun ds => S ((k, v) :: ds)) : Ep W ((tk, tv) :: r) ρ S := fun σ H e hi Q q =>
  h σ H e hi _ fun x H1 d r1 i1 hb dx => hb σ H1 (e.mono r1) i1 _ fun y H2 c r2 i2 s2 dy => s2 σ H2 (e.mono (W.trans' r1 r2)) i2 _ fun ps H3 ds r3 i3 s3 d1 d2 =>
    q _ H3 ((d, c) :: ds) (W.trans' (W.trans' r1 r2) r3) i3 s3 (.cons (dx.mono (W.keep (W.trans' r2 r3))) d1) (.cons (dy.mono (W.keep r3)) d2)
theorem keys_of {K : PySem.W.Frag} {B : Addr → Prop} {H : Hp} : ∀ {ks : List Key} {ps : List (V × V)}, DVs K B H (ps.map (·.1)) (ks.map keyD) → ps = (ks.zip (ps.map (·.2))).map fun kv => (kV kv.1, kv.2)
  | [], [], _ => rfl
  | [], _ :: _, h => by cases h
  | k :: ks, [], h => by cases h
  | k :: ks, p :: ps, h => by
    have h' : DVs K B H (p.1 :: ps.map (·.1)) (keyD k :: ks.map keyD) := h
    cases h' with
    | cons h1 h2 =>
      have ih := keys_of h2
      obtain ⟨p1, p2⟩ := p
      have e : p1 = kV k := by
        cases k with
        | inl i => have h1 : DV K B H p1 (.int i) := h1; cases h1; rfl
        | inr x => have h1 : DV K B H p1 (.str x) := h1; cases h1; rfl
      show (p1, p2) :: ps = (kV k, p2) :: (ks.zip (ps.map (·.2))).map fun kv => (kV kv.1, kv.2)
      rw [← ih, e]
theorem merge_nd : ∀ (kvs acc : List (Key × V)), ((acc ++ kvs).map (·.1)).Nodup → mergeK acc kvs = acc ++ kvs
  | [], acc, _ => by simp [mergeK]
  | kv :: kvs, acc, h => by
    have hn : valV acc kv.1 = none := by
      unfold valV
      rw [Option.map_eq_none_iff, List.find?_eq_none]
      intro p hp
      simp only [decide_eq_true_eq]
      intro e
      rw [List.map_append, List.nodup_append] at h
      exact h.2.2 p.1 (List.mem_map_of_mem hp) kv.1 (by simp) e
    show mergeK (putK acc kv.1 kv.2) kvs = _
    rw [putK_new _ hn, merge_nd kvs (acc ++ [(kv.1, kv.2)]) (by simpa using h)]
    simp
theorem keyD_dv {K : PySem.W.Frag} {B : Addr → Prop} {H : Hp} (k : Key) : DV K B H (kV k) (keyD k) := by
  cases k with
  | inl i => exact .int i
  | inr x => exact .str x
theorem keys_dv {K : PySem.W.Frag} {B : Addr → Prop} {H : Hp} : ∀ ks : List Key, DVs K B H (ks.map kV) (ks.map keyD)
  | [] => .nil
  | k :: ks => .cons (keyD_dv k) (keys_dv ks)
theorem zip_fst {α β : Type} : ∀ {l : List α} {m : List β}, l.length = m.length → (l.zip m).map (·.1) = l
  | [], [], _ => rfl
  | [], _ :: _, h => by simp at h
  | _ :: _, [], h => by simp at h
  | a :: l, b :: m, h => by simp [zip_fst (l := l) (m := m) (by simpa using h)]
theorem zip_snd {α β : Type} : ∀ {l : List α} {m : List β}, l.length = m.length → (l.zip m).map (·.2) = m
  | [], [], _ => rfl
  | [], _ :: _, h => by simp at h
  | _ :: _, [], h => by simp at h
  | a :: l, b :: m, h => by simp [zip_snd (l := l) (m := m) (by simpa using h)]
theorem new_dct {H H0 : Hp} {p : Addr} {kvs : List (Key × V)} {ds : List (D × D)} (nb : ¬ W.B p) (h1 : DVs W.K (W.plus p).B H (kvs.map fun q => kV q.1) (ds.map (·.1))) (h2 : DVs W.K (W.plus p).B H (kvs.map (·.2)) (ds.map (·.2))) :
    DV W.K W.B (upd H p (.dK kvs)) (.ref p) (.dct ds) := by
  have xu : Xt (W.plus p).B H (upd H p (.dK kvs)) := fun a o n ha => by
    rw [upd_ne fun z => n (Or.inr z)]
    exact ha
  exact .dct nb upd_same ((h1.mono xu).weak (wk_of fun a z => Or.inl z)) ((h2.mono xu).weak (wk_of fun a z => Or.inl z))
theorem ev_disp {trs : List (TE × TE)}
    (h : ∀ L, W.Fr L → Ep (W.plus L) trs ρ fun ds => ds.length ≤ 15 ∧ (∃ ks : List Key, ds.map (·.1) = ks.map keyD ∧ ks.Nodup) ∧ S (.dct ds)) : Ev W (tDisp trs) ρ S := fun σ H e hi Q q p n => by
  have en : Ex H (upd H p (.dK [])) := Evl.Ex.new n
  have nb : ¬ W.B p := W.fresh hi n
  have wk : Wk W.B (W.plus p).B H := fun a z => z.elim Or.inl fun q => Or.inr (by rw [q]; exact n)
  have sl : Slots (W.plus p) σ (upd H p (.dK [])) ρ := Slots.mono (W := W.plus p) (W.ofEx en) (Slots.weak (W := W) (W' := W.plus p) rfl wk e)
  refine h p ⟨H, hi, n⟩ σ _ sl ⟨W.inv en hi, by rw [upd_same]; simp⟩ _ fun ps H2 ds r2 i2 s d1 d2 => ?_
  have r2' : W.R (upd H p (.dK [])) H2 := r2
  have rH : W.R H H2 := W.trans' (W.ofEx en) r2'
  obtain ⟨hl, ⟨ks, ek, nd⟩, s⟩ := s
  refine ⟨W.keep r2' p _ nb upd_same, ks.zip (ps.map (·.2)), ?_, ?_, ?_⟩
  · rw [ek] at d1
    exact keys_of d1
  · have := d1.len
    rw [List.length_zip]
    simp at this ⊢
    omega
  · have l1 : ks.length = (ps.map (·.2)).length := by
      have h1 := d1.len
      have h2 := congrArg List.length ek
      simp at h1 h2 ⊢
      omega
    rw [merge_nd _ [] (by rw [List.nil_append, zip_fst l1]; exact nd), List.nil_append]
    refine q _ _ _ (W.chg rH n) (W.imut hi rH i2.1 n) s (new_dct (H0 := H) nb ?_ ?_)
    · have e3 : (ks.zip (ps.map (·.2))).map (fun q => kV q.1) = ks.map kV := by
        rw [show (fun q : Key × V => kV q.1) = kV ∘ Prod.fst from rfl, ← List.map_map, zip_fst l1]
      rw [e3, ek]
      exact keys_dv ks
    · rw [zip_snd l1]
      exact d2
end

/-! ### repr -/
def D.sc : D → Bool
  | .non => true
  | .bl _ => true
  | .int _ => true
  | .str _ => true
  | _ => false
/-- shown by the rule below: data without dicts, or a dict of scalars -/
def D.sh : D → Bool
  | .dct kvs => kvs.all fun p => p.1.sc && p.2.sc
  | d => d.pl
mutual
theorem hasDict_pl : ∀ d : D, d.pl = true → d.py.hasDict = false
  | .non, _ => by simp [D.py, PyData.hasDict]
  | .bl _, _ => by simp [D.py, PyData.hasDict]
  | .int _, _ => by simp [D.py, PyData.hasDict]
  | .str _, _ => by simp [D.py, PyData.hasDict]
  | .lst ds, h => by simp only [D.pl] at h; simp only [D.py, PyData.hasDict]; exact hasDicts_pl ds h
  | .tup ds, h => by simp only [D.pl] at h; simp only [D.py, PyData.hasDict]; exact hasDicts_pl ds h
  | .dct _, h => by simp [D.pl] at h
  | .raw _, h => by simp [D.pl] at h
theorem hasDicts_pl : ∀ ds : List D, D.pls ds = true → PyData.hasDictAll (D.pys ds) = false
  | [], _ => by simp [D.pys, PyData.hasDictAll]
  | d :: ds, h => by
    simp only [D.pls, Bool.and_eq_true] at h
    simp only [D.pys, PyData.hasDictAll, hasDict_pl d h.1, hasDicts_pl ds h.2, Bool.or_self]
end
theorem pyKv_fst : ∀ kvs : List (D × D), (D.pyKv kvs).map (·.1) = D.pys (kvs.map (·.1))
  | [] => by simp [D.pyKv, D.pys]
  | (k, v) :: r => by simp only [D.pyKv, List.map_cons, D.pys, pyKv_fst r]
theorem pyKv_snd : ∀ kvs : List (D × D), (D.pyKv kvs).map (·.2) = D.pys (kvs.map (·.2))
  | [] => by simp [D.pyKv, D.pys]
  | (k, v) :: r => by simp only [D.pyKv, List.map_cons, D.pys, pyKv_snd r]
theorem reads_sc {K : PySem.W.Frag} {B : Addr → Prop} {H : Hp} {h : Heap} {v : V} {d : D} {u : Value} (dv : DV K B H v d) (s : d.sc = true) (r : RelV v u) : Reads h u d.py [] := by
  cases dv with
  | non => cases r; simp only [D.py]; exact .none
  | bl b => cases r; simp only [D.py]; exact .bool b
  | int i => obtain ⟨t, rfl⟩ := r; simp only [D.py]; exact .int i t
  | str x => obtain ⟨t, rfl⟩ := r; simp only [D.py]; exact .str x t
  | lst _ _ => simp [D.sc] at s
  | tup _ _ => simp [D.sc] at s
  | dct _ _ _ _ => simp [D.sc] at s
  | raw _ => simp [D.sc] at s
theorem reads_ent {P : Program} {w : World} {K : PySem.W.Frag} {B : Addr → Prop} {H : Hp} {h : Heap} : ∀ {es : List DictEntry} {vs : List (Key × Value)} {kvs : List (Key × V)} {ds : List (D × D)}, Pairs (mixKind P w) es vs → KV kvs vs →
    DVs K B H (kvs.map fun p => kV p.1) (ds.map (·.1)) → DVs K B H (kvs.map (·.2)) (ds.map (·.2)) → (ds.all fun p => p.1.sc && p.2.sc) = true →
    ReadsAll h (es.map (·.key)) (D.pys (ds.map (·.1))) [] ∧ ReadsAll h (es.map (·.val)) (D.pys (ds.map (·.2))) []
  | _, _, _, [], .nil, .nil, _, _, _ => ⟨by simp only [List.map_nil, D.pys]; exact .nil, by simp only [List.map_nil, D.pys]; exact .nil⟩
  | _, _, _, _ :: _, .nil, .nil, h, _, _ => by cases h
  | _, _, _, [], .cons _ _ _, .cons _ _, h, _, _ => by cases h
  | e :: es, kv :: vs, p :: kvs, d :: ds, .cons hk hv hr, .cons hp hps, h1, h2, hs => by
    have h1' : DVs K B H (kV p.1 :: kvs.map fun p => kV p.1) (d.1 :: ds.map (·.1)) := h1
    have h2' : DVs K B H (p.2 :: kvs.map (·.2)) (d.2 :: ds.map (·.2)) := h2
    simp only [List.all_cons, Bool.and_eq_true] at hs
    cases h1' with
    | cons a1 b1 =>
      cases h2' with
      | cons a2 b2 =>
        obtain ⟨i1, i2⟩ := reads_ent hr hps b1 b2 hs.2
        obtain ⟨hp1, hp2⟩ := hp
        have rk : RelV (kV p.1) e.key := by
          rw [hp1]
          rcases keyIs_shape hk with ⟨i, t, e1, e2⟩ | ⟨x, t, e1, e2⟩
          · rw [e1, e2]; exact ⟨t, rfl⟩
          · rw [e1, e2]; exact ⟨t, rfl⟩
        have rv : RelV p.2 e.val := by rw [hv]; exact hp2
        exact ⟨.cons (as := []) (bs := []) (reads_sc a1 hs.1.1 rk) i1, .cons (as := []) (bs := []) (reads_sc a2 hs.1.2 rv) i2⟩
def rRepr (K : PySem.W.Frag) : List V → Hp → VK → Prop := fun xs H Q =>
  ∃ (x : V) (d : D) (B : Addr → Prop), xs = [x] ∧ DV K B H x d ∧ d.sh = true ∧ d.py.showable = true ∧ d.py.depth ≤ 64 ∧ d.py.shown.length ≤ sizeLine ∧ Q (.str d.py.shown) H
theorem call_repr {X : Cx} (hG : X.A.guards = some []) (hu : X.A.units + 70 < cLine) : CallR X (.builtin "repr") (rRepr X.K) := by
  intro pins s σ H xs us Q I r h
  obtain ⟨x, d, B, rfl, dv, sh, sw, dp, sz, q⟩ := h
  obtain ⟨u, rfl, rx⟩ := vals1 r
  have fin : ∀ {a : Addr} {as : List Addr}, Reads s.heap (.ref a) d.py as → (d.py.hasDict = true → sysModules ∉ as) → wpAny (model X.prog X.w) X.A (call (.builtin "repr") [.ref a]) (EP X pins σ Q) X.xe s :=
    fun rd hs => repr_of_reads' (h₀ := s.heap) rd sw hs hG (by omega) (fun _ _ e => e) (fun h' u tk k => ⟨.str _, H, I.kept k, ⟨_, rfl⟩, q⟩) sz
  cases dv with
  | non =>
    cases rx
    simp only [D.py, PyData.shown] at q
    exact PySem.P.repr_of_none ⟨.str _, H, I.tok _, ⟨_, rfl⟩, q⟩
  | bl b =>
    cases rx
    simp only [D.py, PyData.shown] at q
    exact PySem.P.repr_of_bool ⟨.str _, H, I.tok _, ⟨_, rfl⟩, q⟩
  | int i =>
    obtain ⟨t, rfl⟩ := rx
    simp only [D.py, PyData.shown] at q
    exact PySem.P.repr_of_int (by simpa [D.py, PyData.showable] using sw) ⟨.str _, H, I.tok _, ⟨_, rfl⟩, q⟩
  | str z =>
    obtain ⟨t, rfl⟩ := rx
    simp only [D.py, PyData.shown] at q sz
    exact PySem.P.repr_of_str ⟨.str _, H, I.tok _, ⟨_, rfl⟩, q⟩ sz
  | lst hl hs =>
    cases rx
    obtain ⟨as, rd⟩ := Dp.reads I _ _ _ (DV.dp (.lst hl hs) sh) (show RelV (.ref _) (.ref _) from rfl)
    exact fin rd (PyData.noDict_hsm (hasDict_pl _ sh))
  | tup hl hs =>
    cases rx
    obtain ⟨as, rd⟩ := Dp.reads I _ _ _ (DV.dp (.tup hl hs) sh) (show RelV (.ref _) (.ref _) from rfl)
    exact fin rd (PyData.noDict_hsm (hasDict_pl _ sh))
  | @dct a kvs ds n ha h1 h2 =>
    cases rx
    obtain ⟨_, hsy, vs, rk, o, es, ep, ho, hx, hd, _, hp, _⟩ := (show ObjOk X.prog X.w H s.heap a (.dK kvs) from I.hok a _ ha)
    obtain ⟨r1, r2⟩ := reads_ent (h := s.heap) hp rk h1 h2 sh
    have rd : Reads s.heap (.ref a) (PyData.dict (D.pyKv ds)) (a :: [] ++ []) := .dict ho hx.1 hd (by rw [pyKv_fst]; exact r1) (by rw [pyKv_snd]; exact r2)
    refine fin (as := a :: [] ++ []) (by simp only [D.py]; exact rd) fun _ hm => ?_
    have e : sysModules = a := by simpa using hm
    rw [← e] at hsy
    simp at hsy
  | raw v => simp [D.sh, D.pl] at sh
theorem rc_repr {W : Wd} {S : D → Prop} {d : D} (sh : d.sh = true) (sw : d.py.showable = true) (dp : d.py.depth ≤ 64) (sz : d.py.shown.length ≤ sizeLine) (s : S (.str d.py.shown)) : Rc W (rRepr W.K) [d] S := fun H xs hi dx Q q => by
  cases dx with
  | cons h1 h2 =>
    cases h2
    exact ⟨_, d, W.B, rfl, h1, sh, sw, dp, sz, q _ H _ (W.rfl' H) hi s (.str _)⟩
end Lb

/-! LbF: a def of the text with its promise, as it is called. -/
namespace Lb
open PySem PySem.Spec PyProof.Rows L2
open Evl (Ex)

theorem hu70 {k : Nat} {A : Around} (r : Room k A) : A.units + 70 < cLine := by have := r.un; omega
theorem hu64 {k : Nat} {A : Around} (r : Room k A) : A.units + 64 < cLine := by have := r.un; omega
theorem hu1 {k : Nat} {A : Around} (r : Room k A) : A.units + 1 < cLine := by have := r.un; omega
theorem hu0 {k : Nat} {A : Around} (r : Room k A) : A.units < cLine := by have := r.un; omega
/-- the top has the def st under the name x -/
def Has (K : PySem.W.Frag) (mg : Str → Option Value) (x : Str) (st : Stmt) : Prop := ∃ f fd, Fun K x x st f fd ∧ mg x = some (.ref f)
theorem has_mk {K : PySem.W.Frag} {h : Heap} {mg : Str → Option Value} (X : K.In h) (G : h.Ns mainGlobals mg) {x : Str} {st : Stmt} {f : Addr} {oc : Value} {od an : Option Addr} {osl : Array (Option Value)} {kV doc pm cdv ct : Value}
    (a : PySem.W.nsIn K mainGlobals x = some (some (.ref f)))
    (l : K.lookup f = some ⟨oc, od, .func (PySem.W.fnOf x x (defArgs st) (defBody st) (defScope st) .none kV doc pm an cdv ct), osl⟩)
    (c : PySem.W.codeIn K cdv x = true) (k : PySem.W.keepIn K (.ref f) = true) : Has K mg x st :=
  ⟨f, _, fun_mk l c k, PySem.W.mg_of X G a⟩
/-- how a def of n parameters takes its arguments -/
def BindsN (x : Str) (st : Stmt) (ps : List Str) : Prop :=
  ∀ (kV doc pm : Value) (an : Option Addr) (cdv ct : Value) (us : List Value), us.length = ps.length → bindArgs (PySem.W.fnOf x x (defArgs st) (defBody st) (defScope st) .none kV doc pm an cdv ct) ⟨us, []⟩ = pure (ps.zip us)
structure Def (P : Program) (w : World) (K : PySem.W.Frag) (mg : Str → Option Value) (base : Heap) (x : Str) (k : Nat) (ps : List Str) (sp : Sp) : Prop where
  ex : ∃ f fd, mg x = some (.ref f) ∧ PySem.W.keepIn K (.ref f) = true ∧ Binds K fd ps [] ∧ FnOk P w K mg base CX0 k f fd ps sp
structure DefG (P : Program) (w : World) (K : PySem.W.Frag) (mg : Str → Option Value) (base : Heap) (x : Str) (k : Nat) (ps : List Str) (sp : Sp) : Prop where
  ex : ∃ f fd, mg x = some (.ref f) ∧ PySem.W.keepIn K (.ref f) = true ∧ Binds K fd ps [] ∧ FnG P w K mg base CX0 k f fd ps sp
section
variable {P : Program} {w : World} {K : PySem.W.Frag} {mg : Str → Option Value} {base : Heap} {x : Str} {st : Stmt} {N ps : List Str} {k n : Nat} {Pre : List D → Prop} {Post : List D → D → Prop} {t : TS} {sp : Sp}
theorem def_mk (h : Has K mg x st) (hb : BindsN x st ps) (ok : ∀ f fd, Fun K x x st f fd → FnOk P w K mg base CX0 k f fd ps sp) : Def P w K mg base x k ps sp := by
  obtain ⟨f, fd, F, e⟩ := h
  exact ⟨f, fd, e, F.kp, F.binds hb, ok f fd F⟩
theorem defG_mk (h : Has K mg x st) (hb : BindsN x st ps) (ok : ∀ f fd, Fun K x x st f fd → FnG P w K mg base CX0 k f fd ps sp) : DefG P w K mg base x k ps sp := by
  obtain ⟨f, fd, F, e⟩ := h
  exact ⟨f, fd, e, F.kp, F.binds hb, ok f fd F⟩
/-- how a body is derived -/
def Der (P : Program) (w : World) (K : PySem.W.Frag) (mg : Str → Option Value) (base : Heap) (N : List Str) (x : Str) (st : Stmt) (k : Nat) (t : TS) : Prop :=
  ∀ (f : Addr) (cdv : Value) (A : Around) (outer : List Env) (s : Shared) (H : Hp) (E : XK), Room k (A.deeper (envOfC x (defScope st) s.heap.objs.size f cdv)) →
    PSs (cxOf CX0 P w K mg base N x (defScope st) f cdv A outer s H E).nox (defBody st) t
def DerG (P : Program) (w : World) (K : PySem.W.Frag) (mg : Str → Option Value) (base : Heap) (N : List Str) (x : Str) (st : Stmt) (k : Nat) (t : TS) : Prop :=
  ∀ (f : Addr) (cdv : Value) (A : Around) (outer : List Env) (s : Shared) (H : Hp) (E : XK), A.guards = some [] → Room k (A.deeper (envOfC x (defScope st) s.heap.objs.size f cdv)) →
    PSs (cxOf CX0 P w K mg base N x (defScope st) f cdv A outer s H E).nox (defBody st) t
theorem defD (h : Has K mg x st) (S : FnScope N ps (defScope st)) (hb : BindsN x st ps) (hn : ps.length = n) (der : Der P w K mg base N x st k t)
    (body : ∀ B ds, ds.length = n → Pre ds → Sm (Wp K B) t (ds.map some ++ List.replicate (N.length - n) none) ⟨fun _ => Post ds .non, Post ds⟩) :
    Def P w K mg base x (k + 1) ps (DSp K n Pre Post) := def_mk h hb fun f fd F => okD F S hn (der f) body
theorem defDG (h : Has K mg x st) (S : FnScope N ps (defScope st)) (hb : BindsN x st ps) (hn : ps.length = n) (der : DerG P w K mg base N x st k t)
    (body : ∀ B ds, ds.length = n → Pre ds → Sm (Wp K B) t (ds.map some ++ List.replicate (N.length - n) none) ⟨fun _ => Post ds .non, Post ds⟩) :
    DefG P w K mg base x (k + 1) ps (DSp K n Pre Post) := defG_mk h hb fun f fd F => okDG F S hn (der f) body
theorem defB (h : Has K mg x st) (S : FnScope N ps (defScope st)) (hb : BindsN x st ps) (hn : ps.length = n + 1) (der : Der P w K mg base N x st k t)
    (body : ∀ b bl ns B hB ds, ds.length = n → Pre ds → Sm (Wb K b bl ns B hB) t (some (.raw (.ref b)) :: ds.map some ++ List.replicate (N.length - (n + 1)) none) ⟨fun _ => Post ds .non, Post ds⟩) :
    Def P w K mg base x (k + 1) ps (BSp K n Pre Post) := def_mk h hb fun f fd F => okB F S hn (der f) body
/-- any promise, by the reading itself -/
theorem defS (h : Has K mg x st) (S : FnScope N ps (defScope st)) (hb : BindsN x st ps) (len : ∀ vs H Q E, sp vs H Q E → vs.length = ps.length) (der : Der P w K mg base N x st k t)
    (body : ∀ vs H Q E, sp vs H Q E → t { nx := fun _ H' => Q .non H', rt := Q } (L2.start N vs) H) : Def P w K mg base x (k + 1) ps sp :=
  def_mk h hb fun f fd F => F.ok S len fun cdv A outer s H vs Q E hr hs => ⟨t, der f cdv A outer s H E hr, body vs H Q E hs⟩
end
section
variable {X : Cx} {x : Str} {k j : Nat} {ps : List Str} {sp : Sp} {p pos : Pos} {e : Expr} {es : List Expr} {t : TA}
theorem pe_def (d : Def X.prog X.w X.K X.mg X.base x k ps sp) (hr : Room j X.A) (hj : k ≤ j) (hg : Gl X x) (ha : PA X (e :: es) t) (hdb : (x == ("__debug__" : Str)) = false := by decide)
    (he : starEach (e :: es) X.env = (false, eval e X.env) :: starEach es X.env := by rfl) (hpl : (backTo pos (starEach es X.env)).any (·.1) = false := by rfl) :
    PE X (.Call (.Name x p) (e :: es) [] pos) (tCall sp [] E0 t) := by
  obtain ⟨f, fd, hm, hk, hb, F⟩ := d.ex
  exact pe_call F (hr.mono hj) hg hm hk hb .nil pass0 ha hdb he hpl
theorem pe_defG (d : DefG X.prog X.w X.K X.mg X.base x k ps sp) (hG : X.A.guards = some []) (hr : Room j X.A) (hj : k ≤ j) (hg : Gl X x) (ha : PA X (e :: es) t) (hdb : (x == ("__debug__" : Str)) = false := by decide)
    (he : starEach (e :: es) X.env = (false, eval e X.env) :: starEach es X.env := by rfl) (hpl : (backTo pos (starEach es X.env)).any (·.1) = false := by rfl) :
    PE X (.Call (.Name x p) (e :: es) [] pos) (tCall sp [] E0 t) := by
  obtain ⟨f, fd, hm, hk, hb, F⟩ := d.ex
  exact pe_callG F hG (hr.mono hj) hg hm hk hb .nil pass0 ha hdb he hpl
end
end Lb
namespace Lb
open PySem PySem.Spec PyProof.Rows L2
def rGetL (K : PySem.W.Frag) : V → V → Hp → VK → Prop := fun x y H Q => ∃ p xs i v, x = .ref p ∧ y = .int i ∧ 0 ≤ i ∧ SqL K H p xs ∧ atI xs i = some v ∧ Q v H
theorem get_list {X : Cx} : PGet X (rGetL X.K) := by
  intro pins s σ H o i ov iv Q I r1 r2 h
  obtain ⟨p, xs, k, v, rfl, rfl, h0, hq, he, q⟩ := h
  cases r1
  obtain ⟨t, rfl⟩ := r2
  obtain ⟨its, r, pl, hz⟩ := I.list hq
  obtain ⟨j, h1, h2, h3, h4, h5⟩ := atI_get he
  obtain ⟨u, eu, ru⟩ := r.get h2
  have hl := r.length
  have hn := line63
  have hj : k.toNat = j := by
    rw [seqIndex_of h0 h5] at h1
    exact Option.some.inj h1
  exact wpAny_getItem_list pl.isList h0 (by omega) (by rw [hj]; simpa using eu) ⟨v, H, I, ru, q⟩
end Lb

/-! LbT: the law's own drawing: the bag and what is taken out of it. -/
namespace Lb
open PySem PySem.Spec PyProof.Rows L2
open Evl (Ex)
def t_bag (K : PySem.W.Frag) : TS :=
    (tRet (tLst (tCons (tC (.int 0)) (tCons (tC (.int 1234567891)) (tCons (tC (.int 0)) (tCons (tLc (iList K (tSl (rSl3 K) (tVar 0) tNoPart (tPart (tC (.int 63))))) (gName 1) tYes (tCB rAbs (tCons (tVar 1) tNil)) [1]) tNil))))))
def t_take_c2 (K : PySem.W.Frag) : TS :=
    (tSeq (tAsg (tOp (rI (fun _ j => 0 < j) fun i j => .int (i % j)) (tCB rInt1 (tCons (tOp rMul2 (tOp (rAdd4 K) (tOp (rIx K) (tVar 0) (tC (.int 1))) (tC (.int 1))) (tC (.int 39373))) tNil)) (tC (.int 1000000007))) (gName 5))
    (tSeq (tAsg (tOp (rI (fun _ j => 0 < j) fun i j => .int (i % j)) (tCB rInt1 (tCons (tOp rMul2 (tOp (rI (fun _ j => 0 < j) fun i j => .int (i % j)) (tCB rInt1 (tCons (tOp rMul2 (tVar 5) (tVar 5)) tNil)) (tC (.int 998244353))) (tC (.int 30011))) tNil)) (tC (.int 998244353))) (gName 6))
    (tSeq (tIfS (tTest (tOp (rI0 fun i j => .bl (decide (j < i))) (tVar 1) (tC (.int 1000000)))) (tRet (tOp (rI (fun _ j => 0 < j) fun i j => .int (i % j)) (tCB rInt1 (tCons (tOp (rAdd4 K) (tOp rMul2 (tVar 6) (tC (.int 1000000007))) (tVar 5)) tNil)) (tVar 1))) tNext)
    (tRet (tOp (rI (fun _ j => 0 < j) fun i j => .int (i % j)) (tCB rInt1 (tCons (tOp (rI CDiv fun i j => .int (i / j)) (tVar 6) (tC (.int 7))) tNil)) (tVar 1))))))
def t_take_c1 (K : PySem.W.Frag) : TS :=
    (tSeq (tIfS (tTest (tOp (rI0 fun i j => .bl (decide (j < i))) (tOp (rIx K) (tVar 0) (tC (.int 0))) (tC (.int 0)))) (tSeq (tAsg (tOp (rI (fun _ j => 0 < j) fun i j => .int (i % j)) (tCB rInt1 (tCons (tOp (rIx K) (tVar 0) (tC (.int 0))) tNil)) (tVar 1)) (gName 4))
    (tSeq (tAsg (tOp (rI CDiv fun i j => .int (i / j)) (tOp (rIx K) (tVar 0) (tC (.int 0))) (tVar 1)) (gSub (tVar 0) (tC (.int 0)) rSetL))
    (tRet (tVar 4)))) tNext)
    (t_take_c2 K))
def t_take (K : PySem.W.Frag) : TS :=
    (tSeq (tIfS (tTest (tOp rEq (tOp (rIx K) (tVar 0) (tC (.int 0))) (tC (.int 0)))) (tSeq (tAsg (tC (.int 0)) (gName 2))
    (tSeq (tIfS (tTest (tOp (rI0 fun i j => .bl (decide (i < j))) (tOp (rIx K) (tVar 0) (tC (.int 2))) (tCB (rLen K) (tCons (tOp (rIx K) (tVar 0) (tC (.int 3))) tNil)))) (tAsg (tOp (rIx K) (tOp (rIx K) (tVar 0) (tC (.int 3))) (tOp (rIx K) (tVar 0) (tC (.int 2)))) (gName 2)) tNext)
    (tSeq (tAugS (tVar 0) (tC (.int 2)) (tC (.int 1)) (rGetL K) (ipI fun i j => i + j) rSetL)
    (tSeq (tIfS (tTest (tOp (rI0 fun i j => .bl (decide (j ≤ i))) (tVar 2) (tC (.int 1000000000000000000)))) (tAsg (tVar 2) (gSub (tVar 0) (tC (.int 0)) rSetL)) tNext)
    (tSeq (tAsg (tOp (rAdd4 K) (tOp (rI (fun _ j => 0 < j) fun i j => .int (i % j)) (tCB rInt1 (tCons (tVar 2) tNil)) (tC (.int 2147483647))) (tOp rMul2 (tC (.int 7919)) (tOp (rIx K) (tVar 0) (tC (.int 2))))) (gName 3))
    (tAsg (tOp (rI (fun _ j => 0 < j) fun i j => .int (i % j)) (tCB rInt1 (tCons (tOp (rAdd4 K) (tOp rMul2 (tOp (rIx K) (tVar 0) (tC (.int 1))) (tC (.int 48271))) (tVar 3)) tNil)) (tC (.int 2147483647))) (gSub (tVar 0) (tC (.int 1)) rSetL))))))) tNext)
    (t_take_c1 K))

def spBag (K : PySem.W.Frag) : Sp := fun vs H Q _ => ∃ (a : Addr) (ns : List Int), vs = [.ref a] ∧ SqL K H a (ns.map V.int) ∧ ns.length ≤ 63 ∧
  ∀ b bl ms H', H b = none → Ex H H' → BagAt K H' b bl ms → Q (.ref b) H'
def spTake (K : PySem.W.Frag) : Sp := BSp K 1 (fun es => ∃ m, es = [.int m] ∧ 0 < m ∧ m < 1073741824) fun es r => ∃ m i, es = [.int m] ∧ r = .int i ∧ 0 ≤ i ∧ i < m
theorem spBag_len {K : PySem.W.Frag} : ∀ vs H Q E, spBag K vs H Q E → vs.length = 1 := fun vs H Q E ⟨a, ns, e, _⟩ => by rw [e]; rfl
theorem lb_of {K : PySem.W.Frag} {B : Addr → Prop} {H : Hp} {a : Addr} {xs : List V} (nb : ¬ B a) (h : SqL K H a xs) : LB K B H a xs := by
  rcases h with h | h
  · exact Or.inl ⟨nb, h⟩
  · exact Or.inr (Or.inr h)
theorem cutD_mem {ds : List D} {lo hi : Option Int} {i : Nat} {d : D} (h : (cutD ds lo hi)[i]? = some d) : d ∈ ds := by
  have h1 : d ∈ cutD ds lo hi := List.mem_of_getElem? h
  unfold cutD at h1
  exact List.mem_of_mem_drop (List.mem_of_mem_take h1)
theorem bag_body {K : PySem.W.Frag} {N : List Str} (hN : N.length = 2) : ∀ vs H Q E, spBag K vs H Q E → t_bag K { nx := fun _ H' => Q .non H', rt := Q } (L2.start N vs) H := by
  rintro vs H Q E ⟨a, ns, rfl, hS, hl, k⟩
  have dv : DVs K (fun _ => False) H [.ref a] [.lst (ns.map D.int)] := .cons (.lst (lb_of (fun z => z) hS) (ints_dv (W := Wp K fun _ => False) ns)) .nil
  have sl := slots_start (W := Wp K fun _ => False) (N := N) dv
  rw [hN] at sl
  have ev : Ev (Wp K fun _ => False) (tLc (iList K (tSl (rSl3 K) (tVar 0) tNoPart (tPart (tC (.int 63))))) (gName 1) tYes (tCB rAbs (tCons (tVar 1) tNil)) [1])
      [some (.lst (ns.map D.int)), none] fun d => ∃ ms : List Int, d = .lst (ms.map D.int) ∧ ∀ m ∈ ms, 0 ≤ m := by
    refine ev_lc (ls := [1]) (fun j h => h) (iw_list (ev_sl (ev_var rfl (eo_none (eo_some (ev_int ⟨63, rfl, rs3_lst ⟨_, rfl, ?_⟩⟩))))))
    refine ⟨?_, fun _ out => ∃ ms : List Int, out = ms.map D.int ∧ ∀ m ∈ ms, 0 ≤ m, ⟨[], rfl, fun _ h => nomatch h⟩, ?_, ?_⟩
    · have h1 := cutD_len (ns.map D.int) none (some 63)
      rw [List.length_map] at h1
      exact Nat.lt_of_le_of_lt (Nat.le_trans h1 hl) (by decide)
    · rintro L _ i d out hd ⟨ms, rfl, hp⟩
      obtain ⟨n, _, rfl⟩ := List.mem_map.mp (cutD_mem hd)
      refine tg_name (ts_yes ((if_pos rfl).mpr (ev_CB (ea_cons (ev_var rfl (ea_nil (rc_abs ?_)))))))
      refine ⟨ms ++ [if n < 0 then -n else n], by rw [List.map_append]; rfl, fun x hx => ?_⟩
      rcases List.mem_append.mp hx with hx | hx
      · exact hp x hx
      · rw [List.mem_singleton.mp hx]
        split <;> omega
    · rintro out h
      obtain ⟨ms, rfl, hp⟩ := h
      exact ⟨ms, rfl, hp⟩
  show tLc _ _ _ _ _ (L2.start N [.ref a]) H (fun x H1 => ([.int 0, .int 1234567891, .int 0, x] : List V).length ≤ sizeLine ∧ ∀ p, H1 p = none → Q (.ref p) (upd H1 p (.lst [.int 0, .int 1234567891, .int 0, x])))
  refine ev (L2.start N [.ref a]) H sl (fun p _ z => z) _ fun v H1 d r i s dx => ?_
  obtain ⟨ms, rfl, hp⟩ := s
  cases dx with
  | lst hb hs =>
    rename_i bl xs
    have e := ints_of (W := Wp K fun _ => False) hs
    subst e
    refine ⟨by show 4 ≤ sizeLine; decide, fun p n => ?_⟩
    refine k p bl ms _ (Ex.none r n) (Evl.Ex.trans r (Evl.Ex.new n)) ⟨⟨0, 1234567891, 0, upd_same, by decide, by decide, by decide, by decide⟩, ?_, hp⟩
    rcases hb with ⟨_, h⟩ | h
    · have nl : bl ≠ p := fun z => rd_some h (by rw [z]; exact n)
      refine Or.inl ⟨nl, ?_⟩
      rcases h with h | ⟨o, h⟩
      · exact Or.inl (by rw [upd_ne nl]; exact h)
      · exact Or.inr ⟨o, by rw [upd_ne nl]; exact h⟩
    · exact Or.inr h

/-! ### take -/
section
variable {K : PySem.W.Frag} {b bl : Addr} {ns : List Int}
theorem rd_bag {σ : L2.St} {H : Hp} {Q : VK} {xs : List V} {i : Int} {v : V} (hσ : σ[0]? = some (some (.ref b))) (hb : H b = some (.lst xs)) (e : atI xs i = some v) (q : Q v H) :
    tOp (rIx K) (tVar 0) (tC (.int i)) σ H Q := ⟨.ref b, hσ, Or.inl ⟨b, xs, i, v, rfl, rfl, SqL.of hb, e, q⟩⟩
theorem xt_bag {H H' : Hp} {o : HO} (e : Xt (· = b) H H') : Xt (· = b) H (upd H' b o) := fun a u n h => by
  rw [upd_ne n]
  exact e a u n h
theorem bag_set {H : Hp} (bag : BagAt K H b bl ns) {c z k : Int} (h1 : 0 ≤ c) (h2 : 0 ≤ z) (h3 : z < 2147483647) (h4 : 0 ≤ k) : BagAt K (upd H b (.lst [.int c, .int z, .int k, .ref bl])) b bl ns := by
  refine ⟨⟨c, z, k, upd_same, h1, h2, h3, h4⟩, ?_, bag.pos⟩
  exact bag.cells.mono (xt_bag (Xt.refl _ _))
theorem mod_lt {i m : Int} (h : 0 < m) : 0 ≤ i % m ∧ i % m < m := ⟨Int.emod_nonneg _ (by omega), Int.emod_lt_of_pos _ h⟩
theorem take_c2 {σ : L2.St} {x2 x3 x4 x5 x6 : Option V} {H H' : Hp} {m : Int} {D0 : Ends} (hs : σ = [some (.ref b), some (.int m), x2, x3, x4, x5, x6]) (bag : BagAt K H' b bl ns) (m0 : 0 < m)
    (q : ∀ i, 0 ≤ i → i < m → D0.rt (.int i) H') : t_take_c2 K D0 σ H' := by
  subst hs
  obtain ⟨c, z, k, e, hc, hz0, hz1, hk⟩ := bag.ob
  -- first
  refine rd_bag (b := b) rfl e (show atI _ (1 : Int) = some (V.int z) from rfl) ?_
  refine Or.inl ⟨z, 1, rfl, rfl, Or.inl ⟨z + 1, 39373, rfl, rfl, Or.inr ⟨by decide, by decide⟩, Or.inl ⟨_, rfl, _, _, rfl, rfl, (show (0 : Int) < 1000000007 by decide), ?_⟩⟩⟩
  -- second
  have key : ∀ f : Int, 0 ≤ f → f < 1000000007 → (tSeq (tAsg (tOp (rI (fun _ j => 0 < j) fun i j => .int (i % j)) (tCB rInt1 (tCons (tOp rMul2 (tOp (rI (fun _ j => 0 < j) fun i j => .int (i % j)) (tCB rInt1 (tCons (tOp rMul2 (tVar 5) (tVar 5)) tNil)) (tC (.int 998244353))) (tC (.int 30011))) tNil)) (tC (.int 998244353))) (gName 6))
      (tSeq (tIfS (tTest (tOp (rI0 fun i j => .bl (decide (j < i))) (tVar 1) (tC (.int 1000000)))) (tRet (tOp (rI (fun _ j => 0 < j) fun i j => .int (i % j)) (tCB rInt1 (tCons (tOp (rAdd4 K) (tOp rMul2 (tVar 6) (tC (.int 1000000007))) (tVar 5)) tNil)) (tVar 1))) tNext)
      (tRet (tOp (rI (fun _ j => 0 < j) fun i j => .int (i % j)) (tCB rInt1 (tCons (tOp (rI CDiv fun i j => .int (i / j)) (tVar 6) (tC (.int 7))) tNil)) (tVar 1)))))
      D0 [some (.ref b), some (.int m), x2, x3, x4, some (.int f), x6] H' := by
    intro f f0 f1
    have g1 : 0 ≤ f * f % 998244353 ∧ f * f % 998244353 < 998244353 := mod_lt (by decide)
    refine ⟨_, rfl, _, rfl, Or.inl ⟨f, f, rfl, rfl, Or.inl ⟨by omega, by omega⟩, Or.inl ⟨_, rfl, _, _, rfl, rfl, (show (0 : Int) < 998244353 by decide), ?_⟩⟩⟩
    refine Or.inl ⟨f * f % 998244353, 30011, rfl, rfl, Or.inr ⟨by decide, by decide⟩, Or.inl ⟨_, rfl, _, _, rfl, rfl, (show (0 : Int) < 998244353 by decide), ?_⟩⟩
    refine ⟨_, rfl, _, _, rfl, rfl, _, rfl, ?_⟩
    refine ite2 (fun _ => ?_) (fun _ => ?_)
    · refine ⟨_, rfl, Or.inl ⟨_, 1000000007, rfl, rfl, Or.inr ⟨by decide, by decide⟩, ?_⟩⟩
      refine ⟨_, rfl, Or.inl ⟨_, _, rfl, rfl, Or.inl ⟨_, rfl, _, rfl, _, _, rfl, rfl, m0, ?_⟩⟩⟩
      exact q _ (mod_lt m0).1 (mod_lt m0).2
    · refine ⟨_, rfl, _, _, rfl, rfl, ⟨by decide, by decide⟩, Or.inl ⟨_, rfl, _, rfl, _, _, rfl, rfl, m0, ?_⟩⟩
      exact q _ (mod_lt m0).1 (mod_lt m0).2
  exact key _ (mod_lt (by decide)).1 (mod_lt (by decide)).2
theorem take_c1 {σ : L2.St} {x2 x3 : Option V} {H H' : Hp} {m : Int} {D0 : Ends} (hs : σ = [some (.ref b), some (.int m), x2, x3, none, none, none]) (xt : Xt (· = b) H H') (bag : BagAt K H' b bl ns) (m0 : 0 < m) (m1 : m < 1073741824)
    (q : ∀ i H', 0 ≤ i → i < m → Xt (· = b) H H' → BagAt K H' b bl ns → D0.rt (.int i) H') : t_take_c1 K D0 σ H' := by
  subst hs
  obtain ⟨c, z, k, e, hc, hz0, hz1, hk⟩ := bag.ob
  refine rd_bag (b := b) rfl e (show atI _ (0 : Int) = some (V.int c) from rfl) ?_
  refine ⟨_, _, rfl, rfl, _, rfl, ?_⟩
  refine ite2 (fun _ => ?_) (fun _ => ?_)
  · refine rd_bag (b := b) rfl e (show atI _ (0 : Int) = some (V.int c) from rfl) (Or.inl ⟨_, rfl, _, rfl, _, _, rfl, rfl, m0, ?_⟩)
    refine rd_bag (b := b) rfl e (show atI _ (0 : Int) = some (V.int c) from rfl) ⟨_, rfl, _, _, rfl, rfl, ⟨m0, m1⟩, ?_⟩
    refine ⟨_, rfl, b, _, 0, 0, rfl, rfl, e, rfl, _, rfl, ?_⟩
    exact q _ _ (mod_lt m0).1 (mod_lt m0).2 (xt_bag xt) (bag_set bag (Int.ediv_nonneg hc (by omega)) hz0 hz1 hk)
  · exact take_c2 (H := H) rfl bag m0 fun i h1 h2 => q i _ h1 h2 xt bag
theorem take_body {N : List Str} (hN : N.length = 7) : ∀ vs H Q E, spTake K vs H Q E → t_take K { nx := fun _ H' => Q .non H', rt := Q } (L2.start N vs) H := by
  rintro vs H Q E ⟨b, bl, ns, B, vs', ds, rfl, hl, hB, bag, fr, dv, ⟨m, rfl, m0, m1⟩, q⟩
  cases dv with
  | cons hd ht =>
    cases ht
    cases hd
    have hq : ∀ i H', 0 ≤ i → i < m → Xt (· = b) H H' → BagAt K H' b bl ns → Q (.int i) H' := fun i H' h1 h2 x bg => q _ H' (.int i) x bg ⟨m, i, rfl, rfl, h1, h2⟩ (.int i)
    have es : L2.start N [V.ref b, V.int m] = [some (.ref b), some (.int m), none, none, none, none, none] := by
      unfold L2.start
      rw [hN]
      rfl
    rw [es]
    obtain ⟨c, z, k, e, hc, hz0, hz1, hk⟩ := bag.ob
    have lb : SqL K H bl (ns.map V.int) := bag.cells.sq
    refine rd_bag (b := b) rfl e (show atI _ (0 : Int) = some (V.int c) from rfl) ?_
    refine ⟨rfl, _, rfl, ?_⟩
    refine ite2 (fun _ => ?_) (fun _ => ?_)
    · refine rd_bag (b := b) rfl e (show atI _ (2 : Int) = some (V.int k) from rfl) ?_
      refine rd_bag (b := b) rfl e (show atI _ (3 : Int) = some (V.ref bl) from rfl) ?_
      refine ⟨_, _, rfl, Or.inl ⟨_, lb, rfl⟩, _, _, rfl, rfl, _, rfl, ?_⟩
      -- the cell, in either way
      have go : ∀ x : Int, 0 ≤ x →
          (tSeq (tAugS (tVar 0) (tC (.int 2)) (tC (.int 1)) (rGetL K) (ipI fun i j => i + j) rSetL)
            (tSeq (tIfS (tTest (tOp (rI0 fun i j => .bl (decide (j ≤ i))) (tVar 2) (tC (.int 1000000000000000000)))) (tAsg (tVar 2) (gSub (tVar 0) (tC (.int 0)) rSetL)) tNext)
            (tSeq (tAsg (tOp (rAdd4 K) (tOp (rI (fun _ j => 0 < j) fun i j => .int (i % j)) (tCB rInt1 (tCons (tVar 2) tNil)) (tC (.int 2147483647))) (tOp rMul2 (tC (.int 7919)) (tOp (rIx K) (tVar 0) (tC (.int 2))))) (gName 3))
            (tAsg (tOp (rI (fun _ j => 0 < j) fun i j => .int (i % j)) (tCB rInt1 (tCons (tOp (rAdd4 K) (tOp rMul2 (tOp (rIx K) (tVar 0) (tC (.int 1))) (tC (.int 48271))) (tVar 3)) tNil)) (tC (.int 2147483647))) (gSub (tVar 0) (tC (.int 1)) rSetL)))))
          { nx := t_take_c1 K { nx := fun _ H' => Q .non H', rt := Q }, rt := Q } [some (.ref b), some (.int m), some (.int x), none, none, none, none] H := by
        intro x hx
        refine ⟨_, rfl, b, _, 2, V.int k, rfl, rfl, by decide, SqL.of e, rfl, _, _, rfl, rfl, b, _, 2, 2, rfl, rfl, e, rfl, ?_⟩
        have bag1 : BagAt K (upd H b (.lst [.int c, .int z, .int (k + 1), .ref bl])) b bl ns := bag_set bag hc hz0 hz1 (by omega)
        have xt1 : Xt (· = b) H (upd H b (.lst [.int c, .int z, .int (k + 1), .ref bl])) := xt_bag (Xt.refl _ _)
        have last : ∀ (H2 : Hp) (c2 : Int), 0 ≤ c2 → H2 b = some (.lst [.int c2, .int z, .int (k + 1), .ref bl]) → BagAt K H2 b bl ns → Xt (· = b) H H2 →
            (tSeq (tAsg (tOp (rAdd4 K) (tOp (rI (fun _ j => 0 < j) fun i j => .int (i % j)) (tCB rInt1 (tCons (tVar 2) tNil)) (tC (.int 2147483647))) (tOp rMul2 (tC (.int 7919)) (tOp (rIx K) (tVar 0) (tC (.int 2))))) (gName 3))
              (tAsg (tOp (rI (fun _ j => 0 < j) fun i j => .int (i % j)) (tCB rInt1 (tCons (tOp (rAdd4 K) (tOp rMul2 (tOp (rIx K) (tVar 0) (tC (.int 1))) (tC (.int 48271))) (tVar 3)) tNil)) (tC (.int 2147483647))) (gSub (tVar 0) (tC (.int 1)) rSetL)))
            { nx := t_take_c1 K { nx := fun _ H' => Q .non H', rt := Q }, rt := Q } [some (.ref b), some (.int m), some (.int x), none, none, none, none] H2 := by
          intro H2 c2 hc2 e2 bag2 xt2
          refine ⟨_, rfl, Or.inl ⟨_, rfl, _, _, rfl, rfl, (show (0 : Int) < 2147483647 by decide), ?_⟩⟩
          refine rd_bag (b := b) rfl e2 (show atI _ (2 : Int) = some (V.int (k + 1)) from rfl) ?_
          refine Or.inl ⟨7919, k + 1, rfl, rfl, Or.inl ⟨by decide, by decide⟩, Or.inl ⟨_, _, rfl, rfl, ?_⟩⟩
          refine rd_bag (b := b) rfl e2 (show atI _ (1 : Int) = some (V.int z) from rfl) ?_
          refine Or.inl ⟨z, 48271, rfl, rfl, Or.inr ⟨by decide, by decide⟩, _, rfl, Or.inl ⟨_, _, rfl, rfl, Or.inl ⟨_, rfl, _, _, rfl, rfl, (show (0 : Int) < 2147483647 by decide), ?_⟩⟩⟩
          refine ⟨_, rfl, b, _, 1, 1, rfl, rfl, e2, rfl, ?_⟩
          exact take_c1 rfl (xt_bag xt2) (bag_set bag2 hc2 (mod_lt (by decide)).1 (mod_lt (by decide)).2 (by omega)) m0 m1 hq
        refine ⟨_, rfl, _, _, rfl, rfl, _, rfl, ?_⟩
        refine ite2 (fun _ => ?_) (fun _ => ?_)
        · refine ⟨_, rfl, _, rfl, b, _, 0, 0, rfl, rfl, upd_same, rfl, ?_⟩
          exact last _ x hx upd_same (bag_set bag1 hx hz0 hz1 (by show (0 : Int) ≤ k + 1; omega)) (xt_bag xt1)
        · exact last _ c hc upd_same bag1 xt1
      refine ite2 (fun hlt => ?_) (fun _ => ?_)
      · have hlt' : k < (ns.length : Int) := by
          have := of_decide_eq_true hlt
          simpa using this
        have hx : (ns.map V.int)[k.toNat]? = some (V.int (ns[k.toNat]'(by omega))) := by
          rw [List.getElem?_map, List.getElem?_eq_getElem (by omega)]
          rfl
        refine rd_bag (b := b) rfl e (show atI _ (3 : Int) = some (V.ref bl) from rfl) ?_
        refine rd_bag (b := b) rfl e (show atI _ (2 : Int) = some (V.int k) from rfl) ?_
        refine Or.inl ⟨bl, _, k, _, rfl, rfl, lb, at_of (j := k.toNat) (by omega) hx, ?_⟩
        exact go _ (bag.pos _ (List.getElem_mem _))
      · exact go 0 (by decide)
    · exact take_c1 rfl (Xt.refl _ _) bag m0 m1 hq
end
end Lb

/-! LbU: texts of plain signs, drawing inside expressions, short rules for comprehensions. -/
namespace Lb
open PySem PySem.Spec PyProof.Rows L2
open Evl (Ex)
theorem szl {ds : List D} (h : Nat.ble ds.length sizeLine = true := by rfl) : ds.length ≤ sizeLine := Nat.le_of_ble_eq_true h
theorem szn {n : Nat} (h : n ≤ 100000) : n ≤ sizeLine := Nat.le_trans h (by decide)
theorem szn' {n : Nat} (h : n ≤ 100000) : n < sizeLine := Nat.lt_of_le_of_lt h (by decide)
/-- a text of plain signs -/
structure Plain (n : Nat) (x : Str) : Prop where
  len : x.length ≤ n
  asc : ∀ c ∈ x.cps.toList, c < 128
theorem Plain.mono {n m : Nat} {x : Str} (h : Plain n x) (l : n ≤ m) : Plain m x := ⟨Nat.le_trans h.len l, h.asc⟩
theorem Plain.app {n m : Nat} {x y : Str} (h : Plain n x) (g : Plain m y) : Plain (n + m) (x ++ y) := by
  refine ⟨?_, fun c hc => ?_⟩
  · rw [Str.length_append]
    exact Nat.add_le_add h.len g.len
  · rw [Str.cps_append, Array.toList_append] at hc
    rcases List.mem_append.mp hc with hc | hc
    · exact h.asc c hc
    · exact g.asc c hc
theorem Plain.cut {n : Nat} {x : Str} {lo hi : Option Int} (h : Plain n x) : Plain n (cutS x lo hi) := by
  refine ⟨?_, fun c hc => ?_⟩
  · have : (cutS x lo hi).length ≤ x.length := by
      simp [cutS, Str.length]
      omega
    exact Nat.le_trans this h.len
  · have h1 : c ∈ (x.cps.toList.drop (HT.sIx x.length 0 lo)).take (HT.sIx x.length x.length hi - HT.sIx x.length 0 lo) := by
      simpa [cutS] using hc
    exact h.asc c (List.mem_of_mem_drop (List.mem_of_mem_take h1))
theorem plain_sign {c : Nat} (h : c < 128) : Plain 1 ⟨#[c]⟩ := ⟨Nat.le_refl _, fun d hd => by
  have : d = c := by simpa using hd
  rw [this]
  exact h⟩
theorem plain_empty {n : Nat} : Plain n Str.empty := ⟨Nat.zero_le _, fun d hd => by simp [Str.empty] at hd⟩
theorem rep_list (z : Array Nat) : ∀ (n : Nat) (acc : Array Nat), ((List.replicate n z).foldl (· ++ ·) acc).toList = acc.toList ++ (List.replicate n z.toList).flatten
  | 0, acc => by simp
  | n + 1, acc => by
    rw [List.replicate_succ, List.foldl_cons, rep_list z n, List.replicate_succ, List.flatten_cons, Array.toList_append, List.append_assoc]
theorem Plain.rep {n : Nat} {x : Str} {k : Int} {m : Nat} (h : Plain n x) (hk : k.toNat ≤ m) (h1 : 1 ≤ m) :
    Plain (n * m) (if k < 1 then Str.empty else if (k == 1 || x.length == 0) = true then x else repS x k) := by
  split
  · exact plain_empty
  · split
    · exact h.mono (Nat.le_mul_of_pos_right _ h1)
    · have e : (repS x k).cps.toList = (List.replicate k.toNat x.cps.toList).flatten := by
        unfold repS
        rw [rep_list]
        simp
      refine ⟨?_, fun c hc => ?_⟩
      · have e2 : (repS x k).length = (repS x k).cps.toList.length := by simp [Str.length]
        rw [e2, e]
        have hf : ∀ j : Nat, (List.replicate j x.cps.toList).flatten.length = j * x.cps.toList.length := by
          intro j
          induction j with
          | zero => simp
          | succ j ih => rw [List.replicate_succ, List.flatten_cons, List.length_append, ih, Nat.succ_mul, Nat.add_comm]
        rw [hf]
        have : x.cps.toList.length ≤ n := by simpa [Str.length] using h.len
        calc k.toNat * x.cps.toList.length ≤ m * n := Nat.mul_le_mul hk this
          _ = n * m := Nat.mul_comm _ _
      · rw [e] at hc
        obtain ⟨l, hl, hc⟩ := List.mem_flatten.mp hc
        rw [(List.mem_replicate.mp hl).2] at hc
        exact h.asc c hc
theorem joinE : ∀ ys : List Str, (Txt.join Str.empty ys).cps.toList = (ys.map fun y => y.cps.toList).flatten := by
  intro ys
  have e := TL.tl_join Str.empty ys
  rw [← TL.join_eq] at e
  have key : ∀ l : List (List Nat), TL.joinL [] l = l.flatten := by
    intro l
    induction l with
    | nil => rfl
    | cons p r ih =>
      cases r with
      | nil => simp [TL.joinL]
      | cons q r => show p ++ ([] ++ TL.joinL [] (q :: r)) = _; rw [ih]; simp
  exact e.trans (key _)
theorem plain_joinE {n : Nat} {ys : List Str} (hl : ys.length ≤ n) (h : ∀ y ∈ ys, Plain 1 y) : Plain n (Txt.join Str.empty ys) := by
  have e := joinE ys
  refine ⟨?_, fun c hc => ?_⟩
  · have e2 : (Txt.join Str.empty ys).length = (Txt.join Str.empty ys).cps.toList.length := by simp [Str.length]
    rw [e2, e]
    refine Nat.le_trans ?_ hl
    clear e e2 hl
    induction ys with
    | nil => simp
    | cons y ys ih =>
      have h1 := (h y List.mem_cons_self).len
      have h2 := ih fun z hz => h z (List.mem_cons_of_mem _ hz)
      simp only [List.map_cons, List.flatten_cons, List.length_append, List.length_cons]
      have : y.cps.toList.length ≤ 1 := by simpa [Str.length] using h1
      omega
  · rw [e] at hc
    obtain ⟨l, hl, hc⟩ := List.mem_flatten.mp hc
    obtain ⟨y, hy, rfl⟩ := List.mem_map.mp hl
    exact (h y hy).asc c hc
theorem sum1 {ys : List Str} (h : ∀ y ∈ ys, Plain 1 y) : (ys.map (·.length)).sum ≤ ys.length := by
  induction ys with
  | nil => simp
  | cons y ys ih =>
    have h1 := (h y List.mem_cons_self).len
    have h2 := ih fun z hz => h z (List.mem_cons_of_mem _ hz)
    simp only [List.map_cons, List.sum_cons, List.length_cons]
    omega
/-! ### places -/
theorem atI_in {α : Type} {xs : List α} {i : Int} (h0 : 0 ≤ i) (h1 : i < xs.length) : ∃ x, atI xs i = some x ∧ x ∈ xs ∧ xs[i.toNat]? = some x := by
  have hl : i.toNat < xs.length := by omega
  have e : xs[i.toNat]? = some xs[i.toNat] := List.getElem?_eq_getElem hl
  have h2 := atI_nat e
  rw [Int.toNat_of_nonneg h0] at h2
  exact ⟨_, h2, List.getElem_mem _, e⟩
theorem cutD_from {ds : List D} {k : Int} (h0 : 0 ≤ k) (h1 : k ≤ ds.length) : cutD ds (some k) none = ds.drop k.toNat := by
  have e1 : HT.sIx ds.length 0 (some k) = k.toNat := by
    show (if k < 0 then _ else min k.toNat ds.length) = _
    rw [if_neg (by omega), Nat.min_eq_left (by omega)]
  unfold cutD
  rw [e1]
  exact List.take_of_length_le (by rw [List.length_drop]; exact Nat.le_refl _)
theorem cutD_to {ds : List D} {k : Int} (h0 : 0 ≤ k) : cutD ds none (some k) = ds.take k.toNat := by
  have e1 : HT.sIx ds.length ds.length (some k) = min k.toNat ds.length := by
    show (if k < 0 then _ else min k.toNat ds.length) = _
    rw [if_neg (by omega)]
  unfold cutD
  rw [e1, HT.sIx_none, List.drop_zero, Nat.sub_zero]
  by_cases h : k.toNat ≤ ds.length
  · rw [Nat.min_eq_left h]
  · rw [Nat.min_eq_right (by omega), List.take_length, List.take_of_length_le (by omega)]
/-! ### short rules -/
section
variable {W : Wd} {ρ : List (Option D)} {S : D → Prop} {te : TE} {E : XK} {b bl : Addr} {ns : List Int}
theorem iw_imp {wi : TI} {P Q : List D → Prop} (h : Iw W wi ρ P) (i : ∀ l, P l → Q l) : Iw W wi ρ Q := fun σ H e hi Rk q =>
  h σ H e hi Rk fun J H2 items r i2 d p => q J H2 items r i2 d (i _ p)
theorem ev_take (g : Bagged W b bl ns) {i : Nat} (hi : ρ[i]? = some (some (.raw (.ref b))))
    (h : Ev W te ρ fun d => ∃ m : Int, d = .int m ∧ 0 < m ∧ m < 1073741824 ∧ ∀ k : Int, 0 ≤ k → k < m → S (.int k)) : Ev W (tCall (spTake W.K) [] E (tCons (tVar i) (tCons te tNil))) ρ S :=
  ev_callB g (ea_cons (ev_var hi (ea_cons (ev_imp h fun d ⟨m, e, h0, h1, s⟩ => ea_nil ⟨[d], rfl, rfl, ⟨m, by rw [e], h0, h1⟩, fun r ⟨m', k, e1, e2, k0, k1⟩ => by
    subst e
    cases e1
    rw [e2]
    exact s k k0 k1⟩))))
theorem ev_takeC (g : Bagged W b bl ns) {i : Nat} {m : Int} (hi : ρ[i]? = some (some (.raw (.ref b)))) (h0 : 0 < m) (h1 : m < 1073741824) (h : ∀ k : Int, 0 ≤ k → k < m → S (.int k)) :
    Ev W (tCall (spTake W.K) [] E (tCons (tVar i) (tCons (tC (.int m)) tNil))) ρ S := ev_take g hi (ev_int ⟨m, rfl, h0, h1, h⟩)
/-- each one made fulfils P -/
theorem ev_lcP {wi : TI} {g : TG} {vs ls : List Nat} (hls : ∀ j ∈ ls, j ∈ vs)
    (h : Iw W wi ρ fun items => items.length < sizeLine ∧ ∃ P : D → Prop, (∀ L, W.Fr L → ∀ (i : Nat) (d : D), items[i]? = some d → Tg (W.plus L) g ls (wipeD ρ vs) d fun ρ' => Ev (W.plus L) te ρ' P) ∧
      ∀ out : List D, out.length = items.length → (∀ e ∈ out, P e) → S (.lst out)) : Ev W (tLc wi g tYes te vs) ρ S := by
  refine ev_lc hls (iw_imp h fun items ⟨hz, P, st, dn⟩ => ⟨hz, fun i out => out.length = i ∧ ∀ e ∈ out, P e, ⟨rfl, fun e he => by simp at he⟩, ?_, fun out ⟨h1, h2⟩ => dn out h1 h2⟩)
  rintro L fr i d out hd ⟨h1, h2⟩
  intro σ H v sl hi dv Q q
  refine st L fr i d hd σ H v sl hi dv Q fun σ' ρ' e' a n s => q σ' ρ' e' a n (ts_yes ((if_pos rfl).mpr (ev_imp s fun e pe => ⟨by simp [h1], fun x hx => ?_⟩)))
  rcases List.mem_append.mp hx with hx | hx
  · exact h2 x hx
  · rw [List.mem_singleton.mp hx]
    exact pe
/-- the i-th one made fulfils P i -/
theorem ev_lcI {wi : TI} {g : TG} {vs ls : List Nat} (hls : ∀ j ∈ ls, j ∈ vs)
    (h : Iw W wi ρ fun items => items.length < sizeLine ∧ ∃ f : D → D, (∀ L, W.Fr L → ∀ (i : Nat) (d : D), items[i]? = some d → Tg (W.plus L) g ls (wipeD ρ vs) d fun ρ' => Ev (W.plus L) te ρ' (· = f d)) ∧
      S (.lst (items.map f))) : Ev W (tLc wi g tYes te vs) ρ S := by
  refine ev_lc hls (iw_imp h fun items ⟨hz, f, st, dn⟩ => ⟨hz, fun i out => out = (items.take i).map f, rfl, ?_, fun out h1 => by rw [h1, List.take_length]; exact dn⟩)
  rintro L fr i d out hd rfl
  intro σ H v sl hi dv Q q
  refine st L fr i d hd σ H v sl hi dv Q fun σ' ρ' e' a n s => q σ' ρ' e' a n (ts_yes ((if_pos rfl).mpr (ev_imp s fun e pe => ?_)))
  show List.map f (List.take i items) ++ [e] = List.map f (List.take (i + 1) items)
  rw [pe, List.take_succ, hd]
  simp
/-- texts -/
theorem strs_ex {P : Str → Prop} : ∀ {ds : List D}, (∀ d ∈ ds, ∃ x, d = .str x ∧ P x) → ∃ ys : List Str, ds = ys.map D.str ∧ ∀ y ∈ ys, P y
  | [], _ => ⟨[], rfl, fun _ h => by simp at h⟩
  | d :: ds, h => by
    obtain ⟨x, e, p⟩ := h d List.mem_cons_self
    obtain ⟨ys, e2, p2⟩ := strs_ex fun z hz => h z (List.mem_cons_of_mem _ hz)
    refine ⟨x :: ys, by rw [e, e2]; rfl, fun y hy => ?_⟩
    rcases List.mem_cons.mp hy with rfl | hy
    · exact p
    · exact p2 y hy
end
/-- a text's signs, all plain; decided -/
def plainB (n : Nat) (x : Str) : Bool := decide (x.length ≤ n) && x.cps.toList.all fun c => decide (c < 128)
theorem plain_of {n : Nat} {x : Str} (h : plainB n x = true) : Plain n x := by
  unfold plainB at h
  simp only [Bool.and_eq_true, decide_eq_true_eq, List.all_eq_true] at h
  exact ⟨h.1, h.2⟩
end Lb

/-! LbV: the law's def at the end. -/
namespace Lb
open PySem PySem.Spec PyProof.Rows L2
open Evl (Ex)
theorem end_mk {P : Program} {w : World} {K : PySem.W.Frag} {mg : Str → Option Value} {fa : Addr} {x p : Str} {st : Stmt} {k : Nat} {sp : Sp} (hfa : mg x = some (.ref fa)) (h : Has K mg x st) (hb : BindsN x st [p])
    (F : ∀ (base : Heap) (f : Addr) (fd : FuncData), Fun K x x st f fd → FnG P w K mg base CX0 k f fd [p] sp) :
    ∃ fd : FuncData, (∀ (s : Shared) (u : Value), BindsTo s fd ⟨[u], []⟩ [(p, u)]) ∧ ∀ base : Heap, K.In base → base.Ns mainGlobals mg → FnG P w K mg base CX0 k fa fd [p] sp := by
  obtain ⟨f, fd, F0, e⟩ := h
  have e1 := hfa.symm.trans e
  cases e1
  obtain ⟨oc, od, kV, doc, pm, an, cdv, ct, osl, e2, lk, hcd⟩ := id F0.ex
  refine ⟨fd, fun s u => ?_, fun base _ _ => F base _ _ F0⟩
  subst e2
  exact .of_eq (hb kV doc pm an cdv ct [u] rfl)
/-- a law that is handed a script of at most 63 ints and answers True -/
def spEnd (K : PySem.W.Frag) : Sp := fun vs H Q _ => ∃ (a : Addr) (ns : List Int), vs = [.ref a] ∧ SqL K H a (ns.map V.int) ∧ ns.length ≤ 63 ∧ ∀ H', Q (.bl true) H'
theorem spEnd_len {K : PySem.W.Frag} : ∀ vs H Q E, spEnd K vs H Q E → vs.length = 1 := fun vs H Q E ⟨a, ns, e, _⟩ => by rw [e]; rfl
theorem walk63 {k : Nat} {x : Str} {l : PySem.W.OpenLaw} {q : Program} {loose : List Str} {XP : (Str → Option Value) → Heap → Prop} {YP : World → Heap → Prop} {d : DefRec} {K : Params → PySem.W.Frag} (hk : k ≤ 100) (hn : l.most = some 63) (hdf : d.params.defaults = [])
    (hY : ∀ (w : World) (h : Heap), YP w h → (K w.params).In h)
    (F : ∀ (w : World) (mg : Str → Option Value) (fa : Addr) (h : Heap), (K w.params).In h → h.Ns mainGlobals mg → mg d.name = some (.ref fa) →
      ∃ fd : FuncData, (∀ (s : Shared) (u : Value), BindsTo s fd ⟨[u], []⟩ [(x, u)]) ∧ ∀ base : Heap, (K w.params).In base → base.Ns mainGlobals mg → FnG l.prog w (K w.params) mg base CX0 k fa fd [x] (spEnd (K w.params))) :
    PySem.W.WalkO q loose XP YP l.row.toRowW d [] (fun f vs => PySem.call f vs) :=
  walk_ofG (n := 63) (k := k) (x := x) (sp := fun w => spEnd (K w.params)) hn (by decide) hdf (Room.mono (k := 100) ⟨rfl, by decide, by decide⟩ hk) hY F (fun _ _ a ns hl _ hS => ⟨a, ns, rfl, hS, hl, fun _ => rfl⟩)
end Lb

namespace K12
open PySem PySem.Spec PyProof.Rows L2 Lb
open Evl (Ex)
/-! ### the mirror -/
def isInt : D → Bool
  | .int _ => true
  | _ => false
def letters : Str := "abcdefghijklmnopqrstuvwxyz"
def isNameS (x : Str) : Bool := decide (1 ≤ x.length ∧ x.length ≤ 8) && x.cps.toList.all fun c => decide (c ∈ letters.cps.toList)
def isName : D → Bool
  | .str x => isNameS x
  | _ => false
def isNum (m : Int) : D → Bool
  | .int i => decide (0 ≤ i ∧ i < m)
  | _ => false
/-- what the law draws -/
structure Good (d : D) : Prop where
  ty : ∃ T, d.ty = some T
  str : ∀ x, d = .str x → Plain 100 x
  sh : d.sh = true
  sw : d.py.showable = true
  dp : d.py.depth ≤ 64
  sz : d.py.shown.length ≤ sizeLine
/-! ### promises -/
def spIsInteger (K : PySem.W.Frag) : Sp := DSp K 1 (fun ds => ∃ d, ds = [d] ∧ Good d) fun ds r => ∃ d, ds = [d] ∧ r = .bl (isInt d)
def spIsName (K : PySem.W.Frag) : Sp := DSp K 1 (fun ds => ∃ d, ds = [d] ∧ Good d) fun ds r => ∃ d, ds = [d] ∧ r = .bl (isName d)
def spIsNumber (K : PySem.W.Frag) : Sp := DSp K 2 (fun ds => ∃ m d, ds = [.int m, d] ∧ Good d) fun ds r => ∃ m d, ds = [.int m, d] ∧ r = .bl (isNum m d)
def spAlike (K : PySem.W.Frag) : Sp := DSp K 2 (fun ds => ∃ bs : List Bool, ds = [.lst (bs.map D.bl), .lst (bs.map D.bl)] ∧ bs.length = 3) fun _ r => r = .bl true
def spLabels (K : PySem.W.Frag) : Sp := BSp K 1 (fun es => es = [.int 4]) fun _ r => ∃ ys : List Str, r = .lst (ys.map D.str) ∧ ys.length = 4 ∧ ∀ y ∈ ys, Plain 40 y
def spOdd (K : PySem.W.Frag) : Sp := BSp K 1 (fun es => ∃ y, es = [.str y] ∧ Plain 40 y) fun _ r => Good r
def spOwn (K : PySem.W.Frag) : Sp := DSp K 2 (fun ds => ∃ m d, ds = [d, .int m] ∧ Good d) fun ds r => ∃ m d, ds = [d, .int m] ∧ r = .lst [.bl (isInt d), .bl (isName d), .bl (isNum m d)]
def spLaw (K : PySem.W.Frag) : Sp := fun vs H Q _ => ∃ (a : Addr) (ns : List Int), vs = [.ref a] ∧ SqL K H a (ns.map V.int) ∧ ns.length ≤ 63 ∧ ∀ H', Q (.bl true) H'
def top (i : Nat) : Stmt := PySem.Challenge.pw_landedback_k12_kinds_known.main.body.getD i (.Pass ⟨0, 0, 0, 0⟩)
abbrev s_F_is_integer : Stmt := top 2
abbrev N_F_is_integer : List Str := ["thing"]
theorem sc_F_is_integer : FnScope N_F_is_integer ["thing"] (defScope s_F_is_integer) := ⟨rfl, rfl, rfl, by decide +kernel, rfl, by decide +kernel, by decide +kernel⟩
theorem bn_F_is_integer : BindsN "is_integer" s_F_is_integer ["thing"] := fun _ _ _ _ _ _ us hl => match us, hl with | [_], _ => rfl
abbrev s_F_is_name : Stmt := top 3
abbrev N_F_is_name : List Str := ["thing", "sign"]
theorem sc_F_is_name : FnScope N_F_is_name ["thing"] (defScope s_F_is_name) := ⟨rfl, rfl, rfl, by decide +kernel, rfl, by decide +kernel, by decide +kernel⟩
theorem bn_F_is_name : BindsN "is_name" s_F_is_name ["thing"] := fun _ _ _ _ _ _ us hl => match us, hl with | [_], _ => rfl
abbrev s_F_is_number : Stmt := top 4
abbrev N_F_is_number : List Str := ["many", "thing"]
theorem sc_F_is_number : FnScope N_F_is_number ["many", "thing"] (defScope s_F_is_number) := ⟨rfl, rfl, rfl, by decide +kernel, rfl, by decide +kernel, by decide +kernel⟩
theorem bn_F_is_number : BindsN "is_number" s_F_is_number ["many", "thing"] := fun _ _ _ _ _ _ us hl => match us, hl with | [_, _], _ => rfl
abbrev s_F_law_bag : Stmt := top 6
abbrev N_F_law_bag : List Str := ["_law_script", "_law_cell"]
theorem sc_F_law_bag : FnScope N_F_law_bag ["_law_script"] (defScope s_F_law_bag) := ⟨rfl, rfl, rfl, by decide +kernel, rfl, by decide +kernel, by decide +kernel⟩
theorem bn_F_law_bag : BindsN "_law_bag" s_F_law_bag ["_law_script"] := fun _ _ _ _ _ _ us hl => match us, hl with | [_], _ => rfl
abbrev s_F_law_take : Stmt := top 7
abbrev N_F_law_take : List Str := ["_law_bag_here", "_law_many", "_law_cell", "_law_more", "_law_drawn", "_law_first", "_law_second"]
theorem sc_F_law_take : FnScope N_F_law_take ["_law_bag_here", "_law_many"] (defScope s_F_law_take) := ⟨rfl, rfl, rfl, by decide +kernel, rfl, by decide +kernel, by decide +kernel⟩
theorem bn_F_law_take : BindsN "_law_take" s_F_law_take ["_law_bag_here", "_law_many"] := fun _ _ _ _ _ _ us hl => match us, hl with | [_, _], _ => rfl
abbrev s_F_law_alike : Stmt := top 8
abbrev N_F_law_alike : List Str := ["_law_found", "_law_due"]
theorem sc_F_law_alike : FnScope N_F_law_alike ["_law_found", "_law_due"] (defScope s_F_law_alike) := ⟨rfl, rfl, rfl, by decide +kernel, rfl, by decide +kernel, by decide +kernel⟩
theorem bn_F_law_alike : BindsN "_law_alike" s_F_law_alike ["_law_found", "_law_due"] := fun _ _ _ _ _ _ us hl => match us, hl with | [_, _], _ => rfl
abbrev s_F_law_labels : Stmt := top 9
abbrev N_F_law_labels : List Str := ["_law_bag_here", "_law_many", "_law_letters", "_law_menu", "_law_way", "_law_turn", "_law_stem", "_law_at", "_law_far", "_law_some", "_law_k"]
theorem sc_F_law_labels : FnScope N_F_law_labels ["_law_bag_here", "_law_many"] (defScope s_F_law_labels) := ⟨rfl, rfl, rfl, by decide +kernel, rfl, by decide +kernel, by decide +kernel⟩
theorem bn_F_law_labels : BindsN "_law_labels" s_F_law_labels ["_law_bag_here", "_law_many"] := fun _ _ _ _ _ _ us hl => match us, hl with | [_, _], _ => rfl
abbrev s_F_law_odd : Stmt := top 10
abbrev N_F_law_odd : List Str := ["_law_bag_here", "_law_label", "_law_at", "_law_sign", "_law_some"]
theorem sc_F_law_odd : FnScope N_F_law_odd ["_law_bag_here", "_law_label"] (defScope s_F_law_odd) := ⟨rfl, rfl, rfl, by decide +kernel, rfl, by decide +kernel, by decide +kernel⟩
theorem bn_F_law_odd : BindsN "_law_odd" s_F_law_odd ["_law_bag_here", "_law_label"] := fun _ _ _ _ _ _ us hl => match us, hl with | [_, _], _ => rfl
abbrev s_F_law_own : Stmt := top 11
abbrev N_F_law_own : List Str := ["_law_thing", "_law_many", "_law_whole", "_law_spelt", "_law_sign"]
theorem sc_F_law_own : FnScope N_F_law_own ["_law_thing", "_law_many"] (defScope s_F_law_own) := ⟨rfl, rfl, rfl, by decide +kernel, rfl, by decide +kernel, by decide +kernel⟩
theorem bn_F_law_own : BindsN "_law_own" s_F_law_own ["_law_thing", "_law_many"] := fun _ _ _ _ _ _ us hl => match us, hl with | [_, _], _ => rfl
abbrev s_F_law : Stmt := top 12
abbrev N_F_law : List Str := ["_law_script", "_law_bag_here", "_law_labels_here", "_law_rows", "_law_thing", "_law_many", "_law_shown", "_law_found", "_law_k"]
theorem sc_F_law : FnScope N_F_law ["_law_script"] (defScope s_F_law) := ⟨rfl, rfl, rfl, by decide +kernel, rfl, by decide +kernel, by decide +kernel⟩
theorem bn_F_law : BindsN "law" s_F_law ["_law_script"] := fun _ _ _ _ _ _ us hl => match us, hl with | [_], _ => rfl
structure Tx (K : PySem.W.Frag) (mg : Str → Option Value) : Prop where
  h_F_is_integer : Has K mg "is_integer" s_F_is_integer
  h_F_is_name : Has K mg "is_name" s_F_is_name
  h_F_is_number : Has K mg "is_number" s_F_is_number
  h_F_law_bag : Has K mg "_law_bag" s_F_law_bag
  h_F_law_take : Has K mg "_law_take" s_F_law_take
  h_F_law_alike : Has K mg "_law_alike" s_F_law_alike
  h_F_law_labels : Has K mg "_law_labels" s_F_law_labels
  h_F_law_odd : Has K mg "_law_odd" s_F_law_odd
  h_F_law_own : Has K mg "_law_own" s_F_law_own
  h_F_law : Has K mg "law" s_F_law
  n_abs : mg "abs" = none
  n_all : mg "all" = none
  n_bool : mg "bool" = none
  n_int : mg "int" = none
  n_isinstance : mg "isinstance" = none
  n_len : mg "len" = none
  n_range : mg "range" = none
  n_repr : mg "repr" = none
  n_str : mg "str" = none
  x_LETTERS : ∃ t, mg "LETTERS" = some (.str "abcdefghijklmnopqrstuvwxyz" t)
section
variable {P : Program} {w : World} {K : PySem.W.Frag} {mg : Str → Option Value} {base : Heap}
def t_F_is_integer (K : PySem.W.Frag) : TS :=
    (tRet (tAndV (tCB (rIsi K) (tCons (tVar 0) (tCons (tC (.ty "int")) tNil))) (tNotV (tCB (rIsi K) (tCons (tVar 0) (tCons (tC (.ty "bool")) tNil))))))
theorem der_F_is_integer (T : Tx K mg)  : Der P w K mg base N_F_is_integer "is_integer" s_F_is_integer 0 (t_F_is_integer K) := by
  intro f cdv A outer s H E hr
  exact (pss_one (ps_ret (pe_and (pe_callB call_isi (by rfl) T.n_isinstance (by decide +kernel) (pa_cons (pv 0) (pa_cons (pe_bltn (v := .ty "int") (by rfl) T.n_int (by decide +kernel) rfl) pa_nil))) (pe_one (pe_not (pe_callB call_isi (by rfl) T.n_isinstance (by decide +kernel) (pa_cons (pv 0) (pa_cons (pe_bltn (v := .ty "bool") (by rfl) T.n_bool (by decide +kernel) rfl) pa_nil))))))))
def t_F_is_name (K : PySem.W.Frag) : TS :=
    (tRet (tAndV (tCB (rIsi K) (tCons (tVar 0) (tCons (tC (.ty "str")) tNil))) (tAndV (tChain (rI0 fun i j => .bl (decide (i ≤ j))) (rI0 fun i j => .bl (decide (i ≤ j))) (tC (.int 1)) (tCB (rLen K) (tCons (tVar 0) tNil)) (tC (.int 8))) (tCB (rAll K) (tCons (tLc (iStr (tVar 0)) (gName 1) tYes (tOp rInS1 (tVar 1) (tC (.str "abcdefghijklmnopqrstuvwxyz"))) [1]) tNil)))))
theorem der_F_is_name (T : Tx K mg)  : Der P w K mg base N_F_is_name "is_name" s_F_is_name 0 (t_F_is_name K) := by
  intro f cdv A outer s H E hr
  obtain ⟨tk_LETTERS, c_LETTERS⟩ := T.x_LETTERS
  exact (pss_one (ps_ret (pe_and (pe_callB call_isi (by rfl) T.n_isinstance (by decide +kernel) (pa_cons (pv 0) (pa_cons (pe_bltn (v := .ty "str") (by rfl) T.n_str (by decide +kernel) rfl) pa_nil))) (pe_and (pe_chain op_le op_le pe_int (pe_callB call_len (by rfl) T.n_len (by decide +kernel) (pa_cons (pv 0) pa_nil)) pe_int) (pe_one (pe_callB (cr_all rfl) (by rfl) T.n_all (by decide +kernel) (pa_cons (pe_lc (own := [("sign", 1)]) (by rfl) sc_F_is_name.nd (pi_str (pv 0)) (blkOk_by (own := [("sign", 1)]) (N := N_F_is_name) (sc := defScope s_F_is_name) (by decide +kernel)) (fun _ _ _ _ _ => (pg_name (i := 1) sc_F_is_name.nd rfl (Or.inl rfl))) (fun _ _ _ _ _ => pts_nil) (fun _ _ _ _ _ => (pe_cmpR op_in_sign (pv 1) (pe_glob (v := .str "abcdefghijklmnopqrstuvwxyz") (by rfl) c_LETTERS ⟨_, rfl⟩) rfl))) pa_nil)))))))
def t_F_is_number (K : PySem.W.Frag) : TS :=
    (tRet (tAndV (tCall (spIsInteger K) [] E0 (tCons (tVar 1) tNil)) (tChain (rI0 fun i j => .bl (decide (i ≤ j))) (rI0 fun i j => .bl (decide (i < j))) (tC (.int 0)) (tVar 1) (tVar 0))))
theorem der_F_is_number (T : Tx K mg) (d_F_is_integer : Def P w K mg base "is_integer" 1 ["thing"] (spIsInteger K)) : Der P w K mg base N_F_is_number "is_number" s_F_is_number 1 (t_F_is_number K) := by
  intro f cdv A outer s H E hr
  exact (pss_one (ps_ret (pe_and (pe_def d_F_is_integer  hr (by decide) (by rfl) (pa_cons (pv 1) pa_nil)) (pe_one (pe_chain op_le op_lt pe_int (pv 1) (pv 0))))))
def t_F_law_bag (K : PySem.W.Frag) : TS :=
    (tRet (tLst (tCons (tC (.int 0)) (tCons (tC (.int 1234567891)) (tCons (tC (.int 0)) (tCons (tLc (iList K (tSl (rSl3 K) (tVar 0) tNoPart (tPart (tC (.int 63))))) (gName 1) tYes (tCB rAbs (tCons (tVar 1) tNil)) [1]) tNil))))))
theorem der_F_law_bag (T : Tx K mg)  : Der P w K mg base N_F_law_bag "_law_bag" s_F_law_bag 0 (t_F_law_bag K) := by
  intro f cdv A outer s H E hr
  exact (pss_one (ps_ret (pe_lst (pa_cons pe_int (pa_cons pe_int (pa_cons pe_int (pa_cons (pe_lc (own := [("_law_cell", 1)]) (by rfl) sc_F_law_bag.nd (pi_list (pe_slice sl3 (pv 0) po_none (po_some pe_int))) (blkOk_by (own := [("_law_cell", 1)]) (N := N_F_law_bag) (sc := defScope s_F_law_bag) (by decide +kernel)) (fun _ _ _ _ _ => (pg_name (i := 1) sc_F_law_bag.nd rfl (Or.inl rfl))) (fun _ _ _ _ _ => pts_nil) (fun _ _ _ _ _ => (pe_callB call_abs (by rfl) T.n_abs (by decide +kernel) (pa_cons (pv 1) pa_nil)))) pa_nil)))))))
def t_F_law_take_c2 (K : PySem.W.Frag) : TS :=
    (tSeq (tAsg (tOp (rI (fun _ j => 0 < j) fun i j => .int (i % j)) (tCB rInt1 (tCons (tOp rMul2 (tOp (rAdd4 K) (tOp (rIx K) (tVar 0) (tC (.int 1))) (tC (.int 1))) (tC (.int 39373))) tNil)) (tC (.int 1000000007))) (gName 5))
    (tSeq (tAsg (tOp (rI (fun _ j => 0 < j) fun i j => .int (i % j)) (tCB rInt1 (tCons (tOp rMul2 (tOp (rI (fun _ j => 0 < j) fun i j => .int (i % j)) (tCB rInt1 (tCons (tOp rMul2 (tVar 5) (tVar 5)) tNil)) (tC (.int 998244353))) (tC (.int 30011))) tNil)) (tC (.int 998244353))) (gName 6))
    (tSeq (tIfS (tTest (tOp (rI0 fun i j => .bl (decide (j < i))) (tVar 1) (tC (.int 1000000)))) (tRet (tOp (rI (fun _ j => 0 < j) fun i j => .int (i % j)) (tCB rInt1 (tCons (tOp (rAdd4 K) (tOp rMul2 (tVar 6) (tC (.int 1000000007))) (tVar 5)) tNil)) (tVar 1))) tNext)
    (tRet (tOp (rI (fun _ j => 0 < j) fun i j => .int (i % j)) (tCB rInt1 (tCons (tOp (rI CDiv fun i j => .int (i / j)) (tVar 6) (tC (.int 7))) tNil)) (tVar 1))))))
def t_F_law_take_c1 (K : PySem.W.Frag) : TS :=
    (tSeq (tIfS (tTest (tOp (rI0 fun i j => .bl (decide (j < i))) (tOp (rIx K) (tVar 0) (tC (.int 0))) (tC (.int 0)))) (tSeq (tAsg (tOp (rI (fun _ j => 0 < j) fun i j => .int (i % j)) (tCB rInt1 (tCons (tOp (rIx K) (tVar 0) (tC (.int 0))) tNil)) (tVar 1)) (gName 4))
    (tSeq (tAsg (tOp (rI CDiv fun i j => .int (i / j)) (tOp (rIx K) (tVar 0) (tC (.int 0))) (tVar 1)) (gSub (tVar 0) (tC (.int 0)) rSetL))
    (tRet (tVar 4)))) tNext)
    (t_F_law_take_c2 K))
def t_F_law_take (K : PySem.W.Frag) : TS :=
    (tSeq (tIfS (tTest (tOp rEq (tOp (rIx K) (tVar 0) (tC (.int 0))) (tC (.int 0)))) (tSeq (tAsg (tC (.int 0)) (gName 2))
    (tSeq (tIfS (tTest (tOp (rI0 fun i j => .bl (decide (i < j))) (tOp (rIx K) (tVar 0) (tC (.int 2))) (tCB (rLen K) (tCons (tOp (rIx K) (tVar 0) (tC (.int 3))) tNil)))) (tAsg (tOp (rIx K) (tOp (rIx K) (tVar 0) (tC (.int 3))) (tOp (rIx K) (tVar 0) (tC (.int 2)))) (gName 2)) tNext)
    (tSeq (tAugS (tVar 0) (tC (.int 2)) (tC (.int 1)) (rGetL K) (ipI fun i j => i + j) rSetL)
    (tSeq (tIfS (tTest (tOp (rI0 fun i j => .bl (decide (j ≤ i))) (tVar 2) (tC (.int 1000000000000000000)))) (tAsg (tVar 2) (gSub (tVar 0) (tC (.int 0)) rSetL)) tNext)
    (tSeq (tAsg (tOp (rAdd4 K) (tOp (rI (fun _ j => 0 < j) fun i j => .int (i % j)) (tCB rInt1 (tCons (tVar 2) tNil)) (tC (.int 2147483647))) (tOp rMul2 (tC (.int 7919)) (tOp (rIx K) (tVar 0) (tC (.int 2))))) (gName 3))
    (tAsg (tOp (rI (fun _ j => 0 < j) fun i j => .int (i % j)) (tCB rInt1 (tCons (tOp (rAdd4 K) (tOp rMul2 (tOp (rIx K) (tVar 0) (tC (.int 1))) (tC (.int 48271))) (tVar 3)) tNil)) (tC (.int 2147483647))) (gSub (tVar 0) (tC (.int 1)) rSetL))))))) tNext)
    (t_F_law_take_c1 K))
theorem der_F_law_take (T : Tx K mg)  : Der P w K mg base N_F_law_take "_law_take" s_F_law_take 0 (t_F_law_take K) := by
  intro f cdv A outer s H E hr
  exact (pss_cons (ps_if (pt_cmpR op_eq (pe_ix ix_seq (pv 0) pe_int (fun _ _ => rfl)) pe_int (nomark _)) (pss_cons (ps_set (i := 2) sc_F_law_take.nd rfl (Or.inl rfl) pe_int)
      (pss_cons (ps_if (pt_cmpR op_lt (pe_ix ix_seq (pv 0) pe_int (fun _ _ => rfl)) (pe_callB call_len (by rfl) T.n_len (by decide +kernel) (pa_cons (pe_ix ix_seq (pv 0) pe_int (fun _ _ => rfl)) pa_nil)) (nomark _)) (pss_one (ps_set (i := 2) sc_F_law_take.nd rfl (Or.inl rfl) (pe_ix ix_seq (pe_ix ix_seq (pv 0) pe_int (fun _ _ => rfl)) (pe_ix ix_seq (pv 0) pe_int (fun _ _ => rfl)) (fun _ _ => rfl)))) pss_nil)
      (pss_cons (ps_augS (pv 0) pe_int get_list pe_int ip_add set_list)
      (pss_cons (ps_if (pt_cmpR op_ge (pv 2) pe_int (nomark _)) (pss_one (ps_asg (pv 2) (pg_sub (pv 0) pe_int set_list))) pss_nil)
      (pss_cons (ps_set (i := 3) sc_F_law_take.nd rfl (Or.inl rfl) (pe_op oAdd (pe_op op_mod (pe_callTy call_int1 (by rfl) T.n_int (by decide +kernel) (pa_cons (pv 2) pa_nil)) pe_int) (pe_op oMul pe_int (pe_ix ix_seq (pv 0) pe_int (fun _ _ => rfl)))))
      (pss_one (ps_asg (pe_op op_mod (pe_callTy call_int1 (by rfl) T.n_int (by decide +kernel) (pa_cons (pe_op oAdd (pe_op oMul (pe_ix ix_seq (pv 0) pe_int (fun _ _ => rfl)) pe_int) (pv 3)) pa_nil)) pe_int) (pg_sub (pv 0) pe_int set_list)))))))) pss_nil)
      (pss_cons (ps_if (pt_cmpR op_gt (pe_ix ix_seq (pv 0) pe_int (fun _ _ => rfl)) pe_int (nomark _)) (pss_cons (ps_set (i := 4) sc_F_law_take.nd rfl (Or.inl rfl) (pe_op op_mod (pe_callTy call_int1 (by rfl) T.n_int (by decide +kernel) (pa_cons (pe_ix ix_seq (pv 0) pe_int (fun _ _ => rfl)) pa_nil)) (pv 1)))
      (pss_cons (ps_asg (pe_op op_fdiv (pe_ix ix_seq (pv 0) pe_int (fun _ _ => rfl)) (pv 1)) (pg_sub (pv 0) pe_int set_list))
      (pss_one (ps_ret (pv 4))))) pss_nil)
      (pss_cons (ps_set (i := 5) sc_F_law_take.nd rfl (Or.inl rfl) (pe_op op_mod (pe_callTy call_int1 (by rfl) T.n_int (by decide +kernel) (pa_cons (pe_op oMul (pe_op oAdd (pe_ix ix_seq (pv 0) pe_int (fun _ _ => rfl)) pe_int) pe_int) pa_nil)) pe_int))
      (pss_cons (ps_set (i := 6) sc_F_law_take.nd rfl (Or.inl rfl) (pe_op op_mod (pe_callTy call_int1 (by rfl) T.n_int (by decide +kernel) (pa_cons (pe_op oMul (pe_op op_mod (pe_callTy call_int1 (by rfl) T.n_int (by decide +kernel) (pa_cons (pe_op oMul (pv 5) (pv 5)) pa_nil)) pe_int) pe_int) pa_nil)) pe_int))
      (pss_cons (ps_if (pt_cmpR op_gt (pv 1) pe_int (nomark _)) (pss_one (ps_ret (pe_op op_mod (pe_callTy call_int1 (by rfl) T.n_int (by decide +kernel) (pa_cons (pe_op oAdd (pe_op oMul (pv 6) pe_int) (pv 5)) pa_nil)) (pv 1)))) pss_nil)
      (pss_one (ps_ret (pe_op op_mod (pe_callTy call_int1 (by rfl) T.n_int (by decide +kernel) (pa_cons (pe_op op_fdiv (pv 6) pe_int) pa_nil)) (pv 1)))))))))
def t_F_law_alike (K : PySem.W.Frag) : TS :=
    (tRet (tAndV (tOp (rEqD K) (tVar 0) (tVar 1)) (tOp rEq (tCB (rRepr K) (tCons (tVar 0) tNil)) (tCB (rRepr K) (tCons (tVar 1) tNil)))))
theorem der_F_law_alike (T : Tx K mg)  : DerG P w K mg base N_F_law_alike "_law_alike" s_F_law_alike 0 (t_F_law_alike K) := by
  intro f cdv A outer s H E hG hr
  exact (pss_one (ps_ret (pe_and (pe_cmpR (op_eqD (hu64 hr)) (pv 0) (pv 1) (nomark _)) (pe_one (pe_cmpR op_eq (pe_callB (call_repr hG (hu70 hr)) (by rfl) T.n_repr (by decide +kernel) (pa_cons (pv 0) pa_nil)) (pe_callB (call_repr hG (hu70 hr)) (by rfl) T.n_repr (by decide +kernel) (pa_cons (pv 1) pa_nil)) (nomark _))))))
def t_F_law_labels (K : PySem.W.Frag) : TS :=
    (tSeq (tAsg (tC (.str "abcdefghijklmnopqrstuvwxyz")) (gName 2))
    (tSeq (tAsg (tM1 rSplit (tC (.str "a b mark jump get free take use clear call either loop move arm rest go body break")) (tC (.str " "))) (gName 3))
    (tSeq (tAsg (tOp (rAdd4 K) (tVar 3) (tLst (tCons (tC (.str "within")) (tCons (tC (.str "ended")) (tCons (tC (.str "outer")) (tCons (tC (.str "mine")) (tCons (tC (.str "keep")) (tCons (tC (.str "none")) tNil)))))))) (gName 3))
    (tSeq (tAsg (tTup (tCons (tCall (spTake K) [] E0 (tCons (tVar 0) (tCons (tC (.int 4)) tNil))) (tCons (tCall (spTake K) [] E0 (tCons (tVar 0) (tCons (tC (.int 24)) tNil))) tNil))) (gTup K 2 (gCons (gName 4) (gCons (gName 5) gNil))))
    (tSeq (tAsg (tM1 (rJoin K) (tC (.str "")) (tLc (iRng1 (tCons (tOp (rAdd4 K) (tC (.int 1)) (tCall (spTake K) [] E0 (tCons (tVar 0) (tCons (tC (.int 7)) tNil)))) tNil)) (gName 10) tYes (tOp (rIx K) (tVar 2) (tCall (spTake K) [] E0 (tCons (tVar 0) (tCons (tC (.int 26)) tNil)))) [10])) (gName 6))
    (tSeq (tAsg (tTup (tCons (tCall (spTake K) [] E0 (tCons (tVar 0) (tCons (tOp (rAdd4 K) (tCB (rLen K) (tCons (tVar 6) tNil)) (tC (.int 1))) tNil))) (tCons (tOp (rI CDiv fun i j => .int (i / j)) (tVar 4) (tC (.int 3))) tNil))) (gTup K 2 (gCons (gName 7) (gCons (gName 8) gNil))))
    (tSeq (tIfS (tTest (tOp rEq (tVar 4) (tC (.int 0)))) (tRet (tSl (rSl3 K) (tOp (rAdd4 K) (tSl (rSl3 K) (tVar 3) (tPart (tVar 5)) tNoPart) (tSl (rSl3 K) (tVar 3) tNoPart (tPart (tVar 5)))) tNoPart (tPart (tVar 1)))) tNext)
    (tSeq (tAsg (tLc (iRng1 (tCons (tVar 1) tNil)) (gName 10) tYes (tOp rMul2 (tOp (rIx K) (tVar 2) (tOp (rI (fun _ j => 0 < j) fun i j => .int (i % j)) (tCB rInt1 (tCons (tOp (rAdd4 K) (tVar 5) (tOp (rIx K) (tLst (tCons (tOp rMul2 (tC (.int 3)) (tVar 10)) (tCons (tOp (rI CDiv fun i j => .int (i / j)) (tVar 10) (tC (.int 8))) tNil))) (tVar 8))) tNil)) (tC (.int 26)))) (tOp (rAdd4 K) (tC (.int 1)) (tOp rMul2 (tOp (rI (fun _ j => 0 < j) fun i j => .int (i % j)) (tCB rInt1 (tCons (tVar 10) tNil)) (tC (.int 8))) (tVar 8)))) [10]) (gName 9))
    (tSeq (tAsg (tOp rMul2 (tVar 6) (tCB rInt1 (tCons (tOp rEq (tVar 4) (tC (.int 2))) tNil))) (gName 6))
    (tRet (tLc (iRng1 (tCons (tVar 1) tNil)) (gName 10) tYes (tOp (rAdd4 K) (tOp (rAdd4 K) (tSl (rSl3 K) (tVar 6) tNoPart (tPart (tVar 7))) (tOp (rIx K) (tVar 9) (tVar 10))) (tSl (rSl3 K) (tVar 6) (tPart (tVar 7)) tNoPart)) [10])))))))))))
theorem der_F_law_labels (T : Tx K mg) (d_F_law_take : Def P w K mg base "_law_take" 1 ["_law_bag_here", "_law_many"] (spTake K)) : Der P w K mg base N_F_law_labels "_law_labels" s_F_law_labels 1 (t_F_law_labels K) := by
  intro f cdv A outer s H E hr
  exact (pss_cons (ps_set (i := 2) sc_F_law_labels.nd rfl (Or.inr rfl) pe_str)
      (pss_cons (ps_set (i := 3) sc_F_law_labels.nd rfl (Or.inl rfl) (pe_split pe_str pe_str))
      (pss_cons (ps_set (i := 3) sc_F_law_labels.nd rfl (Or.inl rfl) (pe_op oAdd (pv 3) (pe_lst (pa_cons pe_str (pa_cons pe_str (pa_cons pe_str (pa_cons pe_str (pa_cons pe_str (pa_cons pe_str pa_nil)))))))))
      (pss_cons (ps_asg (pe_tup (pa_cons (pe_def d_F_law_take  hr (by decide) (by rfl) (pa_cons (pv 0) (pa_cons pe_int pa_nil))) (pa_cons (pe_def d_F_law_take  hr (by decide) (by rfl) (pa_cons (pv 0) (pa_cons pe_int pa_nil))) pa_nil))) (pg_tup (by rfl) (pgs_cons (pg_name (i := 4) sc_F_law_labels.nd rfl (Or.inl rfl)) (pgs_cons (pg_name (i := 5) sc_F_law_labels.nd rfl (Or.inr rfl)) pgs_nil))))
      (pss_cons (ps_set (i := 6) sc_F_law_labels.nd rfl (Or.inr rfl) (pe_join pe_str (pe_lc (own := [("_law_k", 10)]) (by rfl) sc_F_law_labels.nd (pi_range1 (by rfl) T.n_range (pa_cons (pe_op oAdd pe_int (pe_def d_F_law_take  hr (by decide) (by rfl) (pa_cons (pv 0) (pa_cons pe_int pa_nil)))) pa_nil)) (blkOk_by (own := [("_law_k", 10)]) (N := N_F_law_labels) (sc := defScope s_F_law_labels) (by decide +kernel)) (fun _ _ _ _ _ => (pg_name (i := 10) sc_F_law_labels.nd rfl (Or.inl rfl))) (fun _ _ _ _ _ => pts_nil) (fun _ _ _ _ _ => (pe_ix ix_seq (pv 2) (pe_def d_F_law_take  hr (by decide) (by rfl) (pa_cons (pv 0) (pa_cons pe_int pa_nil))) (fun _ _ => rfl))))))
      (pss_cons (ps_asg (pe_tup (pa_cons (pe_def d_F_law_take  hr (by decide) (by rfl) (pa_cons (pv 0) (pa_cons (pe_op oAdd (pe_callB call_len (by rfl) T.n_len (by decide +kernel) (pa_cons (pv 6) pa_nil)) pe_int) pa_nil))) (pa_cons (pe_op op_fdiv (pv 4) pe_int) pa_nil))) (pg_tup (by rfl) (pgs_cons (pg_name (i := 7) sc_F_law_labels.nd rfl (Or.inr rfl)) (pgs_cons (pg_name (i := 8) sc_F_law_labels.nd rfl (Or.inr rfl)) pgs_nil))))
      (pss_cons (ps_if (pt_cmpR op_eq (pv 4) pe_int (nomark _)) (pss_one (ps_ret (pe_slice sl3 (pe_op oAdd (pe_slice sl3 (pv 3) (po_some (pv 5)) po_none) (pe_slice sl3 (pv 3) po_none (po_some (pv 5)))) po_none (po_some (pv 1))))) pss_nil)
      (pss_cons (ps_set (i := 9) sc_F_law_labels.nd rfl (Or.inr rfl) (pe_lc (own := [("_law_k", 10)]) (by rfl) sc_F_law_labels.nd (pi_range1 (by rfl) T.n_range (pa_cons (pv 1) pa_nil)) (blkOk_by (own := [("_law_k", 10)]) (N := N_F_law_labels) (sc := defScope s_F_law_labels) (by decide +kernel)) (fun _ _ _ _ _ => (pg_name (i := 10) sc_F_law_labels.nd rfl (Or.inl rfl))) (fun _ _ _ _ _ => pts_nil) (fun _ _ _ _ _ => (pe_op oMul (pe_ix ix_seq (pv 2) (pe_op op_mod (pe_callTy call_int1 (by rfl) T.n_int (by decide +kernel) (pa_cons (pe_op oAdd (pv 5) (pe_ix ix_seq (pe_lst (pa_cons (pe_op oMul pe_int (pv 10)) (pa_cons (pe_op op_fdiv (pv 10) pe_int) pa_nil))) (pv 8) (fun _ _ => rfl))) pa_nil)) pe_int) (fun _ _ => rfl)) (pe_op oAdd pe_int (pe_op oMul (pe_op op_mod (pe_callTy call_int1 (by rfl) T.n_int (by decide +kernel) (pa_cons (pv 10) pa_nil)) pe_int) (pv 8)))))))
      (pss_cons (ps_set (i := 6) sc_F_law_labels.nd rfl (Or.inr rfl) (pe_op oMul (pv 6) (pe_callTy call_int1 (by rfl) T.n_int (by decide +kernel) (pa_cons (pe_cmpR op_eq (pv 4) pe_int (nomark _)) pa_nil))))
      (pss_one (ps_ret (pe_lc (own := [("_law_k", 10)]) (by rfl) sc_F_law_labels.nd (pi_range1 (by rfl) T.n_range (pa_cons (pv 1) pa_nil)) (blkOk_by (own := [("_law_k", 10)]) (N := N_F_law_labels) (sc := defScope s_F_law_labels) (by decide +kernel)) (fun _ _ _ _ _ => (pg_name (i := 10) sc_F_law_labels.nd rfl (Or.inl rfl))) (fun _ _ _ _ _ => pts_nil) (fun _ _ _ _ _ => (pe_op oAdd (pe_op oAdd (pe_slice sl3 (pv 6) po_none (po_some (pv 7))) (pe_ix ix_seq (pv 9) (pv 10) (fun _ _ => rfl))) (pe_slice sl3 (pv 6) (po_some (pv 7)) po_none)))))))))))))))
def t_F_law_odd (K : PySem.W.Frag) : TS :=
    (tSeq (tPar 2 3 (tCons (tCall (spTake K) [] E0 (tCons (tVar 0) (tCons (tOp (rAdd4 K) (tCB (rLen K) (tCons (tVar 1) tNil)) (tC (.int 1))) tNil))) (tCons (tOp (rIx K) (tC (.str "A0 _-~.b")) (tCall (spTake K) [] E0 (tCons (tVar 0) (tCons (tC (.int 8)) tNil)))) tNil)))
    (tSeq (tAsg (tLst (tCons (tC (.int 0)) (tCons (tC (.int 1)) (tCons (tUn (rU fun i => .int (-i)) (tC (.int 1))) (tCons (tC (.bl true)) (tCons (tC (.bl false)) (tCons (tC .non) (tCons (tOp (rI CPow fun i j => .int (i ^ j.toNat)) (tC (.int 10)) (tC (.int 39))) (tCons (tUn (rU fun i => .int (-i)) (tOp (rI CPow fun i j => .int (i ^ j.toNat)) (tC (.int 10)) (tC (.int 39)))) (tCons (tVar 1) (tCons (tOp (rAdd4 K) (tOp (rAdd4 K) (tSl (rSl3 K) (tVar 1) tNoPart (tPart (tVar 2))) (tVar 3)) (tSl (rSl3 K) (tVar 1) (tPart (tVar 2)) tNoPart)) (tCons (tC (.str "")) (tCons (tOp rMul2 (tVar 1) (tC (.int 2))) tNil))))))))))))) (gName 4))
    (tSeq (tAsg (tOp (rAdd4 K) (tVar 4) (tLst (tCons (tLst (tCons (tVar 1) tNil)) (tCons (tTup (tCons (tVar 1) tNil)) (tCons (tDisp [((tVar 1), (tC (.int 1)))]) (tCons (tLst tNil) (tCons (tTup tNil) (tCons (tCall (spTake K) [] E0 (tCons (tVar 0) (tCons (tC (.int 12)) tNil))) (tCons (tSl (rSl3 K) (tVar 1) tNoPart (tPart (tC (.int 8)))) (tCons (tOp (rAdd4 K) (tVar 1) (tC (.str "abcdefgh"))) tNil)))))))))) (gName 4))
    (tSeq (tAsg (tOp (rAdd4 K) (tVar 4) (tLst (tCons (tDisp [((tC (.int 0)), (tC (.int 1)))]) (tCons (tDisp [((tVar 1), (tC .non))]) (tCons (tLst (tCons (tC (.int 0)) tNil)) (tCons (tC (.str "0")) (tCons (tC (.str "ninesigns")) (tCons (tC (.str "eightlet")) tNil)))))))) (gName 4))
    (tRet (tOp (rIx K) (tVar 4) (tCall (spTake K) [] E0 (tCons (tVar 0) (tCons (tC (.int 26)) tNil)))))))))
theorem der_F_law_odd (T : Tx K mg) (d_F_law_take : Def P w K mg base "_law_take" 1 ["_law_bag_here", "_law_many"] (spTake K)) : Der P w K mg base N_F_law_odd "_law_odd" s_F_law_odd 1 (t_F_law_odd K) := by
  intro f cdv A outer s H E hr
  exact (pss_cons (ps_par (i := 2) (j := 3) (by rfl) sc_F_law_odd.nd rfl rfl (by decide) rfl rfl (pa_cons (pe_def d_F_law_take  hr (by decide) (by rfl) (pa_cons (pv 0) (pa_cons (pe_op oAdd (pe_callB call_len (by rfl) T.n_len (by decide +kernel) (pa_cons (pv 1) pa_nil)) pe_int) pa_nil))) (pa_cons (pe_ix ix_seq pe_str (pe_def d_F_law_take  hr (by decide) (by rfl) (pa_cons (pv 0) (pa_cons pe_int pa_nil))) (fun _ _ => rfl)) pa_nil)) (by rfl))
      (pss_cons (ps_set (i := 4) sc_F_law_odd.nd rfl (Or.inl rfl) (pe_lst (pa_cons pe_int (pa_cons pe_int (pa_cons (pe_un un_neg pe_int) (pa_cons pe_bl (pa_cons pe_bl (pa_cons pe_non (pa_cons (pe_op op_pow pe_int pe_int) (pa_cons (pe_un un_neg (pe_op op_pow pe_int pe_int)) (pa_cons (pv 1) (pa_cons (pe_op oAdd (pe_op oAdd (pe_slice sl3 (pv 1) po_none (po_some (pv 2))) (pv 3)) (pe_slice sl3 (pv 1) (po_some (pv 2)) po_none)) (pa_cons pe_str (pa_cons (pe_op oMul (pv 1) pe_int) pa_nil))))))))))))))
      (pss_cons (ps_set (i := 4) sc_F_law_odd.nd rfl (Or.inl rfl) (pe_op oAdd (pv 4) (pe_lst (pa_cons (pe_lst (pa_cons (pv 1) pa_nil)) (pa_cons (pe_tup (pa_cons (pv 1) pa_nil)) (pa_cons (pe_disp (pps_cons (pv 1) pe_int pps_nil) (by rfl) (by rfl) (fun z => by cases z) (by decide)) (pa_cons (pe_lst pa_nil) (pa_cons (pe_tup pa_nil) (pa_cons (pe_def d_F_law_take  hr (by decide) (by rfl) (pa_cons (pv 0) (pa_cons pe_int pa_nil))) (pa_cons (pe_slice sl3 (pv 1) po_none (po_some pe_int)) (pa_cons (pe_op oAdd (pv 1) pe_str) pa_nil)))))))))))
      (pss_cons (ps_set (i := 4) sc_F_law_odd.nd rfl (Or.inl rfl) (pe_op oAdd (pv 4) (pe_lst (pa_cons (pe_disp (pps_cons pe_int pe_int pps_nil) (by rfl) (by rfl) (fun z => by cases z) (by decide)) (pa_cons (pe_disp (pps_cons (pv 1) pe_non pps_nil) (by rfl) (by rfl) (fun z => by cases z) (by decide)) (pa_cons (pe_lst (pa_cons pe_int pa_nil)) (pa_cons pe_str (pa_cons pe_str (pa_cons pe_str pa_nil)))))))))
      (pss_one (ps_ret (pe_ix ix_seq (pv 4) (pe_def d_F_law_take  hr (by decide) (by rfl) (pa_cons (pv 0) (pa_cons pe_int pa_nil))) (fun _ _ => rfl))))))))
def t_F_law_own (K : PySem.W.Frag) : TS :=
    (tSeq (tAsg (tAndV (tCB (rIsi K) (tCons (tVar 0) (tCons (tC (.ty "int")) tNil))) (tAndV (tOp rNotB' (tVar 0) (tC (.bl true))) (tOp rNotB' (tVar 0) (tC (.bl false))))) (gName 2))
    (tSeq (tAsg (tAndV (tCB (rIsi K) (tCons (tVar 0) (tCons (tC (.ty "str")) tNil))) (tAndV (tOp rNe (tVar 0) (tC (.str ""))) (tOp (rI0 fun i j => .bl (decide (i < j))) (tCB (rLen K) (tCons (tVar 0) tNil)) (tC (.int 9))))) (gName 3))
    (tSeq (tAsg (tAndV (tVar 3) (tOp (rEqD K) (tLc (iStr (tVar 0)) (gName 4) (tNot (tTest (tChain rLeS rLeS (tC (.str "a")) (tVar 4) (tC (.str "z"))))) (tVar 4) [4]) (tLst tNil))) (gName 3))
    (tRet (tLst (tCons (tVar 2) (tCons (tVar 3) (tCons (tAndV (tVar 2) (tChain (rI0 fun i j => .bl (decide (i ≤ j))) (rI0 fun i j => .bl (decide (i < j))) (tC (.int 0)) (tVar 0) (tVar 1))) tNil))))))))
theorem der_F_law_own (T : Tx K mg)  : Der P w K mg base N_F_law_own "_law_own" s_F_law_own 0 (t_F_law_own K) := by
  intro f cdv A outer s H E hr
  exact (pss_cons (ps_set (i := 2) sc_F_law_own.nd rfl (Or.inl rfl) (pe_and (pe_callB call_isi (by rfl) T.n_isinstance (by decide +kernel) (pa_cons (pv 0) (pa_cons (pe_bltn (v := .ty "int") (by rfl) T.n_int (by decide +kernel) rfl) pa_nil))) (pe_and (pe_cmpR op_notB (pv 0) pe_bl (nomark _)) (pe_one (pe_cmpR op_notB (pv 0) pe_bl (nomark _))))))
      (pss_cons (ps_set (i := 3) sc_F_law_own.nd rfl (Or.inl rfl) (pe_and (pe_callB call_isi (by rfl) T.n_isinstance (by decide +kernel) (pa_cons (pv 0) (pa_cons (pe_bltn (v := .ty "str") (by rfl) T.n_str (by decide +kernel) rfl) pa_nil))) (pe_and (pe_cmpR op_ne (pv 0) pe_str (nomark _)) (pe_one (pe_cmpR op_lt (pe_callB call_len (by rfl) T.n_len (by decide +kernel) (pa_cons (pv 0) pa_nil)) pe_int (nomark _))))))
      (pss_cons (ps_set (i := 3) sc_F_law_own.nd rfl (Or.inl rfl) (pe_and (pv 3) (pe_one (pe_cmpR (op_eqD (hu64 hr)) (pe_lc (own := [("_law_sign", 4)]) (by rfl) sc_F_law_own.nd (pi_str (pv 0)) (blkOk_by (own := [("_law_sign", 4)]) (N := N_F_law_own) (sc := defScope s_F_law_own) (by decide +kernel)) (fun _ _ _ _ _ => (pg_name (i := 4) sc_F_law_own.nd rfl (Or.inl rfl))) (fun _ _ _ _ _ => (pts_one (pt_not (pt_chain op_le_str op_le_str pe_str (pv 4) pe_str)))) (fun _ _ _ _ _ => (pv 4))) (pe_lst pa_nil) (nomark _)))))
      (pss_one (ps_ret (pe_lst (pa_cons (pv 2) (pa_cons (pv 3) (pa_cons (pe_and (pv 2) (pe_one (pe_chain op_le op_lt pe_int (pv 0) (pv 1)))) pa_nil)))))))))
def t_F_law_c1 (K : PySem.W.Frag) : TS :=
    (tSeq (tAsg (tCall (spLabels K) [] E0 (tCons (tVar 1) (tCons (tC (.int 4)) tNil))) (gName 2))
    (tSeq (tAsg (tLc (iRng1 (tCons (tC (.int 30)) tNil)) (gName 8) tYes (tTup (tCons (tCall (spOdd K) [] E0 (tCons (tVar 1) (tCons (tOp (rIx K) (tVar 2) (tCall (spTake K) [] E0 (tCons (tVar 1) (tCons (tC (.int 4)) tNil)))) tNil))) (tCons (tOp (rIx K) (tLst (tCons (tC (.int 0)) (tCons (tC (.int 1)) (tCons (tC (.int 2)) (tCons (tC (.int 12)) (tCons (tOp (rI CPow fun i j => .int (i ^ j.toNat)) (tC (.int 10)) (tC (.int 39))) tNil)))))) (tCall (spTake K) [] E0 (tCons (tVar 1) (tCons (tC (.int 5)) tNil)))) tNil))) [8]) (gName 3))
    (tSeq (tFor (iList K (tOp (rAdd4 K) (tVar 3) (tRevL K (tVar 3)))) (gTup K 2 (gCons (gName 4) (gCons (gName 5) gNil))) (tSeq (tAsg (tCB (rRepr K) (tCons (tVar 4) tNil)) (gName 6))
    (tSeq (tAsg (tLst (tCons (tCall (spIsInteger K) [] E0 (tCons (tVar 4) tNil)) (tCons (tCall (spIsName K) [] E0 (tCons (tVar 4) tNil)) (tCons (tCall (spIsNumber K) [] E0 (tCons (tVar 5) (tCons (tVar 4) tNil))) tNil)))) (gName 7))
    (tIfS (tOr (tNot (tB (tCall (spAlike K) [] E0 (tCons (tVar 7) (tCons (tCall (spOwn K) [] E0 (tCons (tVar 4) (tCons (tVar 5) tNil))) tNil))))) (tTest (tOp rNe (tCB (rRepr K) (tCons (tVar 4) tNil)) (tVar 6)))) (tRet (tC (.bl false))) tNext))))
    (tRet (tC (.bl true))))))
def t_F_law (K : PySem.W.Frag) : TS :=
    (tSeq (tAsg (tCall (spBag K) [] E0 (tCons (tVar 0) tNil)) (gName 1))
    (t_F_law_c1 K))
theorem der_F_law (T : Tx K mg) (d_F_law_bag : Def P w K mg base "_law_bag" 1 ["_law_script"] (spBag K)) (d_F_law_labels : Def P w K mg base "_law_labels" 2 ["_law_bag_here", "_law_many"] (spLabels K)) (d_F_law_take : Def P w K mg base "_law_take" 1 ["_law_bag_here", "_law_many"] (spTake K)) (d_F_law_odd : Def P w K mg base "_law_odd" 2 ["_law_bag_here", "_law_label"] (spOdd K)) (d_F_is_number : Def P w K mg base "is_number" 2 ["many", "thing"] (spIsNumber K)) (d_F_is_name : Def P w K mg base "is_name" 1 ["thing"] (spIsName K)) (d_F_is_integer : Def P w K mg base "is_integer" 1 ["thing"] (spIsInteger K)) (d_F_law_alike : DefG P w K mg base "_law_alike" 1 ["_law_found", "_law_due"] (spAlike K)) (d_F_law_own : Def P w K mg base "_law_own" 1 ["_law_thing", "_law_many"] (spOwn K)) : DerG P w K mg base N_F_law "law" s_F_law 2 (t_F_law K) := by
  intro f cdv A outer s H E hG hr
  exact (pss_cons (ps_set (i := 1) sc_F_law.nd rfl (Or.inr rfl) (pe_def d_F_law_bag  hr (by decide) (by rfl) (pa_cons (pv 0) pa_nil)))
      (pss_cons (ps_set (i := 2) sc_F_law.nd rfl (Or.inr rfl) (pe_def d_F_law_labels  hr (by decide) (by rfl) (pa_cons (pv 1) (pa_cons pe_int pa_nil))))
      (pss_cons (ps_setLc (i := 3) (own := [("_law_k", 8)]) (by rfl) sc_F_law.nd rfl rfl (sw_true rfl rfl rfl (by decide +kernel)) (pi_range1 (by rfl) T.n_range (pa_cons pe_int pa_nil)) (blkOk_by (own := [("_law_k", 8)]) (N := N_F_law) (sc := defScope s_F_law) (by decide +kernel)) (fun _ _ _ _ _ => (pg_name (i := 8) sc_F_law.nd rfl (Or.inl rfl))) (fun _ _ _ _ _ => pts_nil) (fun _ _ _ _ _ => (pe_tup (pa_cons (pe_def d_F_law_odd  hr (by decide) (by rfl) (pa_cons (pv 1) (pa_cons (pe_ix ix_seq (pv 2) (pe_def d_F_law_take  hr (by decide) (by rfl) (pa_cons (pv 1) (pa_cons pe_int pa_nil))) (fun _ _ => rfl)) pa_nil))) (pa_cons (pe_ix ix_seq (pe_lst (pa_cons pe_int (pa_cons pe_int (pa_cons pe_int (pa_cons pe_int (pa_cons (pe_op op_pow pe_int pe_int) pa_nil)))))) (pe_def d_F_law_take  hr (by decide) (by rfl) (pa_cons (pv 1) (pa_cons pe_int pa_nil))) (fun _ _ => rfl)) pa_nil)))))
      (pss_cons (ps_for PassesOwn.never (by rfl) (pi_list (pe_op oAdd (pv 3) (pe_revL (pv 3)))) (pg_tup (by rfl) (pgs_cons (pg_name (i := 4) sc_F_law.nd rfl (Or.inl rfl)) (pgs_cons (pg_name (i := 5) sc_F_law.nd rfl (Or.inl rfl)) pgs_nil))) (pss_cons (ps_set (i := 6) sc_F_law.nd rfl (Or.inl rfl) (pe_callB (call_repr hG (hu70 hr)) (by rfl) T.n_repr (by decide +kernel) (pa_cons (pv 4) pa_nil)))
      (pss_cons (ps_set (i := 7) sc_F_law.nd rfl (Or.inl rfl) (pe_lst (pa_cons (pe_def d_F_is_integer  hr (by decide) (by rfl) (pa_cons (pv 4) pa_nil)) (pa_cons (pe_def d_F_is_name  hr (by decide) (by rfl) (pa_cons (pv 4) pa_nil)) (pa_cons (pe_def d_F_is_number  hr (by decide) (by rfl) (pa_cons (pv 5) (pa_cons (pv 4) pa_nil))) pa_nil)))))
      (pss_one (ps_if ((pw_or (pt_not (pt_val (pe_defG d_F_law_alike hG  hr (by decide) (by rfl) (pa_cons (pv 7) (pa_cons (pe_def d_F_law_own  hr (by decide) (by rfl) (pa_cons (pv 4) (pa_cons (pv 5) pa_nil))) pa_nil))))) (pw_or1 (pt_cmpR op_ne (pe_callB (call_repr hG (hu70 hr)) (by rfl) T.n_repr (by decide +kernel) (pa_cons (pv 4) pa_nil)) (pv 6) (nomark _))))).pt (pss_one (ps_ret pe_bl)) pss_nil)))))
      (pss_one (ps_ret pe_bl))))))
end
end K12

namespace K12
open PySem PySem.Spec PyProof.Rows L2 Lb
open Evl (Ex)
section
variable {P : Program} {w : World} {K : PySem.W.Frag} {mg : Str → Option Value} {base : Heap}
def isB : D → Bool
  | .bl _ => true
  | _ => false
def isS : D → Bool
  | .str _ => true
  | _ => false
theorem kit_int {d : D} {T : String} (h : d.ty = some T) : kitB T "int" = some (isInt d || isB d) := by
  cases d <;> simp only [D.ty, Option.some.injEq, reduceCtorEq] at h <;> subst h <;>
    first | (show kitB _ _ = some true; decide +kernel) | (show kitB _ _ = some false; decide +kernel)
theorem kit_bool {d : D} {T : String} (h : d.ty = some T) : kitB T "bool" = some (isB d) := by
  cases d <;> simp only [D.ty, Option.some.injEq, reduceCtorEq] at h <;> subst h <;>
    first | (show kitB _ _ = some true; decide +kernel) | (show kitB _ _ = some false; decide +kernel)
theorem kit_str {d : D} {T : String} (h : d.ty = some T) : kitB T "str" = some (isS d) := by
  cases d <;> simp only [D.ty, Option.some.injEq, reduceCtorEq] at h <;> subst h <;>
    first | (show kitB _ _ = some true; decide +kernel) | (show kitB _ _ = some false; decide +kernel)

theorem d_is_integer (T : Tx K mg) : Def P w K mg base "is_integer" 1 ["thing"] (spIsInteger K) :=
  defD T.h_F_is_integer sc_F_is_integer bn_F_is_integer rfl (der_F_is_integer T) (by
    rintro B ds hl ⟨d, rfl, g⟩
    obtain ⟨T0, hT⟩ := g.ty
    refine sm_ret (ev_and (ev_CB (ea_cons (ev_var rfl (ea_cons (ev_raw (ea_nil (rc_isi hT (kit_int hT) ⟨_, rfl, ?_⟩))))))))
    split
    · refine ev_not (ev_CB (ea_cons (ev_var rfl (ea_cons (ev_raw (ea_nil (rc_isi hT (kit_bool hT) ⟨_, rfl, ?_⟩)))))))
      refine ⟨d, rfl, ?_⟩
      cases d <;> simp_all [isInt, isB]
    · refine ⟨d, rfl, ?_⟩
      cases d <;> simp_all [isInt, isB])

theorem sz20 {n m : Nat} (h : n ≤ m) (hm : m ≤ 1000) : n ≤ sizeLine := Nat.le_trans h (Nat.le_trans hm (by decide))
theorem sgn_all (x : Str) : (sgnD x).length = x.length := sgnD_len x
theorem sgnD_at {x : Str} {i : Nat} {d : D} (h : (sgnD x)[i]? = some d) : ∃ c, x.cps.toList[i]? = some c ∧ d = .str ⟨#[c]⟩ := by
  unfold sgnD at h
  rw [List.getElem?_map] at h
  obtain ⟨c, hc, e⟩ := Option.map_eq_some_iff.mp h
  exact ⟨c, hc, e.symm⟩
theorem take_snoc {α : Type} {l : List α} {i : Nat} {x : α} (h : l[i]? = some x) : l.take (i + 1) = l.take i ++ [x] := by
  rw [List.take_succ, h]
  rfl

theorem d_is_name (T : Tx K mg) : Def P w K mg base "is_name" 1 ["thing"] (spIsName K) :=
  defD T.h_F_is_name sc_F_is_name bn_F_is_name rfl (der_F_is_name T) (by
    rintro B ds hl ⟨d, rfl, g⟩
    obtain ⟨T0, hT⟩ := g.ty
    refine sm_ret (ev_and (ev_CB (ea_cons (ev_var rfl (ea_cons (ev_raw (ea_nil (rc_isi hT (kit_str hT) ⟨_, rfl, ?_⟩))))))))
    cases d with
    | str x =>
      have hz := sz20 (g.str x rfl).len (by decide)
      refine (if_pos rfl).mpr ?_
      refine ev_and (ev_chain (ev_int (ev_CB (ea_cons (ev_var rfl (ea_nil (rc_lenS hz (rb_B0 ⟨_, rfl, ?_⟩))))))))
      by_cases h1 : (1 : Int) ≤ (x.length : Int)
      · rw [decide_eq_true h1]
        refine (if_pos rfl).mpr (ev_int (rb_B0 ⟨_, rfl, ?_⟩))
        by_cases h2 : (x.length : Int) ≤ 8
        · rw [decide_eq_true h2]
          refine (if_pos rfl).mpr (ev_CB (ea_cons (ev_lc (ls := [1]) (fun j h => h) (iw_str (ev_var rfl ⟨x, rfl, ?_⟩)))))
          refine ⟨by rw [sgnD_len]; exact Nat.lt_of_le_of_lt (by omega : x.length ≤ 8) (by decide), fun i out => out = (x.cps.toList.take i).map fun c => D.bl (decide (c ∈ letters.cps.toList)), rfl, ?_, ?_⟩
          · rintro L _ i d out hd rfl
            obtain ⟨c, hc, rfl⟩ := sgnD_at hd
            refine tg_name (ts_yes ((if_pos rfl).mpr (ev_op (ev_var rfl (ev_str (rb_sign ?_))))))
            show List.map _ _ ++ [_] = List.map _ (List.take (i + 1) _)
            rw [take_snoc hc, List.map_append]
            rfl
          · rintro out rfl
            rw [sgnD_len, show x.length = x.cps.toList.length from by simp [Str.length], List.take_length]
            refine ea_nil ?_
            rw [show (x.cps.toList.map fun c => D.bl (decide (c ∈ letters.cps.toList))) = (x.cps.toList.map fun c => decide (c ∈ letters.cps.toList)).map D.bl from by rw [List.map_map]; rfl]
            refine rc_all ⟨_, rfl, ?_⟩
            show _ = D.bl (isNameS x)
            unfold isNameS
            rw [decide_eq_true (show 1 ≤ x.length ∧ x.length ≤ 8 by omega), Bool.true_and, List.all_map]
            rfl
        · rw [decide_eq_false h2]
          refine (if_neg (by decide)).mpr ⟨_, rfl, ?_⟩
          show _ = D.bl (isNameS x)
          unfold isNameS
          rw [decide_eq_false (show ¬ (1 ≤ x.length ∧ x.length ≤ 8) by omega), Bool.false_and]
      · rw [decide_eq_false h1]
        refine (if_neg (by decide)).mpr ⟨_, rfl, (if_neg (by decide)).mpr ⟨_, rfl, ?_⟩⟩
        show _ = D.bl (isNameS x)
        unfold isNameS
        rw [decide_eq_false (show ¬ (1 ≤ x.length ∧ x.length ≤ 8) by omega), Bool.false_and]
    | _ => exact (if_neg (by simp [isS])).mpr ⟨_, rfl, rfl⟩)

theorem d_is_number (T : Tx K mg) : Def P w K mg base "is_number" 2 ["many", "thing"] (spIsNumber K) :=
  defD T.h_F_is_number sc_F_is_number bn_F_is_number rfl (der_F_is_number T (d_is_integer T)) (by
    rintro B ds hl ⟨m, d, rfl, g⟩
    refine sm_ret (ev_and (ev_callD (ea_cons (ev_var rfl (ea_nil ⟨rfl, ⟨d, rfl, g⟩, ?_⟩)))))
    rintro r ⟨d', e, rfl⟩
    cases e
    refine ⟨_, rfl, ?_⟩
    cases d with
    | int i =>
      refine (if_pos rfl).mpr (ev_chain (ev_int (ev_var rfl (rb_B0 ⟨_, rfl, ?_⟩))))
      by_cases h0 : (0 : Int) ≤ i
      · rw [decide_eq_true h0]
        refine (if_pos rfl).mpr (ev_var rfl (rb_B0 ⟨m, _, rfl, ?_⟩))
        simp [isNum, h0]
      · rw [decide_eq_false h0]
        refine (if_neg (by decide)).mpr ⟨m, _, rfl, ?_⟩
        simp [isNum, h0]
    | _ => exact (if_neg (by simp [isInt])).mpr ⟨m, _, rfl, rfl⟩)
end
end K12

namespace K12
open PySem PySem.Spec PyProof.Rows L2 Lb
open Evl (Ex)
section
variable {P : Program} {w : World} {K : PySem.W.Frag} {mg : Str → Option Value} {base : Heap}
theorem d_law_bag (T : Tx K mg) : Def P w K mg base "_law_bag" 1 ["_law_script"] (spBag K) :=
  defS T.h_F_law_bag sc_F_law_bag bn_F_law_bag spBag_len (der_F_law_bag T) (bag_body rfl)
theorem d_law_take (T : Tx K mg) : Def P w K mg base "_law_take" 1 ["_law_bag_here", "_law_many"] (spTake K) :=
  defS T.h_F_law_take sc_F_law_take bn_F_law_take (bsp_len rfl) (der_F_law_take T) (take_body rfl)
theorem bls_pl : ∀ bs : List Bool, D.pls (bs.map D.bl) = true
  | [] => by simp [D.pls]
  | b :: bs => by simp [D.pls, D.pl, bls_pl bs]
theorem d_law_alike (T : Tx K mg) : DefG P w K mg base "_law_alike" 1 ["_law_found", "_law_due"] (spAlike K) :=
  defDG T.h_F_law_alike sc_F_law_alike bn_F_law_alike rfl (der_F_law_alike T) (by
    rintro B ds hl ⟨bs, rfl, hb⟩
    match bs, hb with
    | [b0, b1, b2], _ =>
      have pl : (D.lst [.bl b0, .bl b1, .bl b2]).pl = true := by simp [D.pl, D.pls]
      have shp : SeqAt.shaped (D.lst [.bl b0, .bl b1, .bl b2]).py = true := by cases b0 <;> cases b1 <;> cases b2 <;> decide +kernel
      have eqv : PyData.eqv (D.lst [.bl b0, .bl b1, .bl b2]).py (D.lst [.bl b0, .bl b1, .bl b2]).py = true := by cases b0 <;> cases b1 <;> cases b2 <;> decide +kernel
      have sw : (D.lst [.bl b0, .bl b1, .bl b2]).py.showable = true := by cases b0 <;> cases b1 <;> cases b2 <;> decide +kernel
      have dp : (D.lst [.bl b0, .bl b1, .bl b2]).py.depth ≤ 64 := by cases b0 <;> cases b1 <;> cases b2 <;> decide +kernel
      have sz : (D.lst [.bl b0, .bl b1, .bl b2]).py.shown.length ≤ sizeLine := by cases b0 <;> cases b1 <;> cases b2 <;> decide +kernel
      refine sm_ret (ev_and (ev_op (ev_var rfl (ev_var rfl (rb_eqD pl pl shp shp ⟨_, rfl, ?_⟩)))))
      refine (if_pos eqv).mpr (ev_op (ev_CB (ea_cons (ev_var rfl (ea_nil (rc_repr pl sw dp sz ?_))))))
      refine ev_CB (ea_cons (ev_var rfl (ea_nil (rc_repr pl sw dp sz (rb_eqS ?_)))))
      rw [decide_eq_true rfl])

/-! ### labels -/
def menu1 : List Str := ["a", "b", "mark", "jump", "get", "free", "take", "use", "clear", "call", "either", "loop", "move", "arm", "rest", "go", "body", "break"]
def menu2 : List Str := ["within", "ended", "outer", "mine", "keep", "none"]
theorem menu_eq : Txt.split "a b mark jump get free take use clear call either loop move arm rest go body break" " " = menu1 := by decide +kernel
theorem menu_plain : ∀ y ∈ menu1 ++ menu2, Plain 40 y := by
  intro y hy
  have h : (menu1 ++ menu2).all (plainB 40) = true := by decide +kernel
  exact plain_of (List.all_eq_true.mp h y hy)
theorem letters_lt : ∀ c ∈ letters.cps.toList, c < 128 := by decide +kernel
theorem letters_len : letters.cps.toList.length = 26 := by decide +kernel
theorem letter_at {W : Wd} {S : D → Prop} {i : Int} (h0 : 0 ≤ i) (h1 : i < 26) (s : ∀ c, c < 128 → S (.str ⟨#[c]⟩)) : Rb W (rIx W.K) (.str "abcdefghijklmnopqrstuvwxyz") (.int i) S := by
  obtain ⟨c, e, hm, _⟩ := atI_in (xs := letters.cps.toList) h0 (by rw [letters_len]; exact h1)
  exact rb_ix3 (by decide +kernel) e (s c (letters_lt c hm))
theorem d_law_labels (T : Tx K mg) : Def P w K mg base "_law_labels" 2 ["_law_bag_here", "_law_many"] (spLabels K) :=
  defB T.h_F_law_labels sc_F_law_labels bn_F_law_labels rfl (der_F_law_labels T (d_law_take T)) (by
    rintro b bl ns B hB ds hl rfl
    have g := bagged_Wb (K := K) (b := b) (bl := bl) (ns := ns) (B := B) (hB := hB)
    refine sm_seq (sm_set (ev_str ?_))
    refine sm_seq (sm_set (ev_split (ev_str ⟨_, rfl, ev_str ⟨_, rfl, by decide +kernel, by decide +kernel, ?_⟩⟩)))
    rw [menu_eq]
    refine sm_seq (sm_set (ev_op (ev_var rfl (ev_lst (ea_cons (ev_str (ea_cons (ev_str (ea_cons (ev_str (ea_cons (ev_str (ea_cons (ev_str (ea_cons (ev_str (ea_nil ⟨szl, rb_addL (Nat.le_of_ble_eq_true rfl) ?_⟩)))))))))))))))))
    have em : menu1.map D.str ++ [.str "within", .str "ended", .str "outer", .str "mine", .str "keep", .str "none"] = (menu1 ++ menu2).map D.str := rfl
    rw [em]
    refine sm_seq (sm_asg (ls := [4] ++ ([5] ++ [])) (ev_tup (ea_cons (ev_takeC g rfl (by decide) (by decide) fun way w0 w1 => ea_cons (ev_takeC g rfl (by decide) (by decide) fun turn t0 t1 => ea_nil ⟨szl, tg_tup rfl (tgs_cons (tg_name (tgs_cons (tg_name (tgs_nil ?_)))))⟩)))))
    refine sm_seq (sm_set (ev_join (ev_str ⟨_, rfl, ev_lcP (ls := [10]) (fun j h => h) (iw_rng1 (ea_cons (ev_op (ev_int (ev_takeC g rfl (by decide) (by decide) fun n0 n1 n2 => rb_addI (ea_nil ⟨1 + n0, rfl, by omega, by omega, ?_⟩)))))) ⟩)))
    refine ⟨by rw [rngD_len]; exact szn' (by omega), fun d => ∃ x, d = .str x ∧ Plain 1 x, ?_, ?_⟩
    · rintro L fr i d hd
      exact tg_name (ev_op (ev_var rfl (ev_takeC (g.plus fr) rfl (by decide) (by decide) fun k k0 k1 => letter_at k0 k1 fun c hc => ⟨_, rfl, plain_sign hc⟩)))
    intro out ho hp
    obtain ⟨ys, rfl, hy⟩ := strs_ex hp
    rw [rngD_len, List.length_map] at ho
    refine ⟨ys, rfl, ?_, ?_⟩
    · have := sum1 hy
      show _ + _ * 0 ≤ _
      omega
    have pstem : Plain 7 (Txt.join "" ys) := plain_joinE (by omega) hy
    generalize Txt.join "" ys = stem at pstem ⊢
    have pl := pstem.len
    have zst : stem.length ≤ sizeLine := szn (by omega)
    refine sm_seq (sm_asg (ls := [7] ++ ([8] ++ [])) (ev_tup (ea_cons (ev_take g rfl ?_))))
    refine ev_op (ev_CB (ea_cons (ev_var rfl (ea_nil (rc_lenS zst (ev_int (rb_addI ⟨(stem.length : Int) + 1, rfl, by omega, by omega, fun at_ a0 a1 => ?_⟩)))))))
    refine ea_cons (ev_op (ev_var rfl (ev_int (rb_I (C := CDiv) (g := fun a b => a / b) ⟨by decide, by decide⟩ (ea_nil ⟨szl, tg_tup rfl (tgs_cons (tg_name (tgs_cons (tg_name (tgs_nil ?_)))))⟩)))))
    have f0 : 0 ≤ way / 3 := by omega
    have f1 : way / 3 < 2 := by omega
    generalize way / 3 = far at f0 f1 ⊢
    refine sm_seq (sm_if (ts_test (ev_op (ev_var rfl (ev_int (rb_eqI ⟨_, rfl, ?_⟩))))))
    by_cases hw : way = 0
    · refine (if_pos (decide_eq_true hw)).mpr (sm_ret (ev_sl (ev_op (ev_sl (ev_var rfl (eo_some (ev_var rfl ⟨_, rfl, eo_none (rs3_lst ?_)⟩)))))))
      rw [cutD_from t0 (by show turn ≤ ((24 : Nat) : Int); omega)]
      refine ev_sl (ev_var rfl (eo_none (eo_some (ev_var rfl ⟨_, rfl, rs3_lst ?_⟩))))
      rw [cutD_to t0]
      refine rb_addL ?_ (eo_none (eo_some (ev_var rfl ⟨4, rfl, rs3_lst ?_⟩)))
      · exact szn (by simp [menu1, menu2]; omega)
      rw [cutD_to (by decide), ← List.map_drop, ← List.map_take, ← List.map_append, ← List.map_take]
      refine ⟨_, rfl, ?_, fun y hy => menu_plain y ?_⟩
      · simp [menu1, menu2]
        omega
      · rcases List.mem_append.mp (List.mem_of_mem_take hy) with h | h
        · exact List.mem_of_mem_drop h
        · exact List.mem_of_mem_take h
    · refine (if_neg (by simpa using hw)).mpr (sm_next ?_)
      refine sm_seq (sm_set (ev_lcP (ls := [10]) (fun j h => h) (iw_rng1 (ea_cons (ev_var rfl (ea_nil ⟨4, rfl, by decide, by decide, ?_⟩))))))
      refine ⟨by rw [rngD_len]; exact szn' (by decide), fun d => ∃ x, d = .str x ∧ Plain 8 x, ?_, ?_⟩
      · rintro L fr i d hd
        obtain ⟨hi, rfl⟩ := rngD_get hd
        have hi4 : i < 4 := hi
        refine tg_name (ev_op (ev_op (ev_var rfl (ev_op (ev_CB (ea_cons (ev_op (ev_var rfl ?_))))))))
        refine ev_op (ev_lst (ea_cons (ev_op (ev_int (ev_var rfl (rb_mulI (Or.inl ⟨by decide, by decide⟩) ?_))))))
        refine ea_cons (ev_op (ev_var rfl (ev_int (rb_I (C := CDiv) (g := fun a b => a / b) ⟨by decide, by decide⟩ (ea_nil ⟨szl, ev_var rfl ?_⟩)))))
        have hx : ∃ x, atI [D.int (3 * (0 + (i : Int))), .int ((0 + (i : Int)) / 8)] far = some (.int x) := by
          rcases (show far = 0 ∨ far = 1 by omega) with rfl | rfl
          · exact ⟨_, rfl⟩
          · exact ⟨_, rfl⟩
        obtain ⟨x, ex⟩ := hx
        refine rb_ix1 ex (rb_addI (ea_nil (rc_int (ev_int (rb_I (C := fun _ j => 0 < j) (g := fun i j => i % j) (by decide) ?_)))))
        refine letter_at (mod_lt (by decide)).1 (mod_lt (by decide)).2 fun c hc => ?_
        refine ev_op (ev_int (ev_op (ev_op (ev_CB (ea_cons (ev_var rfl (ea_nil (rc_int (ev_int (rb_I (C := fun _ j => 0 < j) (g := fun i j => i % j) (by decide) ?_))))))))))
        have m0 := (mod_lt (i := 0 + (i : Int)) (m := 8) (by decide)).1
        have m1 := (mod_lt (i := 0 + (i : Int)) (m := 8) (by decide)).2
        generalize (0 + (i : Int)) % 8 = m at m0 m1 ⊢
        refine ev_var rfl (rb_mulI (Or.inl ⟨by omega, by omega⟩) (rb_addI ?_))
        have k0 : 0 ≤ m * far ∧ m * far ≤ 7 := by
          rcases (show far = 0 ∨ far = 1 by omega) with rfl | rfl <;> omega
        refine rb_mulS (by omega) (by omega) (Nat.le_of_ble_eq_true rfl) ⟨_, rfl, ?_⟩
        exact (plain_sign hc).rep (m := 8) (by omega) (by decide)
      intro out ho hp
      obtain ⟨zs, rfl, hz⟩ := strs_ex hp
      have ho4 : zs.length = 4 := by rw [rngD_len, List.length_map] at ho; exact ho
      refine sm_seq (sm_set (ev_op (ev_var rfl (ev_CB (ea_cons (ev_op (ev_var rfl (ev_int (rb_eqI (ea_nil (rc_intB ?_)))))))))))
      refine rb_mulS (by split <;> decide) (by split <;> decide) (by omega) ?_
      have pst : Plain 7 (if (if decide (way = 2) = true then (1 : Int) else 0) < 1 then Str.empty else if ((if decide (way = 2) = true then (1 : Int) else 0) == 1 || stem.length == 0) = true then stem else repS stem (if decide (way = 2) = true then 1 else 0)) :=
        pstem.rep (m := 1) (by split <;> decide) (by decide)
      generalize (if (if decide (way = 2) = true then (1 : Int) else 0) < 1 then Str.empty else if ((if decide (way = 2) = true then (1 : Int) else 0) == 1 || stem.length == 0) = true then stem else repS stem (if decide (way = 2) = true then 1 else 0)) = st2 at pst ⊢
      have zs2 : st2.length ≤ sizeLine := szn (Nat.le_trans pst.len (by decide))
      refine sm_ret (ev_lcP (ls := [10]) (fun j h => h) (iw_rng1 (ea_cons (ev_var rfl (ea_nil ⟨4, rfl, by decide, by decide, ?_⟩)))))
      refine ⟨by rw [rngD_len]; exact szn' (by decide), fun d => ∃ x, d = .str x ∧ Plain 40 x, ?_, ?_⟩
      · rintro L fr i d hd
        obtain ⟨hi, rfl⟩ := rngD_get hd
        have hi4 : i < 4 := hi
        obtain ⟨z, ez, hm, _⟩ := atI_in (xs := zs.map D.str) (i := 0 + (i : Int)) (by omega) (by simp; omega)
        obtain ⟨y, hy, rfl⟩ := List.mem_map.mp hm
        have py := hz y hy
        have c1 := pst.cut (lo := none) (hi := some at_)
        have c2 := pst.cut (lo := some at_) (hi := none)
        have l1 := c1.len
        have l2 := c2.len
        have l3 := py.len
        have l4 := (c1.app py).len
        refine tg_name (ev_op (ev_op (ev_sl (ev_var rfl (eo_none (eo_some (ev_var rfl ⟨_, rfl, rs3_str zs2 ?_⟩)))))))
        refine ev_op (ev_var rfl (ev_var rfl (rb_ix1 ez (rb_addS (szn (by omega)) ?_))))
        refine ev_sl (ev_var rfl (eo_some (ev_var rfl ⟨_, rfl, eo_none (rs3_str zs2 (rb_addS (szn (by omega)) ⟨_, rfl, ((c1.app py).app c2).mono (by decide)⟩))⟩)))
      · intro out ho hp
        obtain ⟨us, rfl, hu⟩ := strs_ex hp
        exact ⟨us, rfl, by rw [rngD_len, List.length_map] at ho; exact ho, hu⟩)
end
end K12

namespace K12
open PySem PySem.Spec PyProof.Rows L2 Lb
open Evl (Ex)
section
variable {P : Program} {w : World} {K : PySem.W.Frag} {mg : Str → Option Value} {base : Heap}
/-! ### the odd things -/
theorem good_mk {d : D} (ty : ∃ T, d.ty = some T) (st : ∀ x, d = .str x → Plain 100 x) (sh : d.sh = true) (sw : d.py.showable = true) (dp : d.py.depth ≤ 64)
    (h1 : d.py.leavesShort 50 = true) (h2 : d.py.bulk ≤ 1000) : Good d := by
  refine ⟨ty, st, sh, sw, dp, ?_⟩
  have h := PyData.shown_le_bulk 50 (by decide) d.py h1
  refine szn (Nat.le_trans h ?_)
  omega
theorem short_plain {n : Nat} {x : Str} (h : Plain n x) : (x.cps.toList.all fun c => decide (c < 16 ^ 8)) = true := by
  rw [List.all_eq_true]
  intro c hc
  have := h.asc c hc
  exact decide_eq_true (Nat.lt_trans this (by decide))
theorem good_str {x : Str} (h : Plain 100 x) : Good (.str x) := by
  refine good_mk ⟨_, rfl⟩ (fun y e => by cases e; exact h) (by simp [D.sh, D.pl]) (by simp [D.py, PyData.showable]) (by simp [D.py, PyData.depth]) ?_ ?_
  · simp only [D.py, PyData.leavesShort]
    exact short_plain h
  · simp only [D.py, PyData.bulk]
    have := h.len
    simp only [Str.length] at this
    omega
theorem good_int {i : Int} (h : decide (i.natAbs.log2 < 1920) = true) (h2 : decide ((PyData.shown (.int i)).length ≤ 50) = true) : Good (.int i) := by
  refine good_mk ⟨_, rfl⟩ (fun y e => by cases e) (by simp [D.sh, D.pl]) (by simp only [D.py, PyData.showable]; exact h) (by simp [D.py, PyData.depth]) ?_ (by simp [D.py, PyData.bulk])
  simp only [D.py, PyData.leavesShort]
  exact h2
theorem good_small {k : Int} (h0 : 0 ≤ k) (h1 : k < 12) : Good (.int k) := by
  rcases (show k = 0 ∨ k = 1 ∨ k = 2 ∨ k = 3 ∨ k = 4 ∨ k = 5 ∨ k = 6 ∨ k = 7 ∨ k = 8 ∨ k = 9 ∨ k = 10 ∨ k = 11 by omega) with rfl | rfl | rfl | rfl | rfl | rfl | rfl | rfl | rfl | rfl | rfl | rfl <;>
    exact good_int (by decide +kernel) (by decide +kernel)
theorem good_non : Good .non := good_mk ⟨_, rfl⟩ (fun y e => by cases e) (by simp [D.sh, D.pl]) (by simp [D.py, PyData.showable]) (by simp [D.py, PyData.depth]) (by simp [D.py, PyData.leavesShort]) (by simp [D.py, PyData.bulk])
theorem good_bl (b : Bool) : Good (.bl b) := good_mk ⟨_, rfl⟩ (fun y e => by cases e) (by simp [D.sh, D.pl]) (by simp [D.py, PyData.showable]) (by simp [D.py, PyData.depth]) (by simp [D.py, PyData.leavesShort]) (by simp [D.py, PyData.bulk])
theorem good_lst1 {x : Str} (h : Plain 100 x) : Good (.lst [.str x]) := by
  refine good_mk ⟨_, rfl⟩ (fun y e => by cases e) (by simp [D.sh, D.pl, D.pls]) (by simp [D.py, D.pys, PyData.showable, PyData.showableAll]) (by simp [D.py, D.pys, PyData.depth, PyData.depthAll]) ?_ ?_
  · simp only [D.py, D.pys, PyData.leavesShort, PyData.leavesShortAll, short_plain h, Bool.and_true]
  · simp only [D.py, D.pys, PyData.bulk, PyData.bulkAll]
    have := h.len
    simp only [Str.length] at this
    omega
theorem good_tup1 {x : Str} (h : Plain 100 x) : Good (.tup [.str x]) := by
  refine good_mk ⟨_, rfl⟩ (fun y e => by cases e) (by simp [D.sh, D.pl, D.pls]) (by simp [D.py, D.pys, PyData.showable, PyData.showableAll]) (by simp [D.py, D.pys, PyData.depth, PyData.depthAll]) ?_ ?_
  · simp only [D.py, D.pys, PyData.leavesShort, PyData.leavesShortAll, short_plain h, Bool.and_true]
  · simp only [D.py, D.pys, PyData.bulk, PyData.bulkAll]
    have := h.len
    simp only [Str.length] at this
    omega
theorem good_dct {x : Str} {d : D} (h : Plain 100 x) (g : Good d) (hd : d = .non ∨ d = .int 1) : Good (.dct [(.str x, d)]) := by
  have hl := h.len
  simp only [Str.length] at hl
  rcases hd with rfl | rfl
  · refine good_mk ⟨_, rfl⟩ (fun y e => by cases e) (by simp [D.sh, D.sc]) (by simp [D.py, D.pyKv, PyData.showable, PyData.showableKv]) (by simp [D.py, D.pyKv, PyData.depth, PyData.depthKv]) ?_ ?_
    · simp only [D.py, D.pyKv, PyData.leavesShort, PyData.leavesShortKv, short_plain h, Bool.and_true]
    · simp only [D.py, D.pyKv, PyData.bulk, PyData.bulkKv]
      omega
  · refine good_mk ⟨_, rfl⟩ (fun y e => by cases e) (by simp [D.sh, D.sc]) ?_ (by simp [D.py, D.pyKv, PyData.depth, PyData.depthKv]) ?_ ?_
    · simp only [D.py, D.pyKv, PyData.showable, PyData.showableKv, Bool.and_true, Bool.true_and]
      decide +kernel
    · simp only [D.py, D.pyKv, PyData.leavesShort, PyData.leavesShortKv, short_plain h, Bool.and_true, Bool.true_and]
      decide +kernel
    · simp only [D.py, D.pyKv, PyData.bulk, PyData.bulkKv]
      omega
theorem good_conc {d : D} (ty : d.ty.isSome = true) (st : ∀ x, d = .str x → Plain 100 x)
    (h : (d.sh && d.py.showable && decide (d.py.depth ≤ 64) && d.py.leavesShort 50 && decide (d.py.bulk ≤ 1000)) = true) : Good d := by
  simp only [Bool.and_eq_true, decide_eq_true_eq] at h
  obtain ⟨⟨⟨⟨h1, h2⟩, h3⟩, h4⟩, h5⟩ := h
  exact good_mk (Option.isSome_iff_exists.mp ty) st h1 h2 h3 h4 h5
/-- all of a list are good -/
def Gs (ds : List D) : Prop := ∀ d ∈ ds, Good d
theorem gs_nil : Gs [] := fun _ h => nomatch h
theorem gs_cons {d : D} {ds : List D} (h : Good d) (g : Gs ds) : Gs (d :: ds) := fun e he => by
  rcases List.mem_cons.mp he with rfl | he
  · exact h
  · exact g e he
theorem gs_app {ds es : List D} (h : Gs ds) (g : Gs es) : Gs (ds ++ es) := fun e he => (List.mem_append.mp he).elim (h e) (g e)
theorem gs_at {ds : List D} (h : Gs ds) {j : Int} (j0 : 0 ≤ j) (j1 : j < ((ds.length : Nat) : Int)) : ∃ d, atI ds j = some d ∧ Good d := by
  obtain ⟨d, ed, hd, _⟩ := atI_in j0 j1
  exact ⟨d, ed, h d hd⟩
theorem szl2 {xs ys : List D} (h : Nat.ble (xs.length + ys.length) sizeLine = true := by rfl) : xs.length + ys.length ≤ sizeLine := Nat.le_of_ble_eq_true h
theorem signs_lt : ∀ c ∈ (("A0 _-~.b" : Str)).cps.toList, c < 128 := by decide +kernel
theorem d_law_odd (T : Tx K mg) : Def P w K mg base "_law_odd" 2 ["_law_bag_here", "_law_label"] (spOdd K) :=
  defB T.h_F_law_odd sc_F_law_odd bn_F_law_odd rfl (der_F_law_odd T (d_law_take T)) (by
    rintro b bl ns B hB ds hl ⟨y, rfl, py⟩
    have g := bagged_Wb (K := K) (b := b) (bl := bl) (ns := ns) (B := B) (hB := hB)
    have ly := py.len
    have zy : y.length ≤ sizeLine := szn (by omega)
    refine sm_seq (sm_par (ea_cons (ev_take g rfl (ev_op (ev_CB (ea_cons (ev_var rfl (ea_nil (rc_lenS zy (ev_int (rb_addI ⟨(y.length : Int) + 1, rfl, by omega, by omega, fun at_ a0 a1 => ?_⟩)))))))))))
    refine ea_cons (ev_op (ev_str (ev_takeC g rfl (by decide) (by decide) fun k k0 k1 => ?_)))
    obtain ⟨c, ec, hm, _⟩ := atI_in (xs := (("A0 _-~.b" : Str)).cps.toList) k0 (by show k < ((8 : Nat) : Int); omega)
    refine rb_ix3 (by decide +kernel) ec (ea_nil ⟨_, _, rfl, ?_⟩)
    have pc := plain_sign (signs_lt c hm)
    have c1 := py.cut (lo := none) (hi := some at_)
    have c2 := py.cut (lo := some at_) (hi := none)
    have l1 := c1.len
    have l2 := c2.len
    have l3 := (c1.app pc).len
    have lc := pc.len
    refine sm_seq (sm_set (ev_lst (ea_cons (ev_int (ea_cons (ev_int (ea_cons (ev_un (ev_int (ru_I (g := fun a => -a) ?_))))))))))
    refine ea_cons (ev_bl (ea_cons (ev_bl (ea_cons (ev_non ?_)))))
    refine ea_cons (ev_op (ev_int (ev_int (rb_I (C := CPow) (g := fun i j => i ^ j.toNat) ⟨by decide, by decide, by decide⟩ ?_))))
    refine ea_cons (ev_un (ev_op (ev_int (ev_int (rb_I (C := CPow) (g := fun i j => i ^ j.toNat) ⟨by decide, by decide, by decide⟩ (ru_I (g := fun a => -a) ?_))))))
    refine ea_cons (ev_var rfl ?_)
    refine ea_cons (ev_op (ev_op (ev_sl (ev_var rfl (eo_none (eo_some (ev_var rfl ⟨_, rfl, rs3_str zy (ev_var rfl (rb_addS (szn (by omega)) ?_))⟩)))))))
    refine ev_sl (ev_var rfl (eo_some (ev_var rfl ⟨_, rfl, eo_none (rs3_str zy (rb_addS (szn (by omega)) ?_))⟩)))
    refine ea_cons (ev_str (ea_cons (ev_op (ev_var rfl (ev_int (rb_mulS (by decide) (by decide) (by omega) (ea_nil ⟨szl, ?_⟩)))))))
    have g1 : Gs [.int 0, .int 1, .int (-1), .bl true, .bl false, .non, .int (10 ^ (39 : Int).toNat), .int (-(10 ^ (39 : Int).toNat)), .str y, .str (cutS y none (some at_) ++ ⟨#[c]⟩ ++ cutS y (some at_) none), .str "",
        .str (if (2 : Int) < 1 then Str.empty else if ((2 : Int) == 1 || y.length == 0) = true then y else repS y 2)] := by
      refine gs_cons (good_int (by decide +kernel) (by decide +kernel)) (gs_cons (good_int (by decide +kernel) (by decide +kernel)) (gs_cons (good_int (by decide +kernel) (by decide +kernel)) ?_))
      refine gs_cons (good_bl _) (gs_cons (good_bl _) (gs_cons good_non ?_))
      refine gs_cons (good_int (by decide +kernel) (by decide +kernel)) (gs_cons (good_int (by decide +kernel) (by decide +kernel)) ?_)
      refine gs_cons (good_str (py.mono (by decide))) (gs_cons (good_str (((c1.app pc).app c2).mono (by decide))) (gs_cons (good_str (plain_of (by decide +kernel))) (gs_cons (good_str ?_) gs_nil)))
      exact (py.rep (k := 2) (m := 2) (by decide) (by decide)).mono (by decide)
    refine sm_seq (sm_set (ev_op (ev_var rfl (ev_lst (ea_cons (ev_lst (ea_cons (ev_var rfl (ea_nil ⟨szl, ?_⟩)))))))))
    refine ea_cons (ev_tup (ea_cons (ev_var rfl (ea_nil ⟨szl, ?_⟩))))
    refine ea_cons (ev_disp fun L fr => ep_cons (ev_var rfl (ev_int (ep_nil ⟨Nat.le_of_ble_eq_true rfl, ⟨[.inr y], rfl, by simp⟩, ?_⟩))))
    refine ea_cons (ev_lst (ea_nil ⟨szl, ea_cons (ev_tup (ea_nil ⟨szl, ?_⟩))⟩))
    refine ea_cons (ev_takeC g rfl (by decide) (by decide) fun k2 k20 k21 => ?_)
    refine ea_cons (ev_sl (ev_var rfl (eo_none (eo_some (ev_int ⟨_, rfl, rs3_str zy ?_⟩)))))
    have p8 : Plain 8 ("abcdefgh" : Str) := plain_of (by decide +kernel)
    refine ea_cons (ev_op (ev_var rfl (ev_str (rb_addS (szn (by have := p8.len; omega)) (ea_nil ⟨szl, rb_addL szl2 ?_⟩)))))
    have g2 : Gs [.lst [.str y], .tup [.str y], .dct [(.str y, .int 1)], .lst [], .tup [], .int k2, .str (cutS y none (some 8)), .str (y ++ "abcdefgh")] := by
      refine gs_cons (good_lst1 (py.mono (by decide))) (gs_cons (good_tup1 (py.mono (by decide))) (gs_cons (good_dct (py.mono (by decide)) (good_small (by decide) (by decide)) (Or.inr rfl)) ?_))
      refine gs_cons (good_conc rfl (fun x e => by cases e) (by decide +kernel)) (gs_cons (good_conc rfl (fun x e => by cases e) (by decide +kernel)) (gs_cons (good_small k20 k21) ?_))
      exact gs_cons (good_str (py.cut.mono (by decide))) (gs_cons (good_str ((py.app p8).mono (by decide))) gs_nil)
    refine sm_seq (sm_set (ev_op (ev_var rfl (ev_lst (ea_cons (ev_disp fun L fr => ep_cons (ev_int (ev_int (ep_nil ⟨by decide, ⟨[.inl 0], rfl, by simp⟩, ?_⟩)))))))))
    refine ea_cons (ev_disp fun L fr => ep_cons (ev_var rfl (ev_non (ep_nil ⟨Nat.le_of_ble_eq_true rfl, ⟨[.inr y], rfl, by simp⟩, ?_⟩))))
    refine ea_cons (ev_lst (ea_cons (ev_int (ea_nil ⟨szl, ?_⟩))))
    refine ea_cons (ev_str (ea_cons (ev_str (ea_cons (ev_str (ea_nil ⟨szl, rb_addL szl2 ?_⟩))))))
    have g3 : Gs [.dct [(.int 0, .int 1)], .dct [(.str y, .non)], .lst [.int 0], .str "0", .str "ninesigns", .str "eightlet"] := by
      refine gs_cons (good_conc rfl (fun x e => by cases e) (by decide +kernel)) (gs_cons (good_dct (py.mono (by decide)) good_non (Or.inl rfl)) (gs_cons (good_conc rfl (fun x e => by cases e) (by decide +kernel)) ?_))
      exact gs_cons (good_str (plain_of (by decide +kernel))) (gs_cons (good_str (plain_of (by decide +kernel))) (gs_cons (good_str (plain_of (by decide +kernel))) gs_nil))
    refine sm_ret (ev_op (ev_var rfl (ev_takeC g rfl (by decide) (by decide) fun j j0 j1 => ?_)))
    have ga := gs_app (gs_app g1 g2) g3
    have j1' : j < ((26 : Nat) : Int) := j1
    obtain ⟨d, ed, hd⟩ := gs_at ga j0 j1'
    exact rb_ix1 ed hd)
end
end K12

namespace K12
open PySem PySem.Spec PyProof.Rows L2 Lb
open Evl (Ex)
section
variable {P : Program} {w : World} {K : PySem.W.Frag} {mg : Str → Option Value} {base : Heap}
/-! ### the law's own judgement -/
theorem letters_iff (c : Nat) : c ∈ letters.cps.toList ↔ 97 ≤ c ∧ c ≤ 122 := by
  have e : letters.cps.toList = List.range' 97 26 := by decide +kernel
  rw [e, List.mem_range'_1]
  omega
theorem one_lt (a b : Nat) : (([a] : List Nat) < [b]) ↔ a < b := by
  rw [List.cons_lt_cons_iff]
  constructor
  · rintro (h | ⟨_, h⟩)
    · exact h
    · exact absurd h (List.lt_irrefl _)
  · exact Or.inl
def odds (x : Str) : List D := (x.cps.toList.filter fun c => !decide (c ∈ letters.cps.toList)).map fun c => D.str ⟨#[c]⟩
theorem strs_pls (l : List Nat) : D.pls (l.map fun c => D.str ⟨#[c]⟩) = true := by
  induction l with
  | nil => simp [D.pls]
  | cons c l ih => simp [D.pls, D.pl, ih]
theorem strs_lay {l : List Nat} (h : ∀ c ∈ l, c < 128) : PyData.canLayAll0 (D.pys (l.map fun c => D.str ⟨#[c]⟩)) = true := by
  induction l with
  | nil => simp [D.pys, PyData.canLayAll0]
  | cons c l ih =>
    have h1 := h c List.mem_cons_self
    have h2 := ih fun z hz => h z (List.mem_cons_of_mem _ hz)
    simp only [List.map_cons, D.pys, D.py, PyData.canLayAll0, PyData.canLay0, h2, Bool.and_true]
    unfold PyData.strOk
    rw [← Array.all_toList]
    simp
    omega
theorem strs_depth (l : List Nat) : PyData.depthAll (D.pys (l.map fun c => D.str ⟨#[c]⟩)) = 0 := by
  induction l with
  | nil => simp [D.pys, PyData.depthAll]
  | cons c l ih => simp [D.pys, D.py, PyData.depthAll, PyData.depth, ih]
theorem d_law_own (T : Tx K mg) : Def P w K mg base "_law_own" 1 ["_law_thing", "_law_many"] (spOwn K) :=
  defD T.h_F_law_own sc_F_law_own bn_F_law_own rfl (der_F_law_own T) (by
    rintro B ds hl ⟨m, d, rfl, g⟩
    obtain ⟨T0, hT⟩ := g.ty
    -- whole
    refine sm_seq (sm_set (ev_and (ev_CB (ea_cons (ev_var rfl (ea_cons (ev_raw (ea_nil (rc_isi hT (kit_int hT) ⟨_, rfl, ?_⟩)))))))))
    have whole : ∀ Z : D → Prop, Z (.bl (isInt d)) → if (isInt d || isB d) = true then Ev (Wp K B) (tAndV (tOp rNotB' (tVar 0) (tC (.bl true))) (tOp rNotB' (tVar 0) (tC (.bl false)))) [some d, some (.int m), none, none, none] Z else Z (.bl false) := by
      intro Z z
      cases d with
      | int i => exact (if_pos rfl).mpr (ev_and (ev_op (ev_var rfl (ev_bl (rb_notB (Or.inr ⟨⟨i, rfl⟩, rfl⟩) ⟨_, rfl, (if_pos rfl).mpr (ev_op (ev_var rfl (ev_bl (rb_notB (Or.inr ⟨⟨i, rfl⟩, rfl⟩) z))))⟩)))))
      | bl a =>
        refine (if_pos rfl).mpr (ev_and (ev_op (ev_var rfl (ev_bl (rb_notB (Or.inl ⟨a, rfl, rfl⟩) ⟨_, rfl, ?_⟩)))))
        cases a with
        | true => exact (if_neg (by decide)).mpr z
        | false => exact (if_pos rfl).mpr (ev_op (ev_var rfl (ev_bl (rb_notB (Or.inl ⟨false, rfl, rfl⟩) z))))
      | _ => exact (if_neg (by simp [isInt, isB])).mpr z
    refine whole _ ?_
    clear whole
    -- spelt
    refine sm_seq (sm_set (ev_and (ev_CB (ea_cons (ev_var rfl (ea_cons (ev_raw (ea_nil (rc_isi hT (kit_str hT) ⟨_, rfl, ?_⟩)))))))))
    have spelt : ∀ Z : D → Prop, (∀ k, (k = true → ∃ x, d = .str x ∧ 1 ≤ x.length ∧ x.length ≤ 8) → (k = false → isName d = false) → Z (.bl k)) →
        if isS d = true then Ev (Wp K B) (tAndV (tOp rNe (tVar 0) (tC (.str ""))) (tOp (rI0 fun i j => .bl (decide (i < j))) (tCB (rLen K) (tCons (tVar 0) tNil)) (tC (.int 9)))) [some d, some (.int m), some (.bl (isInt d)), none, none] Z else Z (.bl false) := by
      intro Z z
      cases d with
      | str x =>
        have hz := sz20 (g.str x rfl).len (by decide)
        refine (if_pos rfl).mpr (ev_and (ev_op (ev_var rfl (ev_str (rb_neS ⟨_, rfl, ?_⟩)))))
        by_cases hx : x = ""
        · rw [decide_eq_true hx]
          refine (if_neg (by decide)).mpr (z _ (fun h => by cases h) fun _ => ?_)
          subst hx
          decide +kernel
        · rw [decide_eq_false hx]
          have h1 : 1 ≤ x.length := by
            rcases Nat.eq_zero_or_pos x.length with h | h
            · exfalso
              apply hx
              obtain ⟨cps⟩ := x
              simp only [Str.length, Array.size_eq_zero_iff] at h
              subst h
              decide +kernel
            · exact h
          refine (if_pos rfl).mpr (ev_op (ev_CB (ea_cons (ev_var rfl (ea_nil (rc_lenS hz (ev_int (rb_B0 ?_))))))))
          by_cases h2 : (x.length : Int) < 9
          · rw [decide_eq_true h2]
            exact z _ (fun _ => ⟨x, rfl, h1, by omega⟩) fun h => by cases h
          · rw [decide_eq_false h2]
            refine z _ (fun h => by cases h) fun _ => ?_
            show isNameS x = false
            unfold isNameS
            rw [decide_eq_false (show ¬ (1 ≤ x.length ∧ x.length ≤ 8) by omega), Bool.false_and]
      | _ => exact (if_neg (by simp [isS])).mpr (z _ (fun h => by cases h) fun _ => rfl)
    refine spelt _ fun k hk1 hk0 => ?_
    clear spelt
    -- the signs
    refine sm_seq (sm_set (ev_and (ev_var rfl ⟨_, rfl, ?_⟩)))
    have signs : ∀ Z : D → Prop, Z (.bl (isName d)) → if k = true then Ev (Wp K B) (tOp (rEqD K) (tLc (iStr (tVar 0)) (gName 4) (tNot (tTest (tChain rLeS rLeS (tC (.str "a")) (tVar 4) (tC (.str "z"))))) (tVar 4) [4]) (tLst tNil))
        [some d, some (.int m), some (.bl (isInt d)), some (.bl k), none] Z else Z (.bl false) := by
      intro Z z
      cases k with
      | false =>
        rw [hk0 rfl] at z
        exact (if_neg (by decide)).mpr z
      | true =>
        obtain ⟨x, rfl, h1, h2⟩ := hk1 rfl
        refine (if_pos rfl).mpr (ev_op (ev_lc (ls := [4]) (fun j h => h) (iw_str (ev_var rfl ⟨x, rfl, ?_⟩))))
        refine ⟨by rw [sgnD_len]; exact szn' (by omega), fun i out => out = ((x.cps.toList.take i).filter fun c => !decide (c ∈ letters.cps.toList)).map fun c => D.str ⟨#[c]⟩, rfl, ?_, ?_⟩
        · rintro L _ i d out hd rfl
          obtain ⟨c, hc, rfl⟩ := sgnD_at hd
          have step : ∀ bb : Bool, bb = decide (c ∈ letters.cps.toList) → (if (!bb) = true then Ev ((Wp K B).plus L) (tVar 4) [some (.str x), some (.int m), some (.bl (isInt (.str x))), some (.bl true), some (.str ⟨#[c]⟩)]
              (fun e => ((x.cps.toList.take i).filter fun c => !decide (c ∈ letters.cps.toList)).map (fun c => D.str ⟨#[c]⟩) ++ [e] = ((x.cps.toList.take (i + 1)).filter fun c => !decide (c ∈ letters.cps.toList)).map fun c => D.str ⟨#[c]⟩)
              else ((x.cps.toList.take i).filter fun c => !decide (c ∈ letters.cps.toList)).map (fun c => D.str ⟨#[c]⟩) = ((x.cps.toList.take (i + 1)).filter fun c => !decide (c ∈ letters.cps.toList)).map fun c => D.str ⟨#[c]⟩) := by
            intro bb hb
            rw [take_snoc hc, List.filter_append, List.map_append]
            by_cases hm : c ∈ letters.cps.toList
            · rw [hb, decide_eq_true hm]
              refine (if_neg (by decide)).mpr ?_
              rw [List.filter_cons_of_neg (by simp [hm])]
              simp
            · rw [hb, decide_eq_false hm]
              refine (if_pos (by decide)).mpr (ev_var rfl ?_)
              rw [List.filter_cons_of_pos (by simp [hm])]
              simp
          refine tg_name (ts_not (ts_test (ev_chain (ev_str (ev_var rfl (rb_strle ⟨_, rfl, ?_⟩))))))
          have ea : (([c] : List Nat) < (("a" : Str)).cps.toList) ↔ c < 97 := one_lt c 97
          have ez : ((("z" : Str)).cps.toList < ([c] : List Nat)) ↔ 122 < c := one_lt 122 c
          by_cases ha : c < 97
          · have e1 : (!decide ((⟨#[c]⟩ : Str).cps.toList < (("a" : Str)).cps.toList)) = false := by
              rw [decide_eq_true (ea.mpr ha)]; rfl
            refine (if_neg (by rw [e1]; decide)).mpr ⟨_, rfl, step _ ?_⟩
            rw [decide_eq_false (fun h => by have := (letters_iff c).mp h; omega)]
          · have e1 : (!decide ((⟨#[c]⟩ : Str).cps.toList < (("a" : Str)).cps.toList)) = true := by
              rw [decide_eq_false (fun h => ha (ea.mp h))]; rfl
            refine (if_pos e1).mpr (ev_str (rb_strle ⟨_, rfl, step _ ?_⟩))
            by_cases hz : 122 < c
            · have e2 : decide (c ∈ letters.cps.toList) = false := decide_eq_false (fun h => by have := (letters_iff c).mp h; omega)
              rw [e2]
              show (!decide ((("z" : Str)).cps.toList < ([c] : List Nat))) = false
              rw [decide_eq_true (ez.mpr hz)]; rfl
            · have e2 : decide (c ∈ letters.cps.toList) = true := decide_eq_true ((letters_iff c).mpr (by omega))
              rw [e2]
              show (!decide ((("z" : Str)).cps.toList < ([c] : List Nat))) = true
              rw [decide_eq_false (fun h => hz (ez.mp h))]; rfl
        · rintro out rfl
          rw [sgnD_len, show x.length = x.cps.toList.length from by simp [Str.length], List.take_length]
          refine ev_lst (ea_nil ⟨szl, ?_⟩)
          have asc := (g.str x rfl).asc
          have fl : ∀ c ∈ x.cps.toList.filter (fun c => !decide (c ∈ letters.cps.toList)), c < 128 := fun c hc => asc c (List.mem_filter.mp hc).1
          have key : isName (.str x) = (x.cps.toList.filter fun c => !decide (c ∈ letters.cps.toList)).isEmpty := by
            show isNameS x = _
            unfold isNameS
            rw [decide_eq_true (show 1 ≤ x.length ∧ x.length ≤ 8 from ⟨h1, h2⟩), Bool.true_and]
            generalize x.cps.toList = l
            induction l with
            | nil => rfl
            | cons c l ih =>
              rw [List.all_cons, ih, List.filter_cons]
              by_cases hm : c ∈ letters.cps.toList
              · simp [hm]
              · simp [hm]
          rw [key] at z
          revert fl z
          generalize x.cps.toList.filter (fun c => !decide (c ∈ letters.cps.toList)) = fs
          intro z fl
          refine rb_eqD (by simp only [D.pl]; exact strs_pls fs) (by simp [D.pl, D.pls]) ?_ (by decide +kernel) ?_
          · unfold SeqAt.shaped
            simp only [D.py, PyData.canLay0, strs_lay fl, PyData.depth, strs_depth]
            decide
          · cases fs with
            | nil =>
              simp only [List.map_nil, D.py, D.pys, PyData.eqv, PyData.eqvAll]
              exact z
            | cons c fs =>
              simp only [List.map_cons, D.py, D.pys, PyData.eqv, PyData.eqvAll]
              exact z
    refine signs _ ?_
    clear signs
    refine sm_ret (ev_lst (ea_cons (ev_var rfl (ea_cons (ev_var rfl (ea_cons (ev_and (ev_var rfl ⟨_, rfl, ?_⟩))))))))
    cases d with
    | int i =>
      refine (if_pos rfl).mpr (ev_chain (ev_int (ev_var rfl (rb_B0 ⟨_, rfl, ?_⟩))))
      by_cases h0 : (0 : Int) ≤ i
      · rw [decide_eq_true h0]
        refine (if_pos rfl).mpr (ev_var rfl (rb_B0 (ea_nil ⟨szl, m, _, rfl, ?_⟩)))
        simp [isNum, h0]
      · rw [decide_eq_false h0]
        refine (if_neg (by decide)).mpr (ea_nil ⟨szl, m, _, rfl, ?_⟩)
        simp [isNum, h0]
    | _ => exact (if_neg (by simp [isInt])).mpr (ea_nil ⟨szl, m, _, rfl, rfl⟩))
end
end K12

namespace K12
open PySem PySem.Spec PyProof.Rows L2 Lb
open Evl (Ex)
section
variable {P : Program} {w : World} {K : PySem.W.Frag} {mg : Str → Option Value} {base : Heap}
theorem law_c1 {b bl : Addr} {ms : List Int} : Sm (Wb K b bl ms (· = b) rfl) (t_F_law_c1 K) [none, some (.raw (.ref b)), none, none, none, none, none, none, none] ⟨fun _ => False, fun d => d = .bl true⟩ := by
  have g := bagged_Wb (K := K) (b := b) (bl := bl) (ns := ms) (B := (· = b)) (hB := rfl)
  refine sm_seq (sm_set (ev_callB g (ea_cons (ev_var rfl (ea_cons (ev_int (ea_nil ⟨[.int 4], rfl, rfl, rfl, ?_⟩)))))))
  rintro d ⟨ys, rfl, hl, hp⟩
  refine sm_seq (sm_set (ev_lcP (ls := [8]) (fun j h => h) (iw_rng1 (ea_cons (ev_int (ea_nil ⟨30, rfl, by decide, by decide, ?_⟩))))))
  refine ⟨by rw [rngD_len]; exact szn' (by decide), fun d => ∃ t m, d = .tup [t, .int m] ∧ Good t, ?_, ?_⟩
  · rintro L fr i d hd
    have g' := g.plus fr
    refine tg_name (ev_tup (ea_cons (ev_callB g' (ea_cons (ev_var rfl (ea_cons (ev_op (ev_var rfl (ev_takeC g' rfl (by decide) (by decide) fun k k0 k1 => ?_)))))))))
    obtain ⟨z, ez, hm, _⟩ := atI_in (xs := ys.map D.str) (i := k) k0 (by rw [List.length_map, hl]; exact k1)
    obtain ⟨y, hy, rfl⟩ := List.mem_map.mp hm
    refine rb_ix1 ez (ea_nil ⟨[.str y], rfl, rfl, ⟨y, rfl, hp y hy⟩, fun t gt => ?_⟩)
    refine ea_cons (ev_op (ev_lst (ea_cons (ev_int (ea_cons (ev_int (ea_cons (ev_int (ea_cons (ev_int (ea_cons (ev_op (ev_int (ev_int (rb_I (C := CPow) (g := fun i j => i ^ j.toNat) ⟨by decide, by decide, by decide⟩ ?_)))))))))))))))
    refine ea_nil ⟨szl, ev_takeC g' rfl (by decide) (by decide) fun j j0 j1 => ?_⟩
    have j1' : j < ((5 : Nat) : Int) := j1
    obtain ⟨z, ez, hm, _⟩ := atI_in (xs := [D.int 0, .int 1, .int 2, .int 12, .int (10 ^ (39 : Int).toNat)]) j0 j1'
    have hz : ∃ m, z = .int m := by
      simp only [List.mem_cons, List.not_mem_nil, or_false] at hm
      rcases hm with rfl | rfl | rfl | rfl | rfl <;> exact ⟨_, rfl⟩
    obtain ⟨m, rfl⟩ := hz
    exact rb_ix1 ez (ea_nil ⟨szl, t, m, rfl, gt⟩)
  intro out ho hP
  have ho30 : out.length = 30 := by rw [rngD_len] at ho; exact ho
  refine sm_seq (sm_for (ls := [4] ++ ([5] ++ [])) (iw_list (ev_op (ev_var rfl (ev_rev (ev_var rfl ⟨_, rfl, rb_addL (szn (by simp [ho30])) ⟨_, rfl, fun _ ρ' => ∃ a0 a1 a2 a3 a4 a5 a6 a7 a8, ρ' = [a0, a1, a2, a3, a4, a5, a6, a7, a8], ⟨_, _, _, _, _, _, _, _, _, rfl⟩, ?_, ?_⟩⟩))))))
  · rintro i d ρ' hd ⟨a0, a1, a2, a3, a4, a5, a6, a7, a8, rfl⟩
    have hm : d ∈ out := by
      rcases List.mem_append.mp (List.mem_of_getElem? hd) with h | h
      · exact h
      · exact List.mem_reverse.mp h
    obtain ⟨t, m, rfl, gt⟩ := hP d hm
    refine tg_tup rfl (tgs_cons (tg_name (tgs_cons (tg_name (tgs_nil ?_)))))
    refine sm_seq (sm_set (ev_CB (ea_cons (ev_var rfl (ea_nil (rc_repr gt.sh gt.sw gt.dp gt.sz ?_))))))
    refine sm_seq (sm_set (ev_lst (ea_cons (ev_callD (ea_cons (ev_var rfl (ea_nil ⟨rfl, ⟨t, rfl, gt⟩, ?_⟩)))))))
    rintro r ⟨t', e, rfl⟩
    cases e
    refine ea_cons (ev_callD (ea_cons (ev_var rfl (ea_nil ⟨rfl, ⟨t, rfl, gt⟩, ?_⟩))))
    rintro r ⟨t', e, rfl⟩
    cases e
    refine ea_cons (ev_callD (ea_cons (ev_var rfl (ea_cons (ev_var rfl (ea_nil ⟨rfl, ⟨m, t, rfl, gt⟩, ?_⟩))))))
    rintro r ⟨m', t', e, rfl⟩
    cases e
    refine ea_nil ⟨szl, ?_⟩
    refine sm_if (ts_or (ts_not (ts_B (ev_callD (ea_cons (ev_var rfl (ea_cons (ev_callD (ea_cons (ev_var rfl (ea_cons (ev_var rfl (ea_nil ⟨rfl, ⟨m, t, rfl, gt⟩, ?_⟩)))))))))))))
    rintro r ⟨m', t', e, rfl⟩
    cases e
    refine ea_nil ⟨rfl, ⟨[isInt t, isName t, isNum m t], rfl, rfl⟩, ?_⟩
    rintro r rfl
    refine ⟨_, rfl, (if_neg (by decide)).mpr ?_⟩
    refine ts_test (ev_op (ev_CB (ea_cons (ev_var rfl (ea_nil (rc_repr gt.sh gt.sw gt.dp gt.sz (ev_var rfl (rb_neS ⟨_, rfl, ?_⟩))))))))
    rw [decide_eq_true rfl]
    exact (if_neg (by decide)).mpr (sm_next ⟨_, _, _, _, _, _, _, _, _, rfl⟩)
  · rintro ρ' _
    exact sm_ret (ev_bl rfl)
theorem law_body : ∀ vs H Q E, spLaw K vs H Q E → t_F_law K { nx := fun _ H' => Q .non H', rt := Q } (L2.start N_F_law vs) H := by
  rintro vs H Q E ⟨a, ns, rfl, hS, hl, q⟩
  refine ⟨.ref a, rfl, ?_⟩
  refine ⟨a, ns, rfl, hS, hl, fun b bl ms H' nb ex bag => ?_⟩
  refine law_c1 (K := K) (b := b) (bl := bl) (ms := ms) _ H' ?_ ⟨bag, fun p hp e => bag.ne (by rw [← e]; exact hp)⟩ _ (fun σ' H2 ρ' _ _ _ h => h.elim) ?_
  · refine ⟨rfl, fun i d hd => ?_⟩
    match i with
    | 0 => cases hd
    | 1 =>
      cases hd
      exact ⟨_, rfl, .raw _⟩
    | 2 => cases hd
    | 3 => cases hd
    | 4 => cases hd
    | 5 => cases hd
    | 6 => cases hd
    | 7 => cases hd
    | 8 => cases hd
    | n + 9 => cases hd
  · rintro v H2 d _ _ rfl dv
    cases dv
    exact q H2
theorem d_law (T : Tx K mg) : DefG P w K mg base "law" 3 ["_law_script"] (spLaw K) :=
  defG_mk T.h_F_law bn_F_law fun f fd F => okG F sc_F_law (fun vs H Q E ⟨a, ns, e, _⟩ => by rw [e]; rfl) fun cdv A outer s H vs Q E hG hr hs =>
    ⟨t_F_law K, der_F_law T (d_law_bag T) (d_law_labels T) (d_law_take T) (d_law_odd T) (d_is_number T) (d_is_name T) (d_is_integer T) (d_law_alike T) (d_law_own T) f cdv A outer s H E hG hr, law_body vs H Q E hs⟩
end
end K12

namespace K12
open PySem PySem.Spec PyProof.Rows L2 Lb
open Evl (Ex)
theorem spLaw_end {K : PySem.W.Frag} : spLaw K = spEnd K := rfl
theorem ok_law {P : Program} {w : World} {K : PySem.W.Frag} {mg : Str → Option Value} {base : Heap} (T : Tx K mg) (f : Addr) (fd : FuncData) (F : Fun K "law" "law" s_F_law f fd) : FnG P w K mg base CX0 3 f fd ["_law_script"] (spEnd K) :=
  okG F sc_F_law spEnd_len fun cdv A outer s H vs Q E hG hr hs =>
    ⟨t_F_law K, der_F_law T (d_law_bag T) (d_law_labels T) (d_law_take T) (d_law_odd T) (d_is_number T) (d_is_name T) (d_is_integer T) (d_law_alike T) (d_law_own T) f cdv A outer s H E hG hr, law_body vs H Q E hs⟩
theorem tx_mk {K : PySem.W.Frag} {h : Heap} {mg : Str → Option Value} (X : K.In h) (G : h.Ns mainGlobals mg)
    {f0 : Addr} {od0 an0 : Option Addr} {sl0 : Array (Option Value)} {oc0 kV0 dc0 pm0 cd0 ct0 : Value}
    {f1 : Addr} {od1 an1 : Option Addr} {sl1 : Array (Option Value)} {oc1 kV1 dc1 pm1 cd1 ct1 : Value}
    {f2 : Addr} {od2 an2 : Option Addr} {sl2 : Array (Option Value)} {oc2 kV2 dc2 pm2 cd2 ct2 : Value}
    {f3 : Addr} {od3 an3 : Option Addr} {sl3 : Array (Option Value)} {oc3 kV3 dc3 pm3 cd3 ct3 : Value}
    {f4 : Addr} {od4 an4 : Option Addr} {sl4 : Array (Option Value)} {oc4 kV4 dc4 pm4 cd4 ct4 : Value}
    {f5 : Addr} {od5 an5 : Option Addr} {sl5 : Array (Option Value)} {oc5 kV5 dc5 pm5 cd5 ct5 : Value}
    {f6 : Addr} {od6 an6 : Option Addr} {sl6 : Array (Option Value)} {oc6 kV6 dc6 pm6 cd6 ct6 : Value}
    {f7 : Addr} {od7 an7 : Option Addr} {sl7 : Array (Option Value)} {oc7 kV7 dc7 pm7 cd7 ct7 : Value}
    {f8 : Addr} {od8 an8 : Option Addr} {sl8 : Array (Option Value)} {oc8 kV8 dc8 pm8 cd8 ct8 : Value}
    {f9 : Addr} {od9 an9 : Option Addr} {sl9 : Array (Option Value)} {oc9 kV9 dc9 pm9 cd9 ct9 : Value}
    {tk_LETTERS : Tok}
    (a0 : PySem.W.nsIn K mainGlobals "is_integer" = some (some (.ref f0))) (l0 : K.lookup f0 = some ⟨oc0, od0, .func (PySem.W.fnOf "is_integer" "is_integer" (defArgs s_F_is_integer) (defBody s_F_is_integer) (defScope s_F_is_integer) .none kV0 dc0 pm0 an0 cd0 ct0), sl0⟩) (c0 : PySem.W.codeIn K cd0 "is_integer" = true) (k0 : PySem.W.keepIn K (.ref f0) = true)
    (a1 : PySem.W.nsIn K mainGlobals "is_name" = some (some (.ref f1))) (l1 : K.lookup f1 = some ⟨oc1, od1, .func (PySem.W.fnOf "is_name" "is_name" (defArgs s_F_is_name) (defBody s_F_is_name) (defScope s_F_is_name) .none kV1 dc1 pm1 an1 cd1 ct1), sl1⟩) (c1 : PySem.W.codeIn K cd1 "is_name" = true) (k1 : PySem.W.keepIn K (.ref f1) = true)
    (a2 : PySem.W.nsIn K mainGlobals "is_number" = some (some (.ref f2))) (l2 : K.lookup f2 = some ⟨oc2, od2, .func (PySem.W.fnOf "is_number" "is_number" (defArgs s_F_is_number) (defBody s_F_is_number) (defScope s_F_is_number) .none kV2 dc2 pm2 an2 cd2 ct2), sl2⟩) (c2 : PySem.W.codeIn K cd2 "is_number" = true) (k2 : PySem.W.keepIn K (.ref f2) = true)
    (a3 : PySem.W.nsIn K mainGlobals "_law_bag" = some (some (.ref f3))) (l3 : K.lookup f3 = some ⟨oc3, od3, .func (PySem.W.fnOf "_law_bag" "_law_bag" (defArgs s_F_law_bag) (defBody s_F_law_bag) (defScope s_F_law_bag) .none kV3 dc3 pm3 an3 cd3 ct3), sl3⟩) (c3 : PySem.W.codeIn K cd3 "_law_bag" = true) (k3 : PySem.W.keepIn K (.ref f3) = true)
    (a4 : PySem.W.nsIn K mainGlobals "_law_take" = some (some (.ref f4))) (l4 : K.lookup f4 = some ⟨oc4, od4, .func (PySem.W.fnOf "_law_take" "_law_take" (defArgs s_F_law_take) (defBody s_F_law_take) (defScope s_F_law_take) .none kV4 dc4 pm4 an4 cd4 ct4), sl4⟩) (c4 : PySem.W.codeIn K cd4 "_law_take" = true) (k4 : PySem.W.keepIn K (.ref f4) = true)
    (a5 : PySem.W.nsIn K mainGlobals "_law_alike" = some (some (.ref f5))) (l5 : K.lookup f5 = some ⟨oc5, od5, .func (PySem.W.fnOf "_law_alike" "_law_alike" (defArgs s_F_law_alike) (defBody s_F_law_alike) (defScope s_F_law_alike) .none kV5 dc5 pm5 an5 cd5 ct5), sl5⟩) (c5 : PySem.W.codeIn K cd5 "_law_alike" = true) (k5 : PySem.W.keepIn K (.ref f5) = true)
    (a6 : PySem.W.nsIn K mainGlobals "_law_labels" = some (some (.ref f6))) (l6 : K.lookup f6 = some ⟨oc6, od6, .func (PySem.W.fnOf "_law_labels" "_law_labels" (defArgs s_F_law_labels) (defBody s_F_law_labels) (defScope s_F_law_labels) .none kV6 dc6 pm6 an6 cd6 ct6), sl6⟩) (c6 : PySem.W.codeIn K cd6 "_law_labels" = true) (k6 : PySem.W.keepIn K (.ref f6) = true)
    (a7 : PySem.W.nsIn K mainGlobals "_law_odd" = some (some (.ref f7))) (l7 : K.lookup f7 = some ⟨oc7, od7, .func (PySem.W.fnOf "_law_odd" "_law_odd" (defArgs s_F_law_odd) (defBody s_F_law_odd) (defScope s_F_law_odd) .none kV7 dc7 pm7 an7 cd7 ct7), sl7⟩) (c7 : PySem.W.codeIn K cd7 "_law_odd" = true) (k7 : PySem.W.keepIn K (.ref f7) = true)
    (a8 : PySem.W.nsIn K mainGlobals "_law_own" = some (some (.ref f8))) (l8 : K.lookup f8 = some ⟨oc8, od8, .func (PySem.W.fnOf "_law_own" "_law_own" (defArgs s_F_law_own) (defBody s_F_law_own) (defScope s_F_law_own) .none kV8 dc8 pm8 an8 cd8 ct8), sl8⟩) (c8 : PySem.W.codeIn K cd8 "_law_own" = true) (k8 : PySem.W.keepIn K (.ref f8) = true)
    (a9 : PySem.W.nsIn K mainGlobals "law" = some (some (.ref f9))) (l9 : K.lookup f9 = some ⟨oc9, od9, .func (PySem.W.fnOf "law" "law" (defArgs s_F_law) (defBody s_F_law) (defScope s_F_law) .none kV9 dc9 pm9 an9 cd9 ct9), sl9⟩) (c9 : PySem.W.codeIn K cd9 "law" = true) (k9 : PySem.W.keepIn K (.ref f9) = true)
    (z_abs : PySem.W.nsIn K mainGlobals "abs" = some none)
    (z_all : PySem.W.nsIn K mainGlobals "all" = some none)
    (z_bool : PySem.W.nsIn K mainGlobals "bool" = some none)
    (z_int : PySem.W.nsIn K mainGlobals "int" = some none)
    (z_isinstance : PySem.W.nsIn K mainGlobals "isinstance" = some none)
    (z_len : PySem.W.nsIn K mainGlobals "len" = some none)
    (z_range : PySem.W.nsIn K mainGlobals "range" = some none)
    (z_repr : PySem.W.nsIn K mainGlobals "repr" = some none)
    (z_str : PySem.W.nsIn K mainGlobals "str" = some none)
    (y_LETTERS : PySem.W.nsIn K mainGlobals "LETTERS" = some (some (.str "abcdefghijklmnopqrstuvwxyz" tk_LETTERS))) : Tx K mg :=
  ⟨has_mk X G a0 l0 c0 k0, has_mk X G a1 l1 c1 k1, has_mk X G a2 l2 c2 k2, has_mk X G a3 l3 c3 k3, has_mk X G a4 l4 c4 k4, has_mk X G a5 l5 c5 k5, has_mk X G a6 l6 c6 k6, has_mk X G a7 l7 c7 k7, has_mk X G a8 l8 c8 k8, has_mk X G a9 l9 c9 k9, PySem.W.mg_none_of X G z_abs, PySem.W.mg_none_of X G z_all, PySem.W.mg_none_of X G z_bool, PySem.W.mg_none_of X G z_int, PySem.W.mg_none_of X G z_isinstance, PySem.W.mg_none_of X G z_len, PySem.W.mg_none_of X G z_range, PySem.W.mg_none_of X G z_repr, PySem.W.mg_none_of X G z_str, ⟨_, PySem.W.mg_of X G y_LETTERS⟩⟩
theorem all_mk {P : Program} {w : World} {K : PySem.W.Frag} {mg : Str → Option Value} {fa : Addr} (hfa : mg "law" = some (.ref fa)) (T : Tx K mg) :
    ∃ fd : FuncData, (∀ (s : Shared) (u : Value), BindsTo s fd ⟨[u], []⟩ [("_law_script", u)]) ∧ ∀ base : Heap, K.In base → base.Ns mainGlobals mg → FnG P w K mg base CX0 3 fa fd ["_law_script"] (spEnd K) :=
  end_mk hfa T.h_F_law bn_F_law fun base f fd F => ok_law T f fd F
end K12
open PySem PySem.W PyProof.Rows
set_option maxRecDepth 100000 in
set_option maxHeartbeats 0 in
theorem PySem.Challenge.cw_landedback_k12_kinds_known_holds : PySem.Challenge.rw_landedback_k12_kinds_known.Holds := by
  w_on; o_law; k_head; (case hw => w_witness2)
  k_fill
  refine Lb.walk63 (k := 3) (x := "_law_script") (l := PySem.Challenge.rw_landedback_k12_kinds_known) (by decide) rfl rfl (fun w h Y => PySem.W.kIn_of Y) ?F
  case F =>
    intro w mg fa h KX G hmg
    refine K12.all_mk hmg ?T
    refine' K12.tx_mk KX G ?a0 ?l0 ?c0 ?k0 ?a1 ?l1 ?c1 ?k1 ?a2 ?l2 ?c2 ?k2 ?a3 ?l3 ?c3 ?k3 ?a4 ?l4 ?c4 ?k4 ?a5 ?l5 ?c5 ?k5 ?a6 ?l6 ?c6 ?k6 ?a7 ?l7 ?c7 ?k7 ?a8 ?l8 ?c8 ?k8 ?a9 ?l9 ?c9 ?k9 ?z_abs ?z_all ?z_bool ?z_int ?z_isinstance ?z_len ?z_range ?z_repr ?z_str ?y_LETTERS
    (case a0 => k_is); (case l0 => k_is); (case c0 => k_is); (case k0 => k_is); (case a1 => k_is); (case l1 => k_is); (case c1 => k_is); (case k1 => k_is)
    (case a2 => k_is); (case l2 => k_is); (case c2 => k_is); (case k2 => k_is); (case a3 => k_is); (case l3 => k_is); (case c3 => k_is); (case k3 => k_is)
    (case a4 => k_is); (case l4 => k_is); (case c4 => k_is); (case k4 => k_is); (case a5 => k_is); (case l5 => k_is); (case c5 => k_is); (case k5 => k_is)
    (case a6 => k_is); (case l6 => k_is); (case c6 => k_is); (case k6 => k_is); (case a7 => k_is); (case l7 => k_is); (case c7 => k_is); (case k7 => k_is)
    (case a8 => k_is); (case l8 => k_is); (case c8 => k_is); (case k8 => k_is); (case a9 => k_is); (case l9 => k_is); (case c9 => k_is); (case k9 => k_is)
    (case z_abs => k_is); (case z_all => k_is); (case z_bool => k_is); (case z_int => k_is); (case z_isinstance => k_is); (case z_len => k_is); (case z_range => k_is); (case z_repr => k_is)
    (case z_str => k_is); (case y_LETTERS => k_is)
