import PyProof.Rows.All
import Wide.All
import OpenK.AllK
import Wide.FinOn
import PyProof.EqAt
import PyProof.EqKinds
import PyProof.TupleCall
import PyProof.ReprRoads
import HandS.ForMost
import HandS.Wide
import HandS.DictComp
import HandS.Walk
import HandS.Conv
import HandS.DeepEq
import HandS.IsInst
import HandS.ListItems
import HandS.Style
import PySem.Challenge.RW_dictorders_k14_tables_cut_to_keys
set_option Elab.async false
set_option linter.all false
set_option maxRecDepth 100000
set_option maxHeartbeats 4000000
/-! A def's promise where nothing that guards against itself (a repr under way) stands around the call; repr of data. -/
namespace PX
open PySem PySem.Spec PyProof.Rows L2

/-- no guard is under way -/
def NoG (A : Around) : Prop := A.guards = some []
theorem NoG.dp {A : Around} (h : NoG A) (env : Env) : NoG (A.deeper env) := h

/-- FnOk, asked only where NoG holds -/
structure FnG (P : Program) (w : World) (K : PySem.W.Frag) (mg : Str → Option Value) (base : Heap) (CX : CXT) (k : Nat) (f : Addr) (fd : FuncData) (ps : List Str) (sp : Sp) : Prop where
  many : ∀ vs H Q E, sp vs H Q E → vs.length = ps.length
  goes : ∀ (A : Around) (outer : List Env) (s : Shared) (H : Hp) (args : Args) (us : List Value) (vs : List V) (Q : VK) (E : XK),
    Room k A → NoG A → Env0 P w K mg base A outer s H → BindsTo s fd args (ps.zip us) → Vals vs us → sp vs H Q E →
      codeAny (model P w) A (.call (.ref f) args) (CR CX outer P w H s Q E) s

section
variable {P : Program} {w : World} {K : PySem.W.Frag} {mg : Str → Option Value} {base : Heap} {CX : CXT} {k : Nat} {f : Addr} {fd : FuncData} {ps : List Str} {sp : Sp}
theorem FnG.ofOk (F : FnOk P w K mg base CX k f fd ps sp) : FnG P w K mg base CX k f fd ps sp :=
  ⟨F.len, fun A outer s H args us vs Q E hr _ e0 hb r h => F.run A outer s H args us vs Q E hr e0 hb r h⟩

/-- a def by its body -/
theorem fnG_of {name qual : Str} {params : Arguments} {body : List Stmt} {scope : Scope} {dV kV doc pm cdv ct oc : Value} {an od : Option Addr} {osl : Array (Option Value)} {N : List Str}
    (lk : K.lookup f = some ⟨oc, od, .func (PySem.W.fnOf name qual params body scope dV kV doc pm an cdv ct), osl⟩) (hcd : PySem.W.codeIn K cdv qual = true) (S : FnScope N ps scope)
    (many : ∀ vs H Q E, sp vs H Q E → vs.length = ps.length)
    (hb : ∀ (A : Around) (outer : List Env) (s : Shared) (H : Hp) (vs : List V) (Q : VK) (E : XK), Room k (A.deeper (envOfC qual scope s.heap.objs.size f cdv)) → NoG A → sp vs H Q E →
      ∃ t, PSs (cxOf CX P w K mg base N qual scope f cdv A outer s H E) body t ∧ t { nx := fun _ H' => Q .non H', rt := Q } (start N vs) H) :
    FnG P w K mg base CX (k + 1) f (PySem.W.fnOf name qual params body scope dV kV doc pm an cdv ct) ps sp := by
  constructor
  · exact many
  intro A outer s H args us vs Q E hr hg e0 hbd rv hs
  have back : ∀ b o, base.get? b = some o → s.heap.get? b = some o := fun b o e => (e0.bs b o e).1
  have hK := e0.mod.kin.keeps back
  refine codeAny_call_function hr.depth (hK _ _ lk) rfl S.co S.gen rfl (PySem.W.codeRec_of hK hcd) (hbd _ _ _ _ ?_)
  refine wpAny_newFunctionEnv_cells S.kind (fun y hy => ?_) fun env he s1 x => ?_
  · obtain ⟨n, v⟩ := y
    have hn := (List.of_mem_zip hy).1
    cases S.par n hn with
    | inl q => exact Or.inl q
    | inr q => exact Or.inr ⟨q, PySem.W.cellsFrom_some _ _ _ (Or.inl q)⟩
  subst he
  refine ⟨(e0.mod.nolimit.keeps back).keeps x.toInCall.keep, codeAny_func ?_⟩
  obtain ⟨t, ht, hq⟩ := hb A outer s H vs Q E (hr.deeper _) hg hs
  have J := inv_start (CX := CX) (E := E) S hr.hd e0 (many _ _ _ _ hs) rv x
  refine wpAny_mono (ht.run [] s1 (start N vs) H _ J hq) (fun fl s' z => ?_) fun e s' z => z
  cases fl with
  | ret u =>
    obtain ⟨v, σ', H', J', r', q⟩ := z
    exact ⟨v, H', J'.os, J'.bare, J'.base, J'.hok, r', q⟩
  | next =>
    obtain ⟨σ', H', J', q⟩ := z
    exact ⟨V.non, H', J'.os, J'.bare, J'.base, J'.hok, (rfl : Value.none = Value.none), q⟩
  | brk =>
    obtain ⟨_, _, _, q⟩ := z
    exact q.elim
  | cont =>
    obtain ⟨_, _, _, q⟩ := z
    exact q.elim
end

section
variable {P : Program} {w : World} {K : PySem.W.Frag} {mg : Str → Option Value} {base : Heap}
/-- Fun.ok for FnG -/
theorem okG {x qual : Str} {st : Stmt} {f : Addr} {fd : FuncData} {N ps : List Str} {k : Nat} {sp : Sp} (F : Fun K x qual st f fd) (S : FnScope N ps (defScope st)) (many : ∀ vs H Q E, sp vs H Q E → vs.length = ps.length)
    (hb : ∀ (cdv : Value) (A : Around) (outer : List Env) (s : Shared) (H : Hp) (vs : List V) (Q : VK) (E : XK), Room k (A.deeper (envOfC qual (defScope st) s.heap.objs.size f cdv)) → NoG A → sp vs H Q E →
      ∃ t, PSs (cxOf CX0 P w K mg base N qual (defScope st) f cdv A outer s H E).nox (defBody st) t ∧ t { nx := fun _ H' => Q .non H', rt := Q } (start N vs) H) : FnG P w K mg base CX0 (k + 1) f fd ps sp := by
  obtain ⟨oc, od, kV, doc, pm, an, cdv, ct, osl, rfl, lk, hcd⟩ := F.ex
  refine fnG_of lk hcd S many fun A outer s H vs Q E hr hg hs => ?_
  obtain ⟨t, h, q⟩ := hb cdv A outer s H vs Q E hr hg hs
  exact ⟨t, h.nox, q⟩
end

section
variable {X : Cx} {CX : CXT} {k : Nat} {f : Addr} {fd : FuncData} {ps : List Str} {sp : Sp} {dvs : List V} {ds : List Value} {E : XK} {x : Str} {p pos : Pos} {e : Expr} {es : List Expr} {t : TA}
theorem runG {pins : List (Addr × Obj)} {σ : L2.St} {H : Hp} {s : Shared} {Q : VK} {us : List Value} {vs : List V} (F : FnG X.prog X.w X.K X.mg X.base CX k f fd ps sp) (hr : Room k X.A) (hg : NoG X.A) (hb : Binds X.K fd ps ds) (hd : Vals dvs ds) (hx : Passes CX X E)
    (I : Inv X pins σ H s) (r : Vals vs us) (h : sp (vs ++ dvs) H Q E) : wpAny (model X.prog X.w) X.A (call (.ref f) us) (EP X pins σ Q) X.xe s := by
  have rv := r.append hd
  have hl : (us ++ ds).length = ps.length := rv.length.symm.trans (F.many _ _ _ _ h)
  refine wpAny_call (codeAny_mono (F.goes X.A X.stack s H ⟨us, []⟩ (us ++ ds) (vs ++ dvs) Q E hr hg I.env0 (hb s us I.kIn hl) rv h) fun r s' hq => ?_)
  match r, hq with
  | .error e, hq => exact hx pins σ H s e s' I hq
  | .ok (.ret u), hq => exact I.after hq
  | .ok .next, hq => exact hq.elim
  | .ok .brk, hq => exact hq.elim
  | .ok .cont, hq => exact hq.elim
/-- f(e, ..) -/
theorem pe_callG (F : FnG X.prog X.w X.K X.mg X.base CX k f fd ps sp) (hr : Room k X.A) (hg0 : NoG X.A) (hg : Gl X x) (hm : X.mg x = some (.ref f)) (hk : PySem.W.keepIn X.K (.ref f) = true) (hb : Binds X.K fd ps ds) (hd : Vals dvs ds) (hx : Passes CX X E)
    (ha : PA X (e :: es) t) (hdb : (x == ("__debug__" : Str)) = false := by decide) (he : starEach (e :: es) X.env = (false, eval e X.env) :: starEach es X.env := by rfl) (hpl : (backTo pos (starEach es X.env)).any (·.1) = false := by rfl) :
    PE X (.Call (.Name x p) (e :: es) [] pos) (tCall sp dvs E t) := by
  constructor
  intro pins s σ H Q I h
  refine wpAny_Call_Name_kw (ld_glob I hg hm ?_ hdb)
  refine PySem.W.callWith_K (h₀ := X.base) I.ok.mod.kin hk (thn (ha.run pos pins s σ H _ I h) fun us s1 z => ?_) he hpl
  obtain ⟨vs, H1, I1, r, q⟩ := z
  exact ⟨I1.kIn, runG F hr hg0 hb hd hx I1 r q⟩
end

/-! ### calls by keywords alone -/
section
variable {X : Cx} {CX : CXT} {k : Nat} {f : Addr} {fd : FuncData} {ps ks : List Str} {sp : Sp} {E : XK} {x : Str} {p pos : Pos} {kws : List Keyword} {tk : TA} {g : List Value → List Value → List Value} {gV : List V → List V → List V}
theorem pe_callKw (F : FnOk X.prog X.w X.K X.mg X.base CX k f fd ps sp) (hr : Room k X.A) (hg : Gl X x) (hm : X.mg x = some (.ref f)) (hk : PySem.W.keepIn X.K (.ref f) = true) (hb : KBinds X.K fd ps ks g gV) (hx : Passes CX X E)
    (hkw : PK X kws tk) (hall : (backToKw pos (keywordEach kws X.env)).all (·.1.isSome) = true := by rfl) (hks : (backToKw pos (keywordEach kws X.env)).filterMap (·.1) = ks := by rfl)
    (hdb : (x == ("__debug__" : Str)) = false := by decide) (hpl : ((backTo pos (starEach [] X.env)).any (·.1) || (backToKw pos (keywordEach kws X.env)).any (·.1.isNone)) = false := by rfl) :
    PE X (.Call (.Name x p) [] kws pos) (tCallK sp gV E tNil tk) := by
  constructor
  intro pins s σ H Q I h
  refine wpAny_Call_Name_kw (ld_glob I hg hm ?_ hdb)
  refine PySem.W.callWith_KW0 (h₀ := X.base) I.ok.mod.kin hk hall ?_ hpl
  refine thn (hkw.run pos pins s σ H _ I h) fun ws s2 z => ?_
  obtain ⟨zs, H2, I2, rz, q⟩ := z
  refine ⟨I2.kIn, ?_⟩
  rw [hks]
  exact run_fnk (us := []) (vs := []) F hr hb hx I2 .nil rz q
end
/-- two values by keywords, in the opposite order -/
def sw2 {α : Type} : List α → List α → List α
  | [], [a, b] => [b, a]
  | _, _ => []
theorem kb_swap {K : PySem.W.Frag} {x qual : Str} {st : Stmt} {f : Addr} {fd : FuncData} {p1 p2 : Str} (F : Fun K x qual st f fd)
    (h : ∀ (kV doc pm : Value) (an : Option Addr) (cdv ct a b : Value), bindArgs (PySem.W.fnOf x qual (defArgs st) (defBody st) (defScope st) .none kV doc pm an cdv ct) ⟨[], [(p2, a), (p1, b)]⟩ = pure [(p1, b), (p2, a)]) :
    KBinds K fd [p1, p2] [p2, p1] sw2 sw2 := by
  obtain ⟨oc, od, kV, doc, pm, an, cdv, ct, osl, rfl, lk, hcd⟩ := F.ex
  refine ⟨fun s us ws _ hl => ?_, fun {vs us zs ws} r z => ?_⟩
  · match us, ws, hl with
    | [], [a, b], _ => exact .of_eq (h kV doc pm an cdv ct a b)
  · cases r with
    | nil =>
      cases z with
      | nil => exact .nil
      | cons a z =>
        cases z with
        | nil => exact .nil
        | cons b z =>
          cases z with
          | nil => exact .cons b (.cons a .nil)
          | cons c z => exact .nil
    | cons a r => exact .nil

/-! ### cuts: what is known behind a part, said once -/
def tCut (t : TE) : TE := fun σ H Q => ∃ Q0 : VK, t σ H Q0 ∧ ∀ x H1, Q0 x H1 → Q x H1
theorem pe_cut {X : Cx} {e : Expr} {t : TE} (h : PE X e t) : PE X e (tCut t) := ⟨fun pins s σ H Q I z => by
  obtain ⟨Q0, h0, h1⟩ := z
  exact thn (h.run pins s σ H Q0 I h0) fun v s1 ⟨x, H1, I1, r, q⟩ => ⟨x, H1, I1, r, h1 x H1 q⟩⟩
def tCutT (t : TT) : TT := fun σ H Q => ∃ Q0 : Bool → Hp → Prop, t σ H Q0 ∧ ∀ b H1, Q0 b H1 → Q b H1
theorem pt_cut {X : Cx} {e : Expr} {t : TT} (h : PT X e t) : PT X e (tCutT t) := ⟨fun pins s σ H Q I z => by
  obtain ⟨Q0, h0, h1⟩ := z
  exact thn (h.run pins s σ H Q0 I h0) fun b s1 ⟨H1, I1, q⟩ => ⟨H1, I1, h1 b H1 q⟩⟩
def tCutS (t : TS) : TS := fun D σ H => ∃ N : L2.St → Hp → Prop, t { D with nx := N } σ H ∧ ∀ σ' H', N σ' H' → D.nx σ' H'
theorem ps_cut {X : Cx} {st : Stmt} {t : TS} (h : PS X st t) : PS X st (tCutS t) := ⟨fun pins s σ H D I z => by
  obtain ⟨N, h0, h1⟩ := z
  refine thn (h.run pins s σ H { D with nx := N } I h0) fun f s1 q => ?_
  cases f with
  | next =>
    obtain ⟨σ', H', I', n⟩ := q
    exact ⟨σ', H', I', h1 σ' H' n⟩
  | brk => exact q
  | cont => exact q
  | ret u => exact q⟩

/-! ### heaps that grow, but for one object -/
/-- all that was tracked stands, but for p -/
def Gr (p : Addr) (H H' : Hp) : Prop := ∀ q o, q ≠ p → H q = some o → H' q = some o
theorem Gr.refl (p : Addr) (H : Hp) : Gr p H H := fun _ _ _ h => h
theorem Gr.trans {p : Addr} {H H1 H2 : Hp} (a : Gr p H H1) (b : Gr p H1 H2) : Gr p H H2 := fun q o n h => b q o n (a q o n h)
theorem Gr.same {p : Addr} {H H' : Hp} (s : Same H H') : Gr p H H' := fun q o _ h => s q o h
theorem Same.mk1 {H : Hp} {p : Addr} {o : HO} (h : H p = none) : Same H (upd H p o) := fun b u e => by
  rw [upd_ne (ne_of_none e h)]
  exact e
/-- what is none behind was none ahead -/
theorem Gr.back {p q : Addr} {H H' : Hp} (g : Gr p H H') (hp : H' p ≠ none) (h : H' q = none) : H q = none := by
  cases e : H q with
  | none => rfl
  | some o =>
    by_cases z : q = p
    · subst z
      exact absurd h hp
    · rw [g q o z e] at h
      cases h
/-- a write to an object that was not tracked at the start -/
theorem Same.put {H H' : Hp} {p : Addr} {o : HO} (s : Same H H') (h : H p = none) : Same H (upd H' p o) := fun b u e => by
  rw [upd_ne (ne_of_none e h)]
  exact s b u e
theorem Gr.put {p q : Addr} {H H' : Hp} {o : HO} (s : Gr q H H') (h : H p = none) : Gr q H (upd H' p o) := fun b u n e => by
  rw [upd_ne (ne_of_none e h)]
  exact s b u n e
theorem Same.lst {H H' : Hp} {a : Addr} {o : HO} (s : Same H H') (h : H a = some o) : H' a = some o := s a o h

theorem Gr.seq {K : PySem.W.Frag} {p q : Addr} {H H' : Hp} {xs : List V} (g : Gr p H H') (n : q ≠ p) (h : SqL K H q xs) : SqL K H' q xs := by
  rcases h with (h | ⟨o, h⟩) | h
  · exact .inl (.inl (g _ _ n h))
  · exact .inl (.inr ⟨o, g _ _ n h⟩)
  · exact .inr h
theorem paired_map {α β γ : Type} {F : α → β → Prop} (f : γ → α) (g : γ → β) : ∀ l : List γ, (∀ e ∈ l, F (f e) (g e)) → Paired F (l.map f) (l.map g)
  | [], _ => .nil
  | e :: r, h => .cons (h e List.mem_cons_self) (paired_map f g r fun x hx => h x (List.mem_cons_of_mem _ hx))
theorem getElem?_map' {α β : Type} {f : α → β} {l : List α} {i : Nat} {y : β} (h : (l.map f)[i]? = some y) : ∃ x, l[i]? = some x ∧ y = f x := by
  rw [List.getElem?_map] at h
  obtain ⟨x, h1, h2⟩ := Option.map_eq_some_iff.mp h
  exact ⟨x, h1, h2.symm⟩
theorem take_next {α : Type} : ∀ {l : List α} {i : Nat} {x : α}, l[i]? = some x → l.take (i + 1) = l.take i ++ [x]
  | [], i, x, h => nomatch (show (none : Option α) = some x by simpa using h)
  | a :: l, 0, x, h => by
    have e : a = x := Option.some.inj h
    rw [e] <;> rfl
  | a :: l, i + 1, x, h => by
    have q := take_next (l := l) (i := i) (x := x) h
    show a :: l.take (i + 1) = a :: l.take i ++ [x]
    rw [q] <;> rfl

/-! ### slices -/
theorem cutV_map {α : Type} (f : α → V) (xs : List α) (lo hi : Option Int) : cutV (xs.map f) lo hi = ((xs.drop (HT.sIx xs.length 0 lo)).take (HT.sIx xs.length xs.length hi - HT.sIx xs.length 0 lo)).map f := by
  unfold cutV
  rw [List.length_map, List.map_take, List.map_drop]
theorem cut_from {xs : List V} {i : Int} (h : 0 ≤ i) : cutV xs (some i) none = xs.drop i.toNat := by
  obtain ⟨k, rfl⟩ : ∃ k : Nat, i = (k : Int) := ⟨i.toNat, by omega⟩
  unfold cutV
  rw [HT.sIx_nat, HT.sIx_none, Int.toNat_natCast]
  by_cases hk : k ≤ xs.length
  · rw [Nat.min_eq_left hk, List.take_of_length_le (by rw [List.length_drop]; exact Nat.le_refl _)]
  · rw [Nat.min_eq_right (by omega), List.drop_eq_nil_of_le (Nat.le_refl _), List.drop_eq_nil_of_le (by omega), List.take_nil]
theorem cut_to {xs : List V} {j : Int} (h : 0 ≤ j) : cutV xs none (some j) = xs.take j.toNat := by
  obtain ⟨k, rfl⟩ : ∃ k : Nat, j = (k : Int) := ⟨j.toNat, by omega⟩
  unfold cutV
  rw [HT.sIx_nat, HT.sIx_none, Int.toNat_natCast, List.drop_zero, Nat.sub_zero]
  by_cases hk : k ≤ xs.length
  · rw [Nat.min_eq_left hk]
  · rw [Nat.min_eq_right (by omega), List.take_of_length_le (Nat.le_refl _), List.take_of_length_le (by omega)]

/-! ### repr of data -/
/-- repr(x), x data without dicts -/
def rRepr (K : PySem.W.Frag) : List V → Hp → VK → Prop := fun xs H Q => ∃ (a : Addr) (d : PyData), xs = [.ref a] ∧ Dp K H (.ref a) d ∧ d.showable = true ∧ d.hasDict = false ∧ d.depth ≤ 60 ∧ d.shown.length ≤ sizeLine ∧ Q (.str d.shown) H
theorem call_repr {X : Cx} {k : Nat} (hr : Room k X.A) (hg : NoG X.A) : CallR X (.builtin "repr") (rRepr X.K) := by
  intro pins s σ H xs us Q I r h
  obtain ⟨a, d, rfl, hd, hs, hn, hp, hz, q⟩ := h
  obtain ⟨u, rfl, ru⟩ := vals1 r
  obtain ⟨as, rd⟩ := Dp.reads I d _ u hd ru
  obtain rfl : u = Value.ref a := ru
  have hu := hr.units
  exact repr_of_reads' rd hs (PyData.noDict_hsm hn) hg (by omega) (fun _ _ e => e) (fun h' u tk kp => ⟨.str d.shown, H, I.kept kp, ⟨u, rfl⟩, q⟩) hz

/-! ### the head of a law whose promise is a FnG -/
theorem law_callG {P : Program} {w : World} {K : PySem.W.Frag} {mg mb : Str → Option Value} {CX : CXT} {k : Nat} {fa a : Addr} {fd : FuncData} {x : Str} {sp : Sp} {s₁ : Shared} {vs : List Value} {ns : List Int}
    (KX : K.In s₁.heap) (hns : s₁.heap.Ns mainGlobals mg) (hb : s₁.heap.Ns builtinsNs mb) (hbb : ∀ x : Str, x ≠ "__name__" → mb x = bootBuiltins x) (hlim : s₁.heap.NoLimit) (hg : s₁.gens = #[])
    (ha : s₁.heap.get? a = some { cls := .type "list", data := .seq vs.toArray }) (hi : IntsAre vs ns) (hl : ns.length ≤ sizeLine) (hr : Room k callerA)
    (F : ∀ base : Heap, K.In base → base.Ns mainGlobals mg → FnG P w K mg base CX k fa fd [x] sp) (hbind : ∀ (s : Shared) (u : Value), BindsTo s fd ⟨[u], []⟩ [(x, u)])
    (hsp : ∀ H : Hp, Only H → SqL K H a (ns.map V.int) → sp [.ref a] H (fun v _ => v = .bl true) fun _ _ _ => False)
    (hCX : ∀ H e s', CX [] H s₁ (fun _ _ _ => False) e s' → False) :
    codeAny (model P w) callerA (.call (.ref fa) ⟨[.ref a], []⟩) (fun r s' => r = .ok (.ret (.bool true)) ∧ OldK s₁.heap s'.heap ∧ s'.os = s₁.os ∧ AllBare s'.gens) s₁ := by
  have rv := vals_ints hi
  have lenV := hi.length
  have main : ∀ H : Hp, Only H → SqL K H a (ns.map V.int) → HOk P w H s₁.heap → (∀ b, H b ≠ none → b = a) → (H a ≠ none → K.lookup a = none) →
      codeAny (model P w) callerA (.call (.ref fa) ⟨[.ref a], []⟩) (fun r s' => r = .ok (.ret (.bool true)) ∧ OldK s₁.heap s'.heap ∧ s'.os = s₁.os ∧ AllBare s'.gens) s₁ := by
    intro H hO hS hok hA hK
    have free_of : ∀ {b : Addr}, (b = a → H b = none) → H b = none := fun {b} z => by
      cases q : H b with
      | none => rfl
      | some u =>
        rw [← q]
        exact z (hA b (by rw [q]; exact fun y => nomatch y))
    have dict_free : ∀ {b : Addr} {o : Obj} {es : Array DictEntry} {ep : Nat}, s₁.heap.get? b = some o → o.data = .dict es ep → H b = none := fun {b o es ep} e d => free_of fun z => by
      subst z
      rw [ha] at e
      cases e
      cases (show Data.seq vs.toArray _ = Data.dict es ep from d)
    have nsT : ∀ {b : Addr} {m : Str → Option Value}, s₁.heap.Ns b m → (hidT s₁.heap H).Ns b m := fun {b m} z => by
      obtain ⟨o, es, ep, e, d, r⟩ := z
      exact ⟨o, es, ep, hidT_get e (dict_free e d), d, r⟩
    have hKb : K.In (hidT s₁.heap H) := fun b o e => hidT_get (KX b o e) (by
      cases q : H b with
      | none => rfl
      | some u =>
        have e' : b = a := hA b (by rw [q]; exact fun y => nomatch y)
        subst e'
        rw [hK (by rw [q]; exact fun y => nomatch y)] at e
        cases e)
    have hM : Mod K mg (hidT s₁.heap H) := ⟨hKb, nsT hns, ⟨mb, nsT hb, hbb⟩, by obtain ⟨mc, h1, h2⟩ := hlim; exact ⟨mc, nsT h1, h2⟩⟩
    have e0 : Env0 P w K mg (hidT s₁.heap H) callerA [] s₁ H := ⟨rfl, hM, fun b o e => of_hidT e, Nat.le_of_eq (hidT_size _ _), True.intro, fun b hb => absurd (show b ∈ ([] : List Addr) from hb) List.not_mem_nil, hok, .of_eq hg⟩
    refine codeAny_mono ((F _ hKb (nsT hns)).goes callerA [] s₁ H ⟨[.ref a], []⟩ [.ref a] [.ref a] _ _ hr rfl e0 (hbind s₁ (.ref a)) (.cons rfl .nil) (hsp H hO hS)) fun r s' h => ?_
    match r, h with
    | .error e, h => exact (hCX H e s' h).elim
    | .ok .next, h => exact False.elim h
    | .ok .brk, h => exact False.elim h
    | .ok .cont, h => exact False.elim h
    | .ok (.ret u), h =>
      obtain ⟨v, H', os, bare, un, hok', r', q⟩ := h
      obtain rfl : v = V.bl true := q
      obtain rfl : u = Value.bool true := r'
      refine ⟨rfl, OldK.of_keep fun b o e => ?_, os, bare⟩
      rcases hO b with z | ⟨ob, xs, z⟩
      · exact un.keep b o e z (fun y => absurd (show b ∈ ([] : List Addr) from y) List.not_mem_nil) List.not_mem_nil
      · have e1 := (hok b _ z).1
        have e2 := (hok' b _ (un.frzs b ob _ z)).1
        rw [e] at e1
        cases e1
        exact e2
  cases hk : K.lookup a with
  | some o =>
    have e := KX a o hk
    rw [ha] at e
    cases e
    exact main (fun _ => none) (fun _ => .inl rfl) (.inr ⟨_, vs.toArray, _, hk, rfl, rfl, rfl, by rw [List.size_toArray, lenV]; exact hl, by simpa using rv⟩) (fun b u z => nomatch z) (fun b z => absurd rfl z) fun z => absurd rfl z
  | none =>
    refine main (fun b => if b = a then some (.frz { cls := .type "list", data := .seq vs.toArray } (.lst (ns.map V.int))) else none) (fun b => ?_) (.inl (.inr ⟨{ cls := .type "list", data := .seq vs.toArray }, if_pos rfl⟩)) (fun b u z => ?_) (fun b z => ?_) fun _ => hk
    · by_cases hb : b = a
      · exact .inr ⟨_, _, if_pos hb⟩
      · exact .inl (if_neg hb)
    · by_cases hb : b = a
      · have z' := (if_pos hb).symm.trans z
        cases z'
        subst hb
        exact ⟨ha, by rw [List.length_map]; exact hl, vs, _, rv, ha⟩
      · have z' := (if_neg hb).symm.trans z
        cases z'
    · by_cases hb : b = a
      · exact hb
      · exact absurd (if_neg hb) z

theorem walkG {l : PySem.W.OpenLaw} {n k : Nat} {q : Program} {loose : List Str} {XP : (Str → Option Value) → Heap → Prop} {YP : World → Heap → Prop} {d : DefRec} {K : Params → PySem.W.Frag} {CX : World → CXT} {sp : World → Sp} {x : Str}
    (hn : l.most = some n) (hn2 : n ≤ sizeLine) (hdf : d.params.defaults = []) (hr : Room k callerA)
    (hY : ∀ (w : World) (h : Heap), YP w h → (K w.params).In h)
    (F : ∀ (w : World) (mg : Str → Option Value) (fa : Addr) (h : Heap), (K w.params).In h → h.Ns mainGlobals mg → mg d.name = some (.ref fa) →
      ∃ fd : FuncData, (∀ (s : Shared) (u : Value), BindsTo s fd ⟨[u], []⟩ [(x, u)]) ∧
        ∀ base : Heap, (K w.params).In base → base.Ns mainGlobals mg → FnG l.prog w (K w.params) mg base (CX w) k fa fd [x] (sp w))
    (hsp : ∀ (w : World) (H : Hp) (a : Addr) (ns : List Int), ns.length ≤ n → Only H → SqL (K w.params) H a (ns.map V.int) → sp w [.ref a] H (fun v _ => v = .bl true) fun _ _ _ => False)
    (hCX : ∀ (w : World) (H : Hp) (s : Shared) (e : Value) (s' : Shared), CX w [] H s (fun _ _ _ => False) e s' → False) :
    PySem.W.WalkO q loose XP YP l.row.toRowW d [] (fun f vs => PySem.call f vs) := by
  refine Att.attach_call hn hdf fun w s₀ s₁ mg mb fa o pm cd doc a vs ns G Y ho hd hcd hmg hobj hints hlen hg => ?_
  obtain ⟨fd, hb, hF⟩ := F w mg fa _ (hY w _ Y) G.T.g hmg
  exact law_callG (hY w _ Y) G.T.g G.T.b G.T.builtins G.T.nolimit hg hobj hints (Nat.le_trans hlen hn2) hr hF hb (fun H hO hS => hsp w H a ns hlen hO hS) fun H e s' => hCX w H s₁ e s'
end PX
/-! Tables: dicts of ints as lists of pairs; dicts of them by names. -/
namespace PX
open PySem PySem.Spec PyProof.Rows L2

/-! ### lists of pairs -/
section
variable {κ β : Type} [DecidableEq κ]
def getL (l : List (κ × β)) (k : κ) : Option β := (l.find? fun p => decide (p.1 = k)).map (·.2)
def hasL (l : List (κ × β)) (k : κ) : Bool := l.any fun p => decide (p.1 = k)
def putL (l : List (κ × β)) (k : κ) (v : β) : List (κ × β) := if hasL l k = true then l.map (fun p => if p.1 = k then (p.1, v) else p) else l ++ [(k, v)]
def dropL (l : List (κ × β)) (k : κ) : List (κ × β) := l.filter fun p => decide (p.1 ≠ k)
theorem hasL_iff {l : List (κ × β)} {k : κ} : hasL l k = true ↔ k ∈ l.map (·.1) := by
  unfold hasL
  rw [List.any_eq_true, List.mem_map]
  constructor
  · rintro ⟨p, hp, h⟩
    exact ⟨p, hp, of_decide_eq_true h⟩
  · rintro ⟨p, hp, h⟩
    exact ⟨p, hp, decide_eq_true h⟩
theorem putL_keys (l : List (κ × β)) (k : κ) (v : β) : (putL l k v).map (·.1) = if k ∈ l.map (·.1) then l.map (·.1) else l.map (·.1) ++ [k] := by
  unfold putL
  by_cases h : hasL l k = true
  · rw [if_pos h, if_pos (hasL_iff.mp h), List.map_map]
    refine List.map_congr_left fun p _ => ?_
    show (if p.1 = k then (p.1, v) else p).1 = p.1
    split <;> rfl
  · rw [if_neg h, if_neg fun z => h (hasL_iff.mpr z), List.map_append]
    rfl
theorem putL_nodup {l : List (κ × β)} (k : κ) (v : β) (h : (l.map (·.1)).Nodup) : ((putL l k v).map (·.1)).Nodup := by
  rw [putL_keys]
  split
  · exact h
  · rename_i hk
    rw [List.nodup_append]
    exact ⟨h, by simp, fun a ha b hb e => hk (by rw [List.mem_singleton] at hb; rw [← hb, ← e]; exact ha)⟩
theorem putL_length (l : List (κ × β)) (k : κ) (v : β) : (putL l k v).length ≤ l.length + 1 := by
  unfold putL
  split
  · rw [List.length_map]; omega
  · rw [List.length_append]; exact Nat.le_refl _
theorem putL_mem {l : List (κ × β)} {k : κ} {v : β} {p : κ × β} (h : p ∈ putL l k v) : p ∈ l ∨ p = (k, v) := by
  unfold putL at h
  split at h
  · obtain ⟨q, hq, e⟩ := List.mem_map.mp h
    by_cases z : q.1 = k
    · rw [if_pos z] at e
      exact .inr (by rw [← e, z])
    · rw [if_neg z] at e
      exact .inl (e ▸ hq)
  · rcases List.mem_append.mp h with h | h
    · exact .inl h
    · exact .inr (List.mem_singleton.mp h)
theorem putL_new {l : List (κ × β)} {k : κ} (v : β) (h : k ∉ l.map (·.1)) : putL l k v = l ++ [(k, v)] := by
  unfold putL
  rw [if_neg fun z => h (hasL_iff.mp z)]
theorem getL_none {l : List (κ × β)} {k : κ} : getL l k = none ↔ k ∉ l.map (·.1) := by
  unfold getL
  rw [Option.map_eq_none_iff, List.find?_eq_none, List.mem_map]
  constructor
  · rintro h ⟨p, hp, e⟩
    exact h p hp (decide_eq_true e)
  · intro h p hp e
    exact h ⟨p, hp, of_decide_eq_true e⟩
theorem getL_of_mem {l : List (κ × β)} {k : κ} {v : β} (nd : (l.map (·.1)).Nodup) (h : (k, v) ∈ l) : getL l k = some v := by
  induction l with
  | nil => cases h
  | cons p r ih =>
    unfold getL
    rw [List.find?_cons]
    rcases List.mem_cons.mp h with e | e
    · subst e
      simp
    · have nk : p.1 ≠ k := fun z => (List.nodup_cons.mp nd).1 (List.mem_map.mpr ⟨(k, v), e, z.symm⟩)
      have q := ih (List.nodup_cons.mp nd).2 e
      unfold getL at q
      simp [nk, q]
theorem mem_of_getL {l : List (κ × β)} {k : κ} {v : β} (h : getL l k = some v) : (k, v) ∈ l := by
  unfold getL at h
  obtain ⟨p, hp, e⟩ := Option.map_eq_some_iff.mp h
  have h1 := List.mem_of_find?_eq_some hp
  have h2 := List.find?_some hp
  have h3 : p.1 = k := of_decide_eq_true h2
  subst e
  subst h3
  exact h1
theorem getL_put (l : List (κ × β)) (k j : κ) (v : β) : getL (putL l k v) j = if j = k then some v else getL l j := by
  unfold putL
  by_cases h : hasL l k = true
  · rw [if_pos h]
    have key : ∀ l : List (κ × β), getL (l.map fun p => if p.1 = k then (p.1, v) else p) j = if j = k then (if k ∈ l.map (·.1) then some v else none) else getL l j := by
      intro l
      induction l with
      | nil =>
        by_cases e : j = k
        · rw [if_pos e]
          rfl
        · rw [if_neg e]
          rfl
      | cons p r ih =>
        unfold getL at ih ⊢
        rw [List.map_cons, List.find?_cons, List.find?_cons]
        by_cases e : p.1 = k
        · rw [if_pos e]
          by_cases z : j = k
          · subst z
            simp [e]
          · have z1 : ¬ p.1 = j := fun y => z (y.symm.trans e)
            simp only [decide_eq_false z1]
            rw [ih, if_neg z, if_neg z]
        · rw [if_neg e]
          by_cases z : p.1 = j
          · have z2 : ¬ j = k := fun y => e (z.trans y)
            simp [z, z2]
          · simp only [decide_eq_false z]
            rw [ih]
            by_cases y : j = k
            · have e' : ¬ k = p.1 := fun q => e q.symm
              rw [if_pos y, if_pos y, List.map_cons]
              simp only [List.mem_cons, e', false_or]
            · rw [if_neg y, if_neg y]
    rw [key]
    by_cases e : j = k
    · rw [if_pos e, if_pos e, if_pos (hasL_iff.mp h)]
    · rw [if_neg e, if_neg e]
  · rw [if_neg h]
    have hk : k ∉ l.map (·.1) := fun z => h (hasL_iff.mpr z)
    by_cases e : j = k
    · subst e
      rw [if_pos rfl]
      have q := getL_none.mpr hk
      unfold getL at q ⊢
      rw [List.find?_append, Option.map_eq_none_iff.mp q]
      simp
    · rw [if_neg e]
      unfold getL
      rw [List.find?_append]
      have z : ¬ k = j := fun y => e y.symm
      simp [List.find?_cons, z]
end

/-! ### tables: ints to ints -/
abbrev Tab := List (Int × Int)
def kI (p : Int × Int) : Key × V := (Sum.inl p.1, .int p.2)
abbrev tab (l : Tab) : List (Key × V) := l.map kI
theorem tab_len (l : Tab) : (tab l).length = l.length := List.length_map ..
theorem any_tab (l : Tab) (k : Int) : ((tab l).any fun kv => decide (kv.1 = (Sum.inl k : Key))) = hasL l k := by
  unfold hasL tab
  rw [List.any_map]
  congr 1
  funext p
  show decide ((Sum.inl p.1 : Key) = Sum.inl k) = decide (p.1 = k)
  by_cases e : p.1 = k
  · rw [e]; simp
  · rw [decide_eq_false e, decide_eq_false fun z => e (Sum.inl.inj z)]
theorem putK_tab (l : Tab) (k v : Int) : putK (tab l) (Sum.inl k : Key) (.int v) = tab (putL l k v) := by
  unfold putK putL
  rw [any_tab]
  by_cases h : hasL l k = true
  · rw [if_pos h, if_pos h]
    unfold tab
    rw [List.map_map, List.map_map]
    refine List.map_congr_left fun p _ => ?_
    show (if (Sum.inl p.1 : Key) = Sum.inl k then ((Sum.inl p.1 : Key), V.int v) else (Sum.inl p.1, .int p.2)) = kI (if p.1 = k then (p.1, v) else p)
    by_cases e : p.1 = k
    · rw [if_pos e, if_pos (by rw [e])]
      rfl
    · rw [if_neg e, if_neg fun z => e (Sum.inl.inj z)]
      rfl
  · rw [if_neg h, if_neg h]
    unfold tab
    rw [List.map_append]
    rfl
theorem valV_tab (l : Tab) (k : Int) : valV (tab l) (Sum.inl k : Key) = (getL l k).map V.int := by
  unfold valV getL tab
  rw [List.find?_map]
  have e : ((fun kv : Key × V => decide (kv.1 = Sum.inl k)) ∘ kI) = fun p : Int × Int => decide (p.1 = k) := by
    funext p
    show decide ((Sum.inl p.1 : Key) = Sum.inl k) = decide (p.1 = k)
    by_cases e : p.1 = k
    · rw [e]; simp
    · rw [decide_eq_false e, decide_eq_false fun z => e (Sum.inl.inj z)]
  rw [e]
  cases l.find? _ with
  | none => rfl
  | some p => rfl
/-- an int of thirty digits at most -/
def Num (r : Int) : Prop := -(10 ^ 30) < r ∧ r < 10 ^ 30
/-- distinct keys, small numbers -/
structure TabOk (l : Tab) : Prop where
  nd : (l.map (·.1)).Nodup
  sm : ∀ p ∈ l, Num p.1 ∧ Num p.2
theorem TabOk.nil : TabOk [] := ⟨List.nodup_nil, fun _ h => nomatch h⟩
theorem TabOk.put {l : Tab} (h : TabOk l) {k v : Int} (hk : Num k) (hv : Num v) : TabOk (putL l k v) :=
  ⟨putL_nodup k v h.nd, fun p hp => by
    rcases putL_mem hp with q | q
    · exact h.sm p q
    · rw [q]; exact ⟨hk, hv⟩⟩
/-- at d stands a table -/
def TabAt (H : Hp) (d : Addr) (l : Tab) : Prop := H d = some (.dK (tab l))

/-! ### tables by names: name, address, table -/
abbrev Sheets := List (Str × Addr × Tab)
def kS (s : Str × Addr × Tab) : Key × V := (Sum.inr s.1, .ref s.2.1)
structure SheetsAt (H : Hp) (d : Addr) (sh : Sheets) : Prop where
  top : H d = some (.dK (sh.map kS))
  nd : (sh.map (·.1)).Nodup
  all : ∀ s ∈ sh, TabAt H s.2.1 s.2.2
theorem SheetsAt.ne {H : Hp} {d : Addr} {sh : Sheets} (S : SheetsAt H d sh) {s : Str × Addr × Tab} (hs : s ∈ sh) : s.2.1 ≠ d := fun z => by
  have h : H s.2.1 = some (.dK (tab s.2.2)) := S.all s hs
  rw [z, S.top] at h
  have e : sh.map kS = tab s.2.2 := HO.dK.inj (Option.some.inj h)
  cases sh with
  | nil => cases hs
  | cons a r =>
    cases hl : s.2.2 with
    | nil => rw [hl] at e; cases e
    | cons b q =>
      rw [hl] at e
      have e1 : kS a = kI b := (List.cons.inj e).1
      have e2 : (Sum.inr a.1 : Key) = Sum.inl b.1 := congrArg Prod.fst e1
      cases e2
theorem mergeK_nil : ∀ (l acc : List (Key × V)), (acc.map (·.1) ++ l.map (·.1)).Nodup → mergeK acc l = acc ++ l
  | [], acc, _ => by rw [List.append_nil]; rfl
  | p :: r, acc, h => by
    have hn : p.1 ∉ acc.map (·.1) := fun z => by
      have := (List.nodup_append.mp h).2.2 p.1 z p.1 (by simp)
      exact this rfl
    have e : putK acc p.1 p.2 = acc ++ [p] := by
      rw [putK_new]
      rw [show valV acc p.1 = getL acc p.1 from rfl]
      exact getL_none.mpr hn
    show mergeK (putK acc p.1 p.2) r = acc ++ p :: r
    rw [e, mergeK_nil r (acc ++ [p]) (by simpa using h)]
    simp
theorem mergeK_id {l : List (Key × V)} (h : (l.map (·.1)).Nodup) : mergeK [] l = l := by
  rw [mergeK_nil l [] (by simpa using h)]
  rfl
theorem inr_nodup : ∀ {l : List Str}, l.Nodup → (l.map (Sum.inr : Str → Key)).Nodup
  | [], _ => List.nodup_nil
  | x :: r, h => by
    rw [List.map_cons, List.nodup_cons]
    refine ⟨fun z => ?_, inr_nodup (List.nodup_cons.mp h).2⟩
    obtain ⟨y, hy, e⟩ := List.mem_map.mp z
    cases Sum.inr.inj e
    exact (List.nodup_cons.mp h).1 hy
theorem putK_sheet {es : Sheets} {nm : Str} {a : Addr} (t : Tab) (h : nm ∉ es.map (·.1)) : putK (es.map kS) (Sum.inr nm : Key) (.ref a) = (es ++ [(nm, a, t)]).map kS := by
  rw [putK_new, List.map_append]
  · rfl
  · rw [show valV (es.map kS) (Sum.inr nm : Key) = getL (es.map kS) (Sum.inr nm : Key) from rfl]
    refine getL_none.mpr fun z => ?_
    obtain ⟨p, hp, e⟩ := List.mem_map.mp z
    obtain ⟨s, hs, rfl⟩ := List.mem_map.mp hp
    exact h (List.mem_map.mpr ⟨s, hs, Sum.inr.inj e⟩)
theorem not_mem_take {α : Type} : ∀ {l : List α} {i : Nat} {x : α}, l.Nodup → l[i]? = some x → x ∉ l.take i
  | [], _, _, _, h => by simp at h
  | a :: l, 0, x, _, _ => by simp
  | a :: l, i + 1, x, nd, h => by
    rw [List.take_succ_cons, List.mem_cons]
    rintro (z | z)
    · subst z
      exact (List.nodup_cons.mp nd).1 (List.mem_of_getElem? (by simpa using h))
    · exact not_mem_take (List.nodup_cons.mp nd).2 (by simpa using h) z
theorem valV_sheets (sh : Sheets) (x : Str) : valV (sh.map kS) (Sum.inr x : Key) = ((sh.find? fun s => decide (s.1 = x)).map fun s => V.ref s.2.1) := by
  unfold valV
  rw [List.find?_map]
  have e : ((fun kv : Key × V => decide (kv.1 = Sum.inr x)) ∘ kS) = fun s : Str × Addr × Tab => decide (s.1 = x) := by
    funext p
    show decide ((Sum.inr p.1 : Key) = Sum.inr x) = decide (p.1 = x)
    by_cases e : p.1 = x
    · rw [e]; simp
    · rw [decide_eq_false e, decide_eq_false fun z => e (Sum.inr.inj z)]
  rw [e]
  cases sh.find? _ with
  | none => rfl
  | some p => rfl
end PX
/-! A dict comprehension over anything that is walked; what is locked meanwhile. -/
namespace PX
open PySem PySem.Spec PyProof.Rows L2
section
variable {J : It} {n : Nat} {G : Hp → Prop} {Y : Nat → Hp → V → Hp → Prop}
theorem dc_it (w : Walk J n G Y) {g : TG} {tt : TT} {tk tv : TE} {vs : List Nat} {σ : L2.St} {H1 : Hp} {D : Addr} {Qd : Hp → Prop} (Pv : Nat → Hp → Prop) (h0 : Pv 0 (upd H1 D (.dK []))) (hG : ∀ i H, i ≤ n → Pv i H → G H)
    (hs : ∀ i x H H', i < n → Pv i H → Y i H x H' → g x (wipe σ vs) H' fun σ2 H2 => wipe σ2 vs = wipe σ vs ∧ tt σ2 H2 fun b H3 =>
      if b = true then tk σ2 H3 fun y H4 => tv σ2 H4 fun z H5 => ∃ kvs k, y = kV k ∧ H5 D = some (.dK kvs) ∧ kvs.length < sizeLine ∧ Pv (i + 1) (upd H5 D (.dK (putK kvs k z))) else Pv (i + 1) H3)
    (hd : ∀ H, Pv n H → Qd H) :
    ∃ W : Nat → Nat → Hp → Prop, (∃ m, W 0 m (upd H1 D (.dK []))) ∧ ∀ i m H, W i m H →
      (J.stop i H ∧ Qd H) ∨ (J.go i H ∧ ∃ Nx : Hp → Prop, (∀ H', Nx H' → ∃ m', m' < m ∧ W (i + 1) m' H') ∧ ∀ x H', J.yld i H x H' → g x (wipe σ vs) H' fun σ2 H2 => wipe σ2 vs = wipe σ vs ∧ tt σ2 H2 fun b H3 =>
        if b = true then tk σ2 H3 fun y H4 => tv σ2 H4 fun z H5 => ∃ kvs k, y = kV k ∧ H5 D = some (.dK kvs) ∧ kvs.length < sizeLine ∧ Nx (upd H5 D (.dK (putK kvs k z))) else Nx H3) := by
  refine ⟨fun i m H => m = n - i ∧ i ≤ n ∧ Pv i H, ⟨n, (Nat.sub_zero n).symm, Nat.zero_le _, h0⟩, ?_⟩
  rintro i m H ⟨hm, hi, p⟩
  subst hm
  have q := hG i H hi p
  cases Nat.lt_or_ge i n with
  | inl lt => exact .inr ⟨w.goes i H lt q, Pv (i + 1), (fun H' p' => ⟨n - (i + 1), by omega, rfl, lt, p'⟩), fun x H' y => hs i x H H' lt p (w.yields i H x H' lt q y)⟩
  | inr ge =>
    have e : i = n := Nat.le_antisymm hi ge
    subst e
    exact .inl ⟨w.stops H q, hd H p⟩
end
theorem getElem?_map2 {α β γ : Type} {f : α → β} {g : β → γ} {l : List α} {i : Nat} {y : γ} (h : (l.map f)[i]?.map g = some y) : ∃ x, l[i]? = some x ∧ y = g (f x) := by
  obtain ⟨z, h1, h2⟩ := Option.map_eq_some_iff.mp h
  obtain ⟨x, h3, h4⟩ := getElem?_map' h1
  exact ⟨x, h3, by rw [← h2, h4]⟩
/-- locked, the rest as it was -/
theorem Same.lock {H : Hp} {d : Addr} {u o : HO} {b : Addr} (h : H b = some u) (n : b ≠ d) : upd H d o b = some u := (upd_ne n).trans h
/-- a heap grown over a lock, unlocked -/
theorem Same.unlock {H H' : Hp} {d : Addr} {u w : HO} (hd : H d = some u) (s : Same (upd H d w) H') : Same H (upd H' d u) := fun b o e => by
  by_cases z : b = d
  · subst z
    rw [hd] at e
    cases e
    exact upd_same
  · rw [upd_ne z]
    exact s b o (by rw [upd_ne z]; exact e)
/-- a list or a tuple that is read -/
def Sq (K : PySem.W.Frag) (H : Hp) (q : Addr) (xs : List V) : Prop := SqL K H q xs ∨ SqT K H q xs
theorem Sq.move {K : PySem.W.Frag} {H H' : Hp} {q : Addr} {xs : List V} (h : Sq K H q xs) (m : ∀ o, (∀ kvs, o ≠ .dK kvs) → H q = some o → H' q = some o) : Sq K H' q xs := by
  rcases h with ((h | ⟨o, h⟩) | h) | ((h | ⟨o, h⟩) | h)
  · exact .inl (.inl (.inl (m _ (fun _ z => nomatch z) h)))
  · exact .inl (.inl (.inr ⟨o, m _ (fun _ z => nomatch z) h⟩))
  · exact .inl (.inr h)
  · exact .inr (.inl (.inl (m _ (fun _ z => nomatch z) h)))
  · exact .inr (.inl (.inr ⟨o, m _ (fun _ z => nomatch z) h⟩))
  · exact .inr (.inr h)
theorem Sq.same {K : PySem.W.Frag} {H H' : Hp} {q : Addr} {xs : List V} (h : Sq K H q xs) (s : Same H H') : Sq K H' q xs := h.move fun o _ e => s _ _ e
theorem Sq.lock {K : PySem.W.Frag} {H : Hp} {d q : Addr} {xs : List V} {kvs : List (Key × V)} {u : HO} (h : Sq K H q xs) (hd : H d = some (.dK kvs)) : Sq K (upd H d u) q xs := h.move fun o n e => by
  rw [upd_ne fun z => ?_]
  · exact e
  · rw [z, hd] at e
    exact n kvs (Option.some.inj e).symm
end PX
/-! How long the repr of data may be. -/
namespace PX
open PySem PySem.Spec PyProof.Rows L2
mutual
def costD : PyData → Nat
  | .none => 4
  | .bool _ => 5
  | .int _ => 2000
  | .str x => 10 * x.length + 2
  | .list xs => costL xs + 2
  | .tuple xs => costL xs + 3
  | .dict kvs => costK kvs + 2
def costL : List PyData → Nat
  | [] => 0
  | x :: xs => costD x + 2 + costL xs
def costK : List (PyData × PyData) → Nat
  | [] => 0
  | (k, v) :: r => costD k + costD v + 4 + costK r
end
mutual
/-- every text's signs are signs -/
def signsD : PyData → Bool
  | .str x => x.cps.toList.all fun c => decide (c < 16 ^ 8)
  | .list xs => signsL xs
  | .tuple xs => signsL xs
  | .dict kvs => signsK kvs
  | _ => true
def signsL : List PyData → Bool
  | [] => true
  | x :: xs => signsD x && signsL xs
def signsK : List (PyData × PyData) → Bool
  | [] => true
  | (k, v) :: r => signsD k && signsD v && signsK r
end
theorem join_le (ts : List Str) : (Str.join ", " ts).length ≤ piled ts := by
  by_cases h : ts = []
  · subst h
    exact Nat.le_refl _
  · have := join_length_add ts h
    omega
theorem textFrom_le : ∀ (ts : List Str) (k : Nat) (acc : Str), (textFrom k acc ts).length ≤ acc.length + piled ts
  | [], _, _ => Nat.le_refl _
  | t :: ts, k, acc => by
    have ih := textFrom_le ts (k + 1)
    rw [piled_cons]
    unfold textFrom
    by_cases h : k > 0
    · simp only [h, if_true]
      refine Nat.le_trans (ih _) ?_
      rw [strLen_append, strLen_append]
      have e : ((", " : String) : Str).length = 2 := rfl
      omega
    · simp only [h, if_false]
      refine Nat.le_trans (ih _) ?_
      have e : ((("" : String) : Str)).length = 0 := rfl
      simp only [strLen_append, e]
      omega
theorem listText_le (ts : List Str) : (listText ts).length ≤ piled ts + 2 := by
  unfold listText
  rw [strLen_append]
  have h := textFrom_le ts 0 "["
  have e1 : ((("[" : String) : Str)).length = 1 := rfl
  have e2 : ((("]" : String) : Str)).length = 1 := rfl
  omega
theorem tupleText_le (ts : List Str) : (tupleText ts).length ≤ piled ts + 3 := by
  unfold tupleText
  rw [strLen_append, strLen_append]
  have h := join_le ts
  have e1 : ((("(" : String) : Str)).length = 1 := rfl
  have e3 : (((if ts.length == 1 then ",)" else ")" : String) : Str)).length ≤ 2 := by split <;> decide +kernel
  omega
theorem dictText_le (ts : List Str) : (dictText ts).length ≤ piled ts + 2 := by
  unfold dictText
  rw [strLen_append, strLen_append]
  have h := join_le ts
  have e1 : ((("{" : String) : Str)).length = 1 := rfl
  have e2 : ((("}" : String) : Str)).length = 1 := rfl
  omega
mutual
theorem shown_le : ∀ d : PyData, d.showable = true → signsD d = true → d.shown.length ≤ costD d
  | .none, _, _ => by decide +kernel
  | .bool b, _, _ => by cases b <;> decide +kernel
  | .int i, h, _ => by
    have h2 : i.natAbs.log2 < 1920 := by simpa [PyData.showable] using h
    have := int_text_length_le (k := 1920) (by decide) h2
    simp only [PyData.shown, costD]
    rw [PySem.ofString_length]
    omega
  | .str x, _, h => by
    simp only [PyData.shown, costD]
    refine StrLaws.reprText_len x fun c hc => ?_
    simp only [signsD, List.all_eq_true] at h
    exact of_decide_eq_true (h c hc)
  | .list xs, h, g => by
    have q := shownL_le xs (by simpa [PyData.showable] using h) (by simpa [signsD] using g)
    simp only [PyData.shown, costD]
    have := listText_le (PyData.shownAll xs)
    omega
  | .tuple xs, h, g => by
    have q := shownL_le xs (by simpa [PyData.showable] using h) (by simpa [signsD] using g)
    simp only [PyData.shown, costD]
    have := tupleText_le (PyData.shownAll xs)
    omega
  | .dict kvs, h, g => by
    have q := shownK_le kvs (by simpa [PyData.showable] using h) (by simpa [signsD] using g)
    simp only [PyData.shown, costD]
    have := dictText_le (PyData.shownKv kvs)
    omega
theorem shownL_le : ∀ ds : List PyData, PyData.showableAll ds = true → signsL ds = true → piled (PyData.shownAll ds) ≤ costL ds
  | [], _, _ => Nat.le_refl _
  | d :: ds, h, g => by
    simp only [PyData.showableAll, Bool.and_eq_true] at h
    simp only [signsL, Bool.and_eq_true] at g
    have h1 := shown_le d h.1 g.1
    have h2 := shownL_le ds h.2 g.2
    simp only [PyData.shownAll, costL]
    rw [piled_cons]
    omega
theorem shownK_le : ∀ ds : List (PyData × PyData), PyData.showableKv ds = true → signsK ds = true → piled (PyData.shownKv ds) ≤ costK ds
  | [], _, _ => Nat.le_refl _
  | (k, v) :: ds, h, g => by
    simp only [PyData.showableKv, Bool.and_eq_true] at h
    simp only [signsK, Bool.and_eq_true] at g
    have h1 := shown_le k h.1.1 g.1.1
    have h2 := shown_le v h.1.2 g.1.2
    have h3 := shownK_le ds h.2 g.2
    simp only [PyData.shownKv, costK]
    rw [piled_cons, strLen_append, strLen_append]
    have e : (((": " : String) : Str)).length = 2 := rfl
    omega
end
theorem sqL_same {K : PySem.W.Frag} {H H' : Hp} {a : Addr} {xs : List V} (s : Same H H') (h : SqL K H a xs) : SqL K H' a xs := s.seq h
theorem sqT_same {K : PySem.W.Frag} {H H' : Hp} {a : Addr} {xs : List V} (s : Same H H') (h : SqT K H a xs) : SqT K H' a xs := by
  rcases h with (h | ⟨o, h⟩) | h
  · exact .inl (.inl (s _ _ h))
  · exact .inl (.inr ⟨o, s _ _ h⟩)
  · exact .inr h
mutual
theorem dp_same {K : PySem.W.Frag} {H H' : Hp} (s : Same H H') : ∀ (d : PyData) (v : V), Dp K H v d → Dp K H' v d
  | .none, _, h => by cases h; exact .non
  | .bool b, _, h => by cases h; exact .bl b
  | .int i, _, h => by cases h; exact .int i
  | .str x, _, h => by cases h; exact .str x
  | .list ds, _, h => by
    cases h with
    | lst h1 h2 => exact .lst (sqL_same s h1) (dps_same s ds _ h2)
  | .tuple ds, _, h => by
    cases h with
    | tup h1 h2 => exact .tup (sqT_same s h1) (dps_same s ds _ h2)
  | .dict _, _, h => by cases h
theorem dps_same {K : PySem.W.Frag} {H H' : Hp} (s : Same H H') : ∀ (ds : List PyData) (vs : List V), DpAll K H vs ds → DpAll K H' vs ds
  | [], _, h => by cases h; exact .nil
  | d :: ds, _, h => by
    cases h with
    | cons h1 h2 => exact .cons (dp_same s d _ h1) (dps_same s ds _ h2)
end
theorem dps_append {K : PySem.W.Frag} {H : Hp} : ∀ {vs : List V} {ds : List PyData} {us : List V} {es : List PyData}, DpAll K H vs ds → DpAll K H us es → DpAll K H (vs ++ us) (ds ++ es)
  | _, _, _, _, .nil, h => h
  | _, _, _, _, .cons a b, h => .cons a (dps_append b h)
theorem dps_map {K : PySem.W.Frag} {H : Hp} {α : Type} (f : α → V) (g : α → PyData) : ∀ l : List α, (∀ x ∈ l, Dp K H (f x) (g x)) → DpAll K H (l.map f) (l.map g)
  | [], _ => .nil
  | x :: r, h => .cons (h x List.mem_cons_self) (dps_map f g r fun y hy => h y (List.mem_cons_of_mem _ hy))
theorem dps_of_paired {K : PySem.W.Frag} {H : Hp} {α β : Type} {F : α → β → Prop} (f : α → V) (g : β → PyData) (h : ∀ x y, F x y → Dp K H (f x) (g y)) : ∀ {l : List α} {r : List β}, Paired F l r → DpAll K H (l.map f) (r.map g)
  | _, _, .nil => .nil
  | _, _, .cons a b => .cons (h _ _ a) (dps_of_paired f g h b)
theorem dps_len {K : PySem.W.Frag} {H : Hp} : ∀ {vs : List V} {ds : List PyData}, DpAll K H vs ds → vs.length = ds.length
  | _, _, .nil => rfl
  | _, _, .cons _ b => congrArg (· + 1) (dps_len b)
/-- the heap without D -/
def hid (D : Addr) (H : Hp) : Hp := fun a => if a = D then none else H a
theorem hid_at {D a : Addr} {H : Hp} (n : a ≠ D) : hid D H a = H a := if_neg n
theorem hid_le (D : Addr) (H : Hp) : Same (hid D H) H := fun b o e => by
  unfold hid at e
  by_cases z : b = D
  · rw [if_pos z] at e; cases e
  · rw [if_neg z] at e; exact e
theorem hid_upd (D : Addr) (H : Hp) (o : HO) : hid D (upd H D o) = hid D H := by
  funext b
  unfold hid
  by_cases z : b = D
  · rw [if_pos z, if_pos z]
  · rw [if_neg z, if_neg z, upd_ne z]
theorem hid_same {D : Addr} {H H' : Hp} (s : Same H H') : Same (hid D H) (hid D H') := fun b o e => by
  unfold hid at e ⊢
  by_cases z : b = D
  · rw [if_pos z] at e; cases e
  · rw [if_neg z] at e ⊢; exact s b o e
theorem hid_gr {p D : Addr} {H H' : Hp} {o : HO} (hp : H D = none) (g : Same H H') : Same H (hid D H') := fun b u e => by
  rw [hid_at (ne_of_none e hp)]
  exact g b u e
/-! ### data made of a list -/
theorem showable_map {α : Type} (f : α → PyData) : ∀ l : List α, (∀ x ∈ l, (f x).showable = true) → PyData.showableAll (l.map f) = true
  | [], _ => rfl
  | x :: r, h => by
    rw [List.map_cons]
    simp only [PyData.showableAll, Bool.and_eq_true]
    exact ⟨h x List.mem_cons_self, showable_map f r fun y hy => h y (List.mem_cons_of_mem _ hy)⟩
theorem nodict_map {α : Type} (f : α → PyData) : ∀ l : List α, (∀ x ∈ l, (f x).hasDict = false) → PyData.hasDictAll (l.map f) = false
  | [], _ => rfl
  | x :: r, h => by
    rw [List.map_cons]
    simp only [PyData.hasDictAll, Bool.or_eq_false_iff]
    exact ⟨h x List.mem_cons_self, nodict_map f r fun y hy => h y (List.mem_cons_of_mem _ hy)⟩
theorem signs_map {α : Type} (f : α → PyData) : ∀ l : List α, (∀ x ∈ l, signsD (f x) = true) → signsL (l.map f) = true
  | [], _ => rfl
  | x :: r, h => by
    rw [List.map_cons]
    simp only [signsL, Bool.and_eq_true]
    exact ⟨h x List.mem_cons_self, signs_map f r fun y hy => h y (List.mem_cons_of_mem _ hy)⟩
theorem cost_map {α : Type} (f : α → PyData) (c : Nat) : ∀ l : List α, (∀ x ∈ l, costD (f x) ≤ c) → costL (l.map f) ≤ l.length * (c + 2)
  | [], _ => Nat.zero_le _
  | x :: r, h => by
    rw [List.map_cons, List.length_cons, Nat.add_mul]
    have h1 := h x List.mem_cons_self
    have h2 := cost_map f c r fun y hy => h y (List.mem_cons_of_mem _ hy)
    simp only [costL]
    omega
theorem depth_map {α : Type} (f : α → PyData) (c : Nat) : ∀ l : List α, (∀ x ∈ l, (f x).depth ≤ c) → PyData.depthAll (l.map f) ≤ c
  | [], _ => Nat.zero_le _
  | x :: r, h => by
    rw [List.map_cons]
    have h1 := h x List.mem_cons_self
    have h2 := depth_map f c r fun y hy => h y (List.mem_cons_of_mem _ hy)
    simp only [PyData.depthAll]
    omega
/-- repr(x): what is asked, in short -/
theorem repr_q {K : PySem.W.Frag} {a : Addr} {d : PyData} {H : Hp} {Q : VK} (h : Dp K H (.ref a) d) (hs : d.showable = true) (hn : d.hasDict = false) (hp : d.depth ≤ 60) (hg : signsD d = true) (hc : costD d ≤ 16000000) (q : Q (.str d.shown) H) : rRepr K [.ref a] H Q :=
  ⟨a, d, rfl, h, hs, hn, hp, by
    have := shown_le d hs hg
    rw [sizeLine_eq]
    omega, q⟩
end PX
/-! Small parts of a heap; heaps that grow but for one object; lists of ints as data. -/
namespace PX
open PySem PySem.Spec PyProof.Rows L2
theorem nsub_new {N H : Hp} {t : Addr} {o : HO} (s : Same N H) : Same (upd N t o) (upd H t o) := fun b u e => by
  by_cases z : b = t
  · subst z
    rw [upd_same] at e ⊢
    exact e
  · rw [upd_ne z] at e ⊢
    exact s b u e
theorem nsub_add {N H : Hp} {t : Addr} {o : HO} (s : Same N H) (h : H t = some o) : Same (upd N t o) H := fun b u e => by
  by_cases z : b = t
  · subst z
    rw [upd_same] at e
    rw [h]
    exact e
  · rw [upd_ne z] at e
    exact s b u e
theorem Gr.putq {q : Addr} {H H' : Hp} {o : HO} (g : Gr q H H') : Gr q H (upd H' q o) := fun b u n e => by
  rw [upd_ne n]
  exact g b u n e
theorem Gr.unlock {H H' : Hp} {d q : Addr} {u w : HO} (hd : H d = some u) (s : Gr q (upd H d w) H') : Gr q H (upd H' d u) := fun b o n e => by
  by_cases z : b = d
  · subst z
    rw [hd] at e
    cases e
    exact upd_same
  · rw [upd_ne z]
    exact s b o n (by rw [upd_ne z]; exact e)
theorem Gr.all {p : Addr} {H H' : Hp} (g : Gr p H H') (h : H p = none) : Same H H' := fun q o e => g q o (ne_of_none e h) e
theorem Gr.from {p : Addr} {H0 H H' : Hp} (s : Same H0 H) (g : Gr p H H') (h : H0 p = none) : Same H0 H' := fun q o e => g q o (ne_of_none e h) (s q o e)
theorem sheets_same {H H' : Hp} {d : Addr} {sh : Sheets} (S : SheetsAt H d sh) (s : Same H H') : SheetsAt H' d sh := ⟨s _ _ S.top, S.nd, fun x hx => s _ _ (S.all x hx)⟩
/-- an object that is no list there -/
theorem ne_lst {H : Hp} {a b : Addr} {kvs : List (Key × V)} {xs : List V} (h : H a = some (.dK kvs)) (g : H b = some (.lst xs)) : a ≠ b := fun z => by
  rw [z, g] at h
  cases h
theorem ne_frz {H : Hp} {a b : Addr} {o : Obj} {u : HO} {xs : List V} (h : H a = some (.frz o u)) (g : H b = some (.lst xs)) : a ≠ b := fun z => by
  rw [z, g] at h
  cases h
theorem none_of {N H : Hp} {b : Addr} {u : HO} (h : ∀ b, N b ≠ none → H b = none) (e : H b = some u) : N b = none := by
  cases q : N b with
  | none => rfl
  | some v =>
    have := h b (by rw [q]; exact fun z => nomatch z)
    rw [e] at this
    cases this
theorem repr_z {d : PyData} (hs : d.showable = true) (hg : signsD d = true) (hc : costD d ≤ 16000000) : d.shown.length ≤ sizeLine := by
  have := shown_le d hs hg
  rw [sizeLine_eq]
  omega
/-! ### lists of ints as data -/
def intsD (ks : List Int) : PyData := .list (ks.map .int)
theorem ints_dp {K : PySem.W.Frag} {H : Hp} {a : Addr} {ks : List Int} (h : SqL K H a (ks.map V.int)) : Dp K H (.ref a) (intsD ks) := .lst h (dps_map V.int PyData.int ks fun k _ => .int k)
theorem ints_eqvAll : ∀ ks : List Int, PyData.eqvAll (ks.map .int) (ks.map .int) = true
  | [] => rfl
  | k :: r => by
    rw [List.map_cons, PyData.eqvAll, ints_eqvAll r]
    simp [PyData.eqv]
theorem ints_eqv (ks : List Int) : PyData.eqv (intsD ks) (intsD ks) = true := by
  unfold intsD
  rw [PyData.eqv]
  exact ints_eqvAll ks
theorem ints_layAll : ∀ ks : List Int, PyData.canLayAll0 (ks.map .int) = true
  | [] => rfl
  | k :: r => by
    rw [List.map_cons, PyData.canLayAll0, ints_layAll r]
    simp [PyData.canLay0]
theorem ints_shaped (ks : List Int) : SeqAt.shaped (intsD ks) = true := by
  unfold SeqAt.shaped
  rw [Bool.and_eq_true]
  refine ⟨?_, ?_⟩
  · unfold intsD
    rw [PyData.canLay0]
    exact ints_layAll ks
  · have := depth_map PyData.int 0 ks fun k _ => Nat.le_refl _
    refine decide_eq_true ?_
    show PyData.depthAll _ + 1 ≤ 64
    omega
end PX
namespace PX
open PySem PySem.Spec PyProof.Rows L2
def top (i : Nat) : Stmt := PySem.Challenge.pw_dictorders_k14_tables_cut_to_keys.main.body.getD i (.Pass ⟨0, 0, 0, 0⟩)
abbrev s_cut : Stmt := top 1
abbrev N_cut : List Str := ["tables", "keys", "key", "value", "name", "table"]
theorem sc_cut : FnScope N_cut ["tables", "keys"] (defScope s_cut) := ⟨rfl, rfl, rfl, by decide +kernel, rfl, by decide +kernel, by decide +kernel⟩
abbrev s_law_bag : Stmt := top 3
abbrev N_law_bag : List Str := ["_law_script", "_law_at", "_law_cell", "_law_great"]
theorem sc_law_bag : FnScope N_law_bag ["_law_script", "_law_at"] (defScope s_law_bag) := ⟨rfl, rfl, rfl, by decide +kernel, rfl, by decide +kernel, by decide +kernel⟩
abbrev s_law_take : Stmt := top 4
abbrev N_law_take : List Str := ["_law_bag_here", "_law_many", "_law_digit", "_law_mixed"]
theorem sc_law_take : FnScope N_law_take ["_law_bag_here", "_law_many"] (defScope s_law_take) := ⟨rfl, rfl, rfl, by decide +kernel, rfl, by decide +kernel, by decide +kernel⟩
abbrev s_law_names : Stmt := top 5
abbrev N_law_names : List Str := ["_law_bag_here", "_law_many", "_law_some", "_law_line", "_law_at"]
theorem sc_law_names : FnScope N_law_names ["_law_bag_here", "_law_many"] (defScope s_law_names) := ⟨rfl, rfl, rfl, by decide +kernel, rfl, by decide +kernel, by decide +kernel⟩
abbrev s_law_number : Stmt := top 6
abbrev N_law_number : List Str := ["_law_bag_here", "_law_way", "_law_far"]
theorem sc_law_number : FnScope N_law_number ["_law_bag_here"] (defScope s_law_number) := ⟨rfl, rfl, rfl, by decide +kernel, rfl, by decide +kernel, by decide +kernel⟩
abbrev s_law_table : Stmt := top 7
abbrev N_law_table : List Str := ["_law_bag_here", "_law_most", "_law_found", "_law_turn", "_law_key"]
theorem sc_law_table : FnScope N_law_table ["_law_bag_here", "_law_most"] (defScope s_law_table) := ⟨rfl, rfl, rfl, by decide +kernel, rfl, by decide +kernel, by decide +kernel⟩
abbrev s_law_tables : Stmt := top 8
abbrev N_law_tables : List Str := ["_law_bag_here", "_law_names_here", "_law_most", "_law_name"]
theorem sc_law_tables : FnScope N_law_tables ["_law_bag_here", "_law_names_here", "_law_most"] (defScope s_law_tables) := ⟨rfl, rfl, rfl, by decide +kernel, rfl, by decide +kernel, by decide +kernel⟩
abbrev s_law_shown : Stmt := top 9
abbrev N_law_shown : List Str := ["_law_sheets", "_law_name"]
theorem sc_law_shown : FnScope N_law_shown ["_law_sheets"] (defScope s_law_shown) := ⟨rfl, rfl, rfl, by decide +kernel, rfl, by decide +kernel, by decide +kernel⟩
abbrev s_law : Stmt := top 10
abbrev N_law : List Str := ["_law_script", "_law_at", "_law_bag_here", "_law_turn", "_law_sheets", "_law_all_keys", "_law_name", "_law_picked", "_law_key", "_law_k", "_law_ahead", "_law_due", "_law_handed", "_law_found"]
theorem sc_law : FnScope N_law ["_law_script"] (defScope s_law) := ⟨rfl, rfl, rfl, by decide +kernel, rfl, by decide +kernel, by decide +kernel⟩
/-- what the top has made, as far as it is asked -/
structure Txt (K : PySem.W.Frag) (mg : Str → Option Value) where
  f_cut : Addr
  d_cut : FuncData
  F_cut : Fun K "cut" "cut" s_cut f_cut d_cut
  m_cut : mg "cut" = some (.ref f_cut)
  b_cut : Binds K d_cut ["tables", "keys"] []
  f_law_bag : Addr
  d_law_bag : FuncData
  F_law_bag : Fun K "_law_bag" "_law_bag" s_law_bag f_law_bag d_law_bag
  m_law_bag : mg "_law_bag" = some (.ref f_law_bag)
  b_law_bag : Binds K d_law_bag ["_law_script", "_law_at"] []
  f_law_take : Addr
  d_law_take : FuncData
  F_law_take : Fun K "_law_take" "_law_take" s_law_take f_law_take d_law_take
  m_law_take : mg "_law_take" = some (.ref f_law_take)
  b_law_take : Binds K d_law_take ["_law_bag_here", "_law_many"] []
  f_law_names : Addr
  d_law_names : FuncData
  F_law_names : Fun K "_law_names" "_law_names" s_law_names f_law_names d_law_names
  m_law_names : mg "_law_names" = some (.ref f_law_names)
  b_law_names : Binds K d_law_names ["_law_bag_here", "_law_many"] []
  f_law_number : Addr
  d_law_number : FuncData
  F_law_number : Fun K "_law_number" "_law_number" s_law_number f_law_number d_law_number
  m_law_number : mg "_law_number" = some (.ref f_law_number)
  b_law_number : Binds K d_law_number ["_law_bag_here"] []
  f_law_table : Addr
  d_law_table : FuncData
  F_law_table : Fun K "_law_table" "_law_table" s_law_table f_law_table d_law_table
  m_law_table : mg "_law_table" = some (.ref f_law_table)
  b_law_table : Binds K d_law_table ["_law_bag_here", "_law_most"] []
  f_law_tables : Addr
  d_law_tables : FuncData
  F_law_tables : Fun K "_law_tables" "_law_tables" s_law_tables f_law_tables d_law_tables
  m_law_tables : mg "_law_tables" = some (.ref f_law_tables)
  b_law_tables : Binds K d_law_tables ["_law_bag_here", "_law_names_here", "_law_most"] []
  f_law_shown : Addr
  d_law_shown : FuncData
  F_law_shown : Fun K "_law_shown" "_law_shown" s_law_shown f_law_shown d_law_shown
  m_law_shown : mg "_law_shown" = some (.ref f_law_shown)
  b_law_shown : Binds K d_law_shown ["_law_sheets"] []
  f_law : Addr
  d_law : FuncData
  F_law : Fun K "law" "law" s_law f_law d_law
  m_law : mg "law" = some (.ref f_law)
  b_law : Binds K d_law ["_law_script"] []
  kb_cut_0_keys_tables : KBinds K d_cut ["tables", "keys"] ["keys", "tables"] sw2 sw2
  z_abs : mg "abs" = none
  z_dict : mg "dict" = none
  z_isinstance : mg "isinstance" = none
  z_len : mg "len" = none
  z_list : mg "list" = none
  z_max : mg "max" = none
  z_min : mg "min" = none
  z_range : mg "range" = none
  z_repr : mg "repr" = none
  z_tuple : mg "tuple" = none
section
variable {P : Program} {w : World} {K : PySem.W.Frag} {mg : Str → Option Value} {base : Heap}
/-- a table cut to keys -/
def cutI (ks : List Int) (l : Tab) : Tab := l.filter fun p => decide (p.1 ∈ ks)
theorem cutI_ok {ks : List Int} {l : Tab} (h : TabOk l) : TabOk (cutI ks l) :=
  ⟨(h.nd.sublist (List.filter_sublist.map _)), fun p hp => h.sm p (List.mem_filter.mp hp).1⟩
def flatInts (ks : List Int) : (ks.map V.int).all flatV = true := by
  rw [List.all_eq_true]
  intro v hv
  obtain ⟨k, _, rfl⟩ := List.mem_map.mp hv
  rfl
theorem inV_ints (k : Int) (ks : List Int) : inV (.int k) (ks.map V.int) = decide (k ∈ ks) := by
  unfold inV
  rw [List.any_map]
  induction ks with
  | nil => rfl
  | cons a r ih =>
    rw [List.any_cons, ih]
    have e : (((fun y => eqV y (V.int k)) ∘ V.int) a) = decide (a = k) := by
      show eqV (.int a) (.int k) = decide (a = k)
      unfold eqV
      first | rfl | simp
    rw [e]
    by_cases z : a = k
    · subst z; simp
    · have z' : ¬ k = a := fun q => z q.symm
      simp [z, z']
def sp_cut (K : PySem.W.Frag) : Sp := fun vs H Q _ => ∃ (d kq : Addr) (sh : Sheets) (ks : List Int), vs = [.ref d, .ref kq] ∧ SheetsAt H d sh ∧ Sq K H kq (ks.map V.int) ∧ sh.length ≤ 100 ∧ (∀ s ∈ sh, s.2.2.length ≤ 100 ∧ (s.2.2.map (·.1)).Nodup) ∧
  ∀ (r : Addr) (sh' : Sheets) (H' : Hp), H r = none → SheetsAt H' r sh' → sh'.map (fun s => (s.1, s.2.2)) = sh.map (fun s => (s.1, cutI ks s.2.2)) → (∀ s ∈ sh', H s.2.1 = none) → (sh'.map (·.2.1)).Nodup → Same H H' → Q (.ref r) H'
theorem ok_cut (T : Txt K mg) : FnOk P w K mg base CX0 1 T.f_cut T.d_cut ["tables", "keys"] (sp_cut K) := by
  refine T.F_cut.ok sc_cut (fun vs H Q E h => ?_) (fun cdv A outer s H vs Q E hr h => ?_)
  · obtain ⟨d, kq, sh, ks, rfl, _⟩ := h
    rfl
  · obtain ⟨d, kq, sh, ks, rfl, hS, hK, hl, hl2, kk⟩ := h
    refine ⟨_, (pss_one (ps_ret (pe_lock (pe_dc (own := [("name", 4), ("table", 5)]) (g := (gTup K 2 (gCons (gName 4) (gCons (gName 5) gNil)))) (tt := tYes) rfl sc_cut.nd (pi_items (pv 0)) (blkOk_by (own := [("name", 4), ("table", 5)]) (N := N_cut) (sc := defScope s_cut) (by decide +kernel)) (fun _ _ _ _ _ => (pg_tup rfl (pgs_cons (pg_name (i := 4) sc_cut.nd rfl (.inl rfl)) (pgs_cons (pg_name (i := 5) sc_cut.nd rfl (.inl rfl)) pgs_nil)))) (fun _ _ _ _ _ => pts_nil) (fun _ _ _ _ _ => (pv 4)) (fun _ _ _ _ _ => (pe_lock (pe_dc (own := [("key", 2), ("value", 3)]) (g := (gTup K 2 (gCons (gName 2) (gCons (gName 3) gNil)))) rfl sc_cut.nd (pi_items (pv 5)) (blkOk_by (own := [("key", 2), ("value", 3)]) (N := N_cut) (by kernel_rfl)) (fun _ _ _ _ _ => (pg_tup rfl (pgs_cons (pg_name (i := 2) sc_cut.nd rfl (.inl rfl)) (pgs_cons (pg_name (i := 3) sc_cut.nd rfl (.inl rfl)) pgs_nil)))) (fun _ _ _ _ _ => pts_one (pt_cmpR (op_in_seq : OpR _ _ (rIn K false)) (pv 2) (pv 1) (by rfl))) (fun _ _ _ _ _ => (pv 2)) (fun _ _ _ _ _ => (pv 3))))))))), ?_⟩
    refine ⟨d, _, hS.top, True.intro, fun od => ?_⟩
    refine ⟨_, rfl, d, od, sh.map kS, rfl, upd_same, fun D hD => ?_⟩
    have hKL : Sq K (upd H d (.frz od (.dK (sh.map kS)))) kq (ks.map V.int) := hK.lock hS.top
    have hAll : ∀ s ∈ sh, (upd H d (.frz od (.dK (sh.map kS)))) s.2.1 = some (.dK (tab s.2.2)) := fun s hs => by
      rw [upd_ne (hS.ne hs)]
      exact hS.all s hs
    have hLd : (upd H d (.frz od (.dK (sh.map kS)))) d = some (.frz od (.dK (sh.map kS))) := upd_same
    have back : ∀ H', Same (upd H d (.frz od (.dK (sh.map kS)))) H' → Same H (upd H' d (.dK (sh.map kS))) := fun H' s => Same.unlock hS.top s
    have freeL : ∀ q, (upd H d (.frz od (.dK (sh.map kS)))) q = none → H q = none ∧ q ≠ d := fun q h => by
      have n : q ≠ d := fun z => by rw [z, upd_same] at h; cases h
      rw [upd_ne n] at h
      exact ⟨h, n⟩
    revert hD hKL hAll hLd back freeL
    generalize upd H d (.frz od (.dK (sh.map kS))) = HL
    intro hD hKL hAll hLd back freeL
    refine dc_it (walk_items (d := d) (o := od) (kvs := sh.map kS)) (fun i H2 => ∃ es : Sheets, H2 D = some (.dK (es.map kS)) ∧ es.map (fun s => (s.1, s.2.2)) = (sh.take i).map (fun s => (s.1, cutI ks s.2.2)) ∧
        (∀ s ∈ es, HL s.2.1 = none ∧ s.2.1 ≠ D ∧ TabAt H2 s.2.1 s.2.2) ∧ (es.map (·.2.1)).Nodup ∧ Same HL H2)
      ⟨[], upd_same, rfl, (fun _ h => nomatch h), List.nodup_nil, Same.mk1 hD⟩ (fun i H2 _ ⟨_, _, _, _, _, s2⟩ => s2 _ _ hLd) ?_ ?_
    · rintro i x H2 H3 hi ⟨es, hD2, hes, hall, hnd, s2⟩ ⟨T1, xn, xt, rfl, nT, rfl, e1, e2⟩
      obtain ⟨s0, hs0, rfl⟩ := getElem?_map2 e1
      obtain ⟨s0', hs0', rfl⟩ := getElem?_map2 e2
      rw [hs0] at hs0'
      cases hs0'
      have hmem : s0 ∈ sh := List.mem_of_getElem? hs0
      obtain ⟨nm, ta, l⟩ := s0
      have sT := Same.mk1 (o := .tup [kV (kS (nm, ta, l)).1, (kS (nm, ta, l)).2]) nT
      refine ⟨T1, _, rfl, SqT.of upd_same, rfl, _, _, rfl, _, _, rfl, rfl, rfl, ?_⟩
      refine ⟨_, rfl, ?_⟩
      have hta : (upd H2 T1 (.tup [kV (kS (nm, ta, l)).1, (kS (nm, ta, l)).2])) ta = some (.dK (tab l)) := sT _ _ (s2 _ _ (hAll _ hmem))
      have hKT : Sq K (upd H2 T1 (.tup [kV (kS (nm, ta, l)).1, (kS (nm, ta, l)).2])) kq (ks.map V.int) := hKL.same (s2.trans sT)
      have hDT : (upd H2 T1 (.tup [kV (kS (nm, ta, l)).1, (kS (nm, ta, l)).2])) D = some (.dK (es.map kS)) := sT _ _ hD2
      have sTT : Same HL (upd H2 T1 (.tup [kV (kS (nm, ta, l)).1, (kS (nm, ta, l)).2])) := s2.trans sT
      have hallT : ∀ s ∈ es, (upd H2 T1 (.tup [kV (kS (nm, ta, l)).1, (kS (nm, ta, l)).2])) s.2.1 = some (.dK (tab s.2.2)) := fun s hs => sT _ _ (hall s hs).2.2
      refine ⟨ta, _, hta, True.intro, fun od2 => ?_⟩
      refine ⟨_, rfl, ta, od2, tab l, rfl, upd_same, fun D2 hDD => ?_⟩
      have hDne : D2 ≠ ta := fun z => by rw [z, upd_same] at hDD; cases hDD
      have hD2T : (upd H2 T1 (.tup [kV (kS (nm, ta, l)).1, (kS (nm, ta, l)).2])) D2 = none := by
        rw [upd_ne hDne] at hDD
        exact hDD
      revert hta hKT hDT sTT hallT hDD hD2T
      generalize upd H2 T1 (.tup [kV (kS (nm, ta, l)).1, (kS (nm, ta, l)).2]) = HT
      intro hta hKT hDT sTT hallT hDD hD2T
      have hK2 : Sq K (upd HT ta (.frz od2 (.dK (tab l)))) kq (ks.map V.int) := hKT.lock hta
      have lk : (upd HT ta (.frz od2 (.dK (tab l)))) ta = some (.frz od2 (.dK (tab l))) := upd_same
      have back2 : ∀ H', Same (upd HT ta (.frz od2 (.dK (tab l)))) H' → Same HT (upd H' ta (.dK (tab l))) := fun H' s => Same.unlock hta s
      revert hDD hK2 lk back2
      generalize upd HT ta (.frz od2 (.dK (tab l))) = HL2
      intro hDD hK2 lk back2
      have hnd2 : (l.map (·.1)).Nodup := (hl2 _ hmem).2
      have hlen2 : l.length ≤ 100 := (hl2 _ hmem).1
      refine dc_it (walk_items (d := ta) (o := od2) (kvs := tab l)) (fun j H4 => H4 D2 = some (.dK (tab (cutI ks (l.take j)))) ∧ Same HL2 H4) ⟨upd_same, Same.mk1 hDD⟩ (fun j H4 _ z => z.2 _ _ lk) ?_ ?_
      · rintro j x4 H4 H5 hj ⟨q4, s4⟩ ⟨T2, xk, xv, rfl, nT2, rfl, f1, f2⟩
        obtain ⟨p0, hp0, rfl⟩ := getElem?_map2 f1
        obtain ⟨p0', hp0', rfl⟩ := getElem?_map2 f2
        rw [hp0] at hp0'
        cases hp0'
        have sT2 := Same.mk1 (o := .tup [kV (kI p0).1, (kI p0).2]) nT2
        refine ⟨T2, _, rfl, SqT.of upd_same, rfl, _, _, rfl, _, _, rfl, rfl, rfl, ?_⟩
        refine ⟨_, rfl, _, rfl, kq, _, rfl, hK2.same (s4.trans sT2), rfl, flatInts ks, _, rfl, ?_⟩
        have hnew : p0.1 ∉ (cutI ks (l.take j)).map (·.1) := fun z => by
          have z2 : p0.1 ∈ (l.take j).map (·.1) := (List.filter_sublist.map _).subset z
          rw [List.map_take] at z2
          exact not_mem_take hnd2 (by rw [List.getElem?_map, hp0] <;> rfl) z2
        have hcut : cutI ks (l.take (j + 1)) = cutI ks (l.take j) ++ cutI ks [p0] := by
          rw [take_next hp0]
          exact List.filter_append ..
        rw [if_neg Bool.false_ne_true, show inV (kV (kI p0).1) (ks.map V.int) = decide (p0.1 ∈ ks) from inV_ints p0.1 ks]
        by_cases hm : p0.1 ∈ ks
        · rw [decide_eq_true hm]
          refine iteT ?_
          have hlt : (cutI ks (l.take j)).length ≤ 100 := by
            have h1 : (cutI ks (l.take j)).length ≤ (l.take j).length := List.length_filter_le ..
            rw [List.length_take] at h1
            omega
          refine ⟨_, rfl, _, rfl, tab (cutI ks (l.take j)), Sum.inl p0.1, rfl, sT2 _ _ q4, by rw [tab_len]; exact small1000 (by omega), ?_, Same.put (s4.trans sT2) hDD⟩
          rw [upd_same, show (kI p0).2 = V.int p0.2 from rfl, putK_tab, putL_new _ hnew, hcut]
          have : cutI ks [p0] = [p0] := by simp [cutI, hm]
          rw [this]
        · rw [decide_eq_false hm]
          refine iteF ⟨?_, s4.trans sT2⟩
          have : cutI ks [p0] = [] := by simp [cutI, hm]
          rw [hcut, this, List.append_nil]
          exact sT2 _ _ q4
      · rintro H4 ⟨q4, s4⟩
        rw [tab_len, List.take_length] at q4
        have sU := back2 H4 s4
        have hnm : nm ∉ es.map (·.1) := fun z => by
          have e0 : es.map (·.1) = (sh.take i).map (·.1) := by
            have := congrArg (List.map Prod.fst) hes
            rw [List.map_map, List.map_map] at this
            exact this
          rw [e0, List.map_take] at z
          exact not_mem_take hS.nd (by rw [List.getElem?_map, hs0] <;> rfl) z
        have hlen : es.length ≤ 100 := by
          have := congrArg List.length hes
          rw [List.length_map, List.length_map, List.length_take] at this
          omega
        refine ⟨s4 _ _ lk, es.map kS, Sum.inr nm, rfl, sU _ _ hDT, by rw [List.length_map]; exact small1000 (by omega), es ++ [(nm, D2, cutI ks l)], ?_, ?_, ?_, ?_, Same.put (sTT.trans sU) hD⟩
        · rw [upd_same, putK_sheet _ hnm]
        · rw [List.map_append, hes, take_next hs0, List.map_append]
          rfl
        · intro s hs
          rcases List.mem_append.mp hs with hs | hs
          · obtain ⟨a1, a2, a3⟩ := hall s hs
            refine ⟨a1, a2, ?_⟩
            show upd _ D _ s.2.1 = _
            rw [upd_ne a2]
            exact sU _ _ (hallT s hs)
          · cases List.mem_singleton.mp hs
            have nD : D2 ≠ D := fun z => by rw [z, hDT] at hD2T; cases hD2T
            refine ⟨sTT.free hD2T, nD, ?_⟩
            show upd (upd H4 ta _) D _ D2 = _
            rw [upd_ne nD, upd_ne hDne]
            exact q4
        · rw [List.map_append, List.nodup_append]
          refine ⟨hnd, by simp, fun a ha b hb e => ?_⟩
          obtain ⟨s, hs, rfl⟩ := List.mem_map.mp ha
          have e2 : b = D2 := by simpa using hb
          have h1 := hallT s hs
          rw [e, e2, hD2T] at h1
          cases h1
    · rintro H2 ⟨es, hD2, hes, hall, hnd, s2⟩
      rw [List.length_map, List.take_length] at hes
      have hDd : D ≠ d := (freeL D hD).2
      refine ⟨s2 _ _ hLd, kk D es _ (freeL D hD).1 ⟨?_, ?_, ?_⟩ hes (fun s hs => (freeL _ (hall s hs).1).1) hnd (back H2 s2)⟩
      · rw [upd_ne hDd]
        exact hD2
      · have e0 : es.map (·.1) = sh.map (·.1) := by
          have := congrArg (List.map Prod.fst) hes
          rw [List.map_map, List.map_map] at this
          exact this
        rw [e0]
        exact hS.nd
      · intro s hs
        show upd H2 d _ s.2.1 = _
        rw [upd_ne (freeL _ (hall s hs).1).2]
        exact (hall s hs).2.2

/-! ### the draws -/
/-- at p the bag of draws, at most b mixed numbers taken -/
structure Bag (H : Hp) (p : Addr) (b : Nat) : Prop where
  ex : ∃ g m n : Int, H p = some (.lst [.int g, .int m, .int n]) ∧ 0 ≤ m ∧ m < 2147483587 ∧ 0 ≤ n ∧ n ≤ (b : Int)
theorem Bag.mono {H : Hp} {p : Addr} {b c : Nat} (B : Bag H p b) (h : b ≤ c) : Bag H p c := by
  obtain ⟨g, m, n, h1, h2, h3, h4, h5⟩ := B.ex
  exact ⟨g, m, n, h1, h2, h3, h4, by omega⟩
theorem Bag.grow {H H' : Hp} {p : Addr} {b : Nat} (B : Bag H p b) (s : Same H H') : Bag H' p b := by
  obtain ⟨g, m, n, h, r⟩ := B.ex
  exact ⟨g, m, n, s p _ h, r⟩
theorem Bag.some {H : Hp} {p : Addr} {b : Nat} (B : Bag H p b) : H p ≠ none := by
  obtain ⟨g, m, n, h, r⟩ := B.ex
  rw [h]
  exact fun z => nomatch z
theorem Bag.ne {H : Hp} {p q : Addr} {b : Nat} (B : Bag H p b) (h : H q = none) : q ≠ p := fun z => B.some (z ▸ h)
def sp_law_bag (K : PySem.W.Frag) : Sp := fun vs H Q _ => ∃ (a : Addr) (ns : List Int) (i : Int), vs = [.ref a, .int i] ∧ SqL K H a (ns.map V.int) ∧ 0 ≤ i ∧ i ≤ 100 ∧
  ∀ (p : Addr) (H' : Hp), H p = none → Same H H' → Bag H' p 0 → Q (.ref p) H'
theorem ok_law_bag (T : Txt K mg) : FnOk P w K mg base CX0 1 T.f_law_bag T.d_law_bag ["_law_script", "_law_at"] (sp_law_bag K) := by
  refine T.F_law_bag.ok sc_law_bag (fun vs H Q E h => ?_) (fun cdv A outer s H vs Q E hr h => ?_)
  · obtain ⟨a, ns, i, rfl, _⟩ := h
    rfl
  · obtain ⟨a, ns, i, rfl, hS, i0, i1, kk⟩ := h
    refine ⟨_, (pss_cons (ps_set (i := 2) sc_law_bag.nd rfl (.inl rfl) (pe_cut (pe_ifExp (pt_cmpR op_lt (pv 1) (pe_callB call_len_seq (by rfl) T.z_len (by decide +kernel) (pa_cons (pv 0) pa_nil)) (nomark _)) (pe_ix (ix_list : IxR _ (rIxL K)) (pv 0) (pv 1) (fun _ _ => rfl)) pe_int)))
        (pss_cons (ps_set (i := 3) sc_law_bag.nd rfl (.inl rfl) (pe_cut (pe_ifExp (pt_cmpR op_ge (pe_callB call_abs (by rfl) T.z_abs (by decide +kernel) (pa_cons (pv 2) pa_nil)) (pe_op op_pow pe_int pe_int) (nomark _)) (pe_callB call_abs (by rfl) T.z_abs (by decide +kernel) (pa_cons (pv 2) pa_nil)) pe_int)))
        (pss_one (ps_ret (pe_lst (pa_cons (pv 3) (pa_cons (pe_op op_mod (pe_op op_add (pe_op op_add (pe_op op_mul (pe_op op_mod (pv 2) pe_int) pe_int) (pe_op op_mul pe_int (pv 1))) pe_int) pe_int) (pa_cons pe_int pa_nil)))))))), ?_⟩
    refine ⟨fun v H' => (∃ c : Int, v = .int c) ∧ H' = H, ⟨_, rfl, _, rfl, a, _, rfl, .inl hS, _, _, rfl, rfl, _, rfl, ite2 (fun hc => ?_) (fun _ => ⟨⟨0, rfl⟩, rfl⟩)⟩, ?_⟩
    · have hc' : i < ((ns.map V.int).length : Int) := of_decide_eq_true hc
      rw [List.length_map] at hc'
      have hl : i.toNat < ns.length := by omega
      exact ⟨_, rfl, _, rfl, a, _, i, .int ns[i.toNat], rfl, rfl, hS, at_of (j := i.toNat) (by omega) (by rw [List.getElem?_map, List.getElem?_eq_getElem hl] <;> rfl), ⟨_, rfl⟩, rfl⟩
    rintro v H' ⟨⟨c, rfl⟩, rfl⟩
    refine ⟨fun v H1 => (∃ g : Int, v = .int g) ∧ H1 = H', ⟨_, rfl, c, rfl, _, _, rfl, rfl, ⟨by decide, by decide, by decide⟩, _, _, rfl, rfl, _, rfl, ite2 (fun _ => ⟨_, rfl, c, rfl, ⟨_, rfl⟩, rfl⟩) (fun _ => ⟨⟨0, rfl⟩, rfl⟩)⟩, ?_⟩
    rintro v H1 ⟨⟨g, rfl⟩, rfl⟩
    refine ⟨_, rfl, _, rfl, _, _, rfl, rfl, (by decide : (0 : Int) < 2147483629), _, _, rfl, rfl, .inr ⟨by decide, by decide⟩, _, rfl, _, _, rfl, rfl, .inl ⟨by decide, by decide⟩, _, _, rfl, rfl, _, _, rfl, rfl, _, _, rfl, rfl, (by decide : (0 : Int) < 2147483587), by show 3 ≤ sizeLine; decide, fun p hp => ?_⟩
    refine kk p _ hp (fun b o e => by rw [upd_ne (ne_of_none e hp)]; exact e) ⟨g, _, 0, upd_same, Int.emod_nonneg _ (by decide), Int.emod_lt_of_pos _ (by decide), by decide, by decide⟩

def sp_law_take : Sp := fun vs H Q _ => ∃ (p : Addr) (k : Int) (b : Nat), vs = [.ref p, .int k] ∧ 0 < k ∧ k < 2 ^ 30 ∧ Bag H p b ∧ b ≤ 1000000000 ∧
  ∀ (r : Int) (H' : Hp), 0 ≤ r → r < k → Bag H' p (b + 1) → Gr p H H' → Q (.int r) H'
theorem ok_law_take (T : Txt K mg) : FnOk P w K mg base CX0 1 T.f_law_take T.d_law_take ["_law_bag_here", "_law_many"] sp_law_take := by
  refine T.F_law_take.ok sc_law_take (fun vs H Q E h => ?_) (fun cdv A outer s H vs Q E hr h => ?_)
  · obtain ⟨p, k, b, rfl, _⟩ := h
    rfl
  · obtain ⟨p, k, b, rfl, k0, k1, ⟨g, m, n, hp, m0, m1, n0, n1⟩, hb, kk⟩ := h
    have hkd : CDivW 0 k := ⟨k0, by
      have h2 : k.natAbs < 2 ^ 30 := by omega
      have := PySem.Flt.log2_lt_of (by decide) h2
      omega⟩
    refine ⟨_, (pss_cons (ps_if (pt_cmpR op_gt (pe_ix (ix_list : IxR _ (rIxL K)) (pv 0) pe_int (fun _ _ => rfl)) pe_int (nomark _))
          (pss_cons (ps_set (i := 2) sc_law_take.nd rfl (.inl rfl) (pe_op op_mod (pe_ix (ix_list : IxR _ (rIxL K)) (pv 0) pe_int (fun _ _ => rfl)) (pv 1)))
          (pss_cons (ps_asg (pe_op op_fdivW (pe_ix (ix_list : IxR _ (rIxL K)) (pv 0) pe_int (fun _ _ => rfl)) (pv 1)) (pg_sub (pv 0) pe_int set_list))
          (pss_one (ps_ret (pv 2)))))
          pss_nil)
        (pss_cons (ps_asg (pe_op op_add (pe_ix (ix_list : IxR _ (rIxL K)) (pv 0) pe_int (fun _ _ => rfl)) pe_int) (pg_sub (pv 0) pe_int set_list))
        (pss_cons (ps_set (i := 3) sc_law_take.nd rfl (.inl rfl) (pe_op op_mod (pe_op op_pow (pe_op op_add (pe_ix (ix_list : IxR _ (rIxL K)) (pv 0) pe_int (fun _ _ => rfl)) (pe_op op_mul pe_int (pe_ix (ix_list : IxR _ (rIxL K)) (pv 0) pe_int (fun _ _ => rfl)))) pe_int) pe_int))
        (pss_one (ps_ret (pe_op op_mod (pe_op op_fdivW (pe_op op_mod (pe_op op_add (pe_op op_mul (pv 3) pe_int) (pe_op op_mul pe_int (pe_ix (ix_list : IxR _ (rIxL K)) (pv 0) pe_int (fun _ _ => rfl)))) pe_int) pe_int) (pv 1))))))), ?_⟩
    refine ⟨_, rfl, p, _, 0, _, rfl, rfl, SqL.of hp, rfl, _, _, rfl, rfl, _, rfl, ite2 (fun hc => ?_) (fun hc => ?_)⟩
    · refine ⟨_, rfl, p, _, 0, _, rfl, rfl, SqL.of hp, rfl, _, rfl, _, _, rfl, rfl, k0, ?_⟩
      refine ⟨_, rfl, p, _, 0, _, rfl, rfl, SqL.of hp, rfl, _, rfl, _, _, rfl, rfl, hkd, _, rfl, ?_⟩
      refine ⟨p, _, 0, 0, rfl, rfl, hp, rfl, ?_⟩
      refine ⟨_, rfl, ?_⟩
      exact kk _ _ (Int.emod_nonneg _ (by omega)) (Int.emod_lt_of_pos _ k0) ⟨_, m, n, upd_same, m0, m1, n0, by omega⟩ fun q o hq e => by rw [upd_ne hq]; exact e
    · refine ⟨_, rfl, p, _, 2, _, rfl, rfl, SqL.of hp, rfl, _, _, rfl, rfl, _, rfl, ?_⟩
      refine ⟨p, _, 2, 2, rfl, rfl, hp, rfl, ?_⟩
      have small : CPow (m + 79190251 * (n + 1)) 3 := ⟨by decide, by decide, by omega⟩
      refine ⟨_, rfl, p, _, 1, _, rfl, rfl, SqL.of upd_same, rfl, _, rfl, p, _, 2, _, rfl, rfl, SqL.of upd_same, rfl, _, _, rfl, rfl, .inl ⟨by decide, by decide⟩, _, _, rfl, rfl, _, _, rfl, rfl, small, _, _, rfl, rfl, (by decide : (0 : Int) < 2305843009213693951), ?_⟩
      refine ⟨_, rfl, _, _, rfl, rfl, .inr ⟨by decide, by decide⟩, _, rfl, p, _, 2, _, rfl, rfl, SqL.of upd_same, rfl, _, _, rfl, rfl, .inl ⟨by decide, by decide⟩, _, _, rfl, rfl, _, _, rfl, rfl, (by decide : (0 : Int) < 2305843009213693921), _, _, rfl, rfl, (⟨by decide, by decide +kernel⟩ : CDivW 0 4096), _, rfl, _, _, rfl, rfl, k0, ?_⟩
      exact kk _ _ (Int.emod_nonneg _ (by omega)) (Int.emod_lt_of_pos _ k0) ⟨_, _, _, upd_same, m0, m1, by omega, by omega⟩ fun q o hq e => by rw [upd_ne hq]; exact e

/-- one to six letters from a to z -/
def nmB (x : Str) : Bool := decide (1 ≤ x.length) && decide (x.length ≤ 6) && x.cps.toList.all fun c => decide (97 ≤ c) && decide (c ≤ 122)
/-- distinct names -/
def namesB (ns : List Str) : Bool := decide ns.Nodup && ns.all nmB
abbrev nm1 : List Str := ["a", "b", "c", "d", "e", "f"]
abbrev nm2 : List Str := ["kept", "merged", "base", "moved", "turned", "filled"]
abbrev nm3 : List Str := ["zz", "az", "za", "a", "z", "abcdef"]
abbrev nm4 : List Str := ["abcdef", "abcdeg", "bbcdef", "by", "keys", "with"]
def nmLines : List (List Str) := [nm1, nm2, nm3, nm4]
theorem nmLines_ok : ∀ l ∈ nmLines, ∀ a ∈ List.range 6, ∀ m ∈ List.range 7, namesB ((l.drop a ++ l.take a).take m) = true ∧ ((l.drop a ++ l.take a).take m).length = m := by decide +kernel
def sp_law_names : Sp := fun vs H Q _ => ∃ (p : Addr) (m : Int) (b : Nat), vs = [.ref p, .int m] ∧ 0 ≤ m ∧ m ≤ 6 ∧ Bag H p b ∧ b ≤ 999999990 ∧
  ∀ (q : Addr) (ns : List Str) (H' : Hp), namesB ns = true → (ns.length : Int) = m → H q = none → H' q = some (.lst (ns.map V.str)) → Gr p H H' → Bag H' p (b + 2) → Q (.ref q) H'
theorem ok_law_names (T : Txt K mg) : FnOk P w K mg base CX0 2 T.f_law_names T.d_law_names ["_law_bag_here", "_law_many"] sp_law_names := by
  refine T.F_law_names.ok sc_law_names (fun vs H Q E h => ?_) (fun cdv A outer s H vs Q E hr h => ?_)
  · obtain ⟨p, m, b, rfl, _⟩ := h
    rfl
  · obtain ⟨p, m, b, rfl, m0, m1, B, hb, kk⟩ := h
    obtain ⟨bl, hp⟩ : ∃ l, H p = some (.lst l) := by
      obtain ⟨g, m, n, h, _⟩ := B.ex
      exact ⟨_, h⟩
    refine ⟨_, (pss_cons (ps_set (i := 2) sc_law_names.nd rfl (.inl rfl) (pe_lst (pa_cons (pe_lst (pa_cons pe_str (pa_cons pe_str (pa_cons pe_str (pa_cons pe_str (pa_cons pe_str (pa_cons pe_str pa_nil))))))) (pa_cons (pe_lst (pa_cons pe_str (pa_cons pe_str (pa_cons pe_str (pa_cons pe_str (pa_cons pe_str (pa_cons pe_str pa_nil))))))) pa_nil))))
        (pss_cons (ps_set (i := 2) sc_law_names.nd rfl (.inl rfl) (pe_op op_cat (pv 2) (pe_lst (pa_cons (pe_lst (pa_cons pe_str (pa_cons pe_str (pa_cons pe_str (pa_cons pe_str (pa_cons pe_str (pa_cons pe_str pa_nil))))))) (pa_cons (pe_lst (pa_cons pe_str (pa_cons pe_str (pa_cons pe_str (pa_cons pe_str (pa_cons pe_str (pa_cons pe_str pa_nil))))))) pa_nil)))))
        (pss_cons (ps_par (i := 3) (j := 4) rfl sc_law_names.nd rfl rfl (by decide) rfl rfl (pa_cons (pe_ix (ix_list : IxR _ (rIxL K)) (pv 2) (pe_call (ok_law_take T) (hr.mono (by decide)) rfl T.m_law_take T.F_law_take.kp T.b_law_take .nil pass0 (pa_cons (pv 0) (pa_cons pe_int pa_nil))) (fun _ _ => rfl)) (pa_cons (pe_call (ok_law_take T) (hr.mono (by decide)) rfl T.m_law_take T.F_law_take.kp T.b_law_take .nil pass0 (pa_cons (pv 0) (pa_cons pe_int pa_nil))) pa_nil)) (by rfl))
        (pss_one (ps_ret (pe_slice (sl_list : SlR _ (rSlL K)) (pe_op op_cat (pe_slice (sl_list : SlR _ (rSlL K)) (pv 3) (po_some (pv 4)) po_none) (pe_slice (sl_list : SlR _ (rSlL K)) (pv 3) po_none (po_some (pv 4)))) po_none (po_some (pv 1)))))))), ?_⟩
    refine ⟨by show 6 ≤ sizeLine; decide, fun p1 n1 => ⟨by show 6 ≤ sizeLine; decide, fun p2 n2 => ⟨by show 2 ≤ sizeLine; decide, fun p3 n3 => ?_⟩⟩⟩
    refine ⟨_, rfl, by show 6 ≤ sizeLine; decide, fun p4 n4 => ⟨by show 6 ≤ sizeLine; decide, fun p5 n5 => ⟨by show 2 ≤ sizeLine; decide, fun p6 n6 => ?_⟩⟩⟩
    have s1 := Same.mk1 (o := .lst (nm1.map V.str)) n1
    have s2 := Same.mk1 (o := .lst (nm2.map V.str)) n2
    have s3 := Same.mk1 (o := .lst [.ref p1, .ref p2]) n3
    have s4 := Same.mk1 (o := .lst (nm3.map V.str)) n4
    have s5 := Same.mk1 (o := .lst (nm4.map V.str)) n5
    have s6 := Same.mk1 (o := .lst [.ref p4, .ref p5]) n6
    have e3 := (s4.trans (s5.trans s6)) p3 _ upd_same
    refine ⟨p3, p6, _, _, rfl, rfl, e3, upd_same, by show 4 ≤ sizeLine; decide, fun p7 n7 => ?_⟩
    have s7 := Same.mk1 (o := .lst ([.ref p1, .ref p2] ++ [.ref p4, .ref p5])) n7
    have e1 := (s2.trans (s3.trans (s4.trans (s5.trans (s6.trans s7))))) p1 _ upd_same
    have e2 := (s3.trans (s4.trans (s5.trans (s6.trans s7)))) p2 _ upd_same
    have e4 := (s5.trans (s6.trans s7)) p4 _ upd_same
    have e5 := (s6.trans s7) p5 _ upd_same
    have s17 := s1.trans (s2.trans (s3.trans (s4.trans (s5.trans (s6.trans s7)))))
    have np : ∀ {q : Addr}, H q = none → q ≠ p := fun {q} h z => by
      rw [z, hp] at h
      cases h
    have q1 := np n1
    have q2 := np (s1.free n2)
    have q4 := np ((s1.trans (s2.trans s3)).free n4)
    have q5 := np ((s1.trans (s2.trans (s3.trans s4))).free n5)
    have q7 := np ((s1.trans (s2.trans (s3.trans (s4.trans (s5.trans s6))))).free n7)
    obtain ⟨g, mm, n, hB, rB⟩ := B.ex
    refine ⟨_, rfl, _, rfl, p, 4, b, rfl, by decide, by decide, ⟨g, mm, n, s17 p _ hB, rB⟩, by omega, fun r H8 r0 r1 B8 g8 => ?_⟩
    have pick : ∃ (q : Addr) (l : List Str), atI ([.ref p1, .ref p2] ++ [.ref p4, .ref p5] : List V) r = some (.ref q) ∧ H8 q = some (.lst (l.map V.str)) ∧ l ∈ nmLines := by
      rcases (by omega : r = 0 ∨ r = 1 ∨ r = 2 ∨ r = 3) with rfl | rfl | rfl | rfl
      · exact ⟨p1, nm1, rfl, g8 _ _ q1 e1, by simp [nmLines]⟩
      · exact ⟨p2, nm2, rfl, g8 _ _ q2 e2, by simp [nmLines]⟩
      · exact ⟨p4, nm3, rfl, g8 _ _ q4 e4, by simp [nmLines]⟩
      · exact ⟨p5, nm4, rfl, g8 _ _ q5 e5, by simp [nmLines]⟩
    obtain ⟨q, l, ha, hq, hl⟩ := pick
    refine ⟨p7, _, r, .ref q, rfl, rfl, SqL.of (g8 _ _ q7 upd_same), ha, ?_⟩
    refine ⟨_, rfl, p, 6, b + 1, rfl, by decide, by decide, B8, by omega, fun a H9 a0 a1 B9 g9 => ?_⟩
    have hqp : q ≠ p := by
      obtain ⟨g', m', n', h', _⟩ := B8.ex
      intro z
      rw [z, h'] at hq
      cases l with
      | nil => exact absurd hl (by decide)
      | cons x l => cases Option.some.inj hq
    have hq9 : H9 q = some (.lst (l.map V.str)) := g9 _ _ hqp hq
    refine ⟨_, _, rfl, ?_⟩
    refine ⟨_, rfl, _, rfl, a, rfl, q, _, rfl, SqL.of hq9, fun p8 n8 => ?_⟩
    have s8 := Same.mk1 (o := .lst (cutV (l.map V.str) (some a) none)) n8
    refine ⟨_, rfl, _, rfl, a, rfl, q, _, rfl, SqL.of (s8 _ _ hq9), fun p9 n9 => ?_⟩
    have s9 := Same.mk1 (o := .lst (cutV (l.map V.str) none (some a))) n9
    refine ⟨p8, p9, _, _, rfl, rfl, s9 _ _ upd_same, upd_same, ?_, fun p10 n10 => ?_⟩
    · have h1 := cutV_length (l.map V.str) (some a) none
      have h2 := cutV_length (l.map V.str) none (some a)
      have h3 : l.length = 6 := by
        revert hl
        exact (by decide +kernel : ∀ l ∈ nmLines, l.length = 6) l
      rw [List.length_map] at h1 h2
      exact Nat.le_trans (by omega : _ ≤ 12) (by decide)
    have s10 := Same.mk1 (o := .lst (cutV (l.map V.str) (some a) none ++ cutV (l.map V.str) none (some a))) n10
    refine ⟨_, rfl, m, rfl, p10, _, rfl, SqL.of upd_same, fun p11 n11 => ?_⟩
    have s11 := Same.mk1 (o := .lst (((l.drop a.toNat ++ l.take a.toNat).take m.toNat).map V.str)) n11
    have ec : cutV (cutV (l.map V.str) (some a) none ++ cutV (l.map V.str) none (some a)) none (some m) = ((l.drop a.toNat ++ l.take a.toNat).take m.toNat).map V.str := by
      rw [cut_from a0, cut_to a0, cut_to m0, ← List.map_drop, ← List.map_take, ← List.map_append, ← List.map_take]
    obtain ⟨k1, k2⟩ := nmLines_ok l hl a.toNat (List.mem_range.mpr (by omega)) m.toNat (List.mem_range.mpr (by omega))
    have gr9 := (Gr.same s17).trans (g8.trans g9)
    have gr := gr9.trans (Gr.same (s8.trans (s9.trans (s10.trans s11))))
    obtain ⟨g', m', n', h', r'⟩ := B9.ex
    have fresh : H p11 = none := Gr.back gr9 (by rw [h']; exact fun z => nomatch z) ((s8.trans (s9.trans s10)).free n11)
    rw [ec]
    exact kk p11 _ _ k1 (by rw [k2]; omega) fresh upd_same gr ⟨g', m', n', (s8.trans (s9.trans (s10.trans s11))) _ _ h', r'⟩

def sp_law_number : Sp := fun vs H Q _ => ∃ (p : Addr) (b : Nat), vs = [.ref p] ∧ Bag H p b ∧ b ≤ 999999990 ∧
  ∀ (r : Int) (H' : Hp), Num r → Gr p H H' → Bag H' p (b + 2) → Q (.int r) H'
theorem ok_law_number (T : Txt K mg) : FnOk P w K mg base CX0 2 T.f_law_number T.d_law_number ["_law_bag_here"] sp_law_number := by
  refine T.F_law_number.ok sc_law_number (fun vs H Q E h => ?_) (fun cdv A outer s H vs Q E hr h => ?_)
  · obtain ⟨p, b, rfl, _⟩ := h
    rfl
  · obtain ⟨p, b, rfl, B, hb, kk⟩ := h
    refine ⟨_, (pss_cons (ps_set (i := 1) sc_law_number.nd rfl (.inl rfl) (pe_call (ok_law_take T) (hr.mono (by decide)) rfl T.m_law_take T.F_law_take.kp T.b_law_take .nil pass0 (pa_cons (pv 0) (pa_cons pe_int pa_nil))))
        (pss_cons (ps_if (pt_cmpR op_lt (pv 1) pe_int (nomark _))
          (pss_one (ps_ret (pe_op op_sub (pe_call (ok_law_take T) (hr.mono (by decide)) rfl T.m_law_take T.F_law_take.kp T.b_law_take .nil pass0 (pa_cons (pv 0) (pa_cons pe_int pa_nil))) pe_int)))
          pss_nil)
        (pss_cons (ps_set (i := 2) sc_law_number.nd rfl (.inl rfl) (pe_ix (ix_list : IxR _ (rIxL K)) (pe_lst (pa_cons (pe_op op_pow pe_int pe_int) (pa_cons (pe_op op_add (pe_op op_pow pe_int pe_int) pe_int) (pa_cons (pe_op op_mul pe_int (pe_op op_pow pe_int pe_int)) pa_nil)))) (pe_call (ok_law_take T) (hr.mono (by decide)) rfl T.m_law_take T.F_law_take.kp T.b_law_take .nil pass0 (pa_cons (pv 0) (pa_cons pe_int pa_nil))) (fun _ _ => rfl)))
        (pss_one (ps_ret (pe_cut (pe_ifExp (pt_cmpR op_eq (pv 1) pe_int (nomark _)) (pv 2) (pe_op op_sub pe_int (pv 2))))))))), ?_⟩
    refine ⟨_, rfl, p, 9, b, rfl, by decide, by decide, B, by omega, fun r H1 r0 r1 B1 g1 => ?_⟩
    refine ⟨_, rfl, _, _, rfl, rfl, _, rfl, ite2 (fun hc => ?_) (fun hc => ?_)⟩
    · refine ⟨_, rfl, p, 8, b + 1, rfl, by decide, by decide, B1, by omega, fun r2 H2 s0 s1 B2 g2 => ?_⟩
      exact ⟨_, _, rfl, rfl, kk _ _ ⟨by omega, by omega⟩ (g1.trans g2) B2⟩
    · refine ⟨_, _, rfl, rfl, ⟨by decide, by decide, by decide⟩, _, _, rfl, rfl, ⟨by decide, by decide, by decide⟩, _, _, rfl, rfl, _, _, rfl, rfl, ⟨by decide, by decide, by decide⟩, _, _, rfl, rfl, .inl ⟨by decide, by decide⟩, by show 3 ≤ sizeLine; decide, fun q nq => ?_⟩
      refine ⟨_, rfl, p, 3, b + 1, rfl, by decide, by decide, B1.grow (Same.mk1 nq), by omega, fun r2 H2 s0 s1 B2 g2 => ?_⟩
      have hqp : q ≠ p := B1.ne nq
      have hq := g2 q _ hqp upd_same
      have pick : ∃ z : Int, atI ([.int (10 ^ (29 : Int).toNat), .int (10 ^ (29 : Int).toNat + 7), .int (3 * 10 ^ (29 : Int).toNat)] : List V) r2 = some (.int z) ∧ 0 ≤ z ∧ z < 10 ^ 30 := by
        rcases (by omega : r2 = 0 ∨ r2 = 1 ∨ r2 = 2) with rfl | rfl | rfl
        · exact ⟨_, rfl, by decide, by decide⟩
        · exact ⟨_, rfl, by decide, by decide⟩
        · exact ⟨_, rfl, by decide, by decide⟩
      obtain ⟨z, ha, z0, z1⟩ := pick
      refine ⟨q, _, r2, .int z, rfl, rfl, SqL.of hq, ha, ?_⟩
      have gr := g1.trans ((Gr.same (Same.mk1 nq)).trans g2)
      refine ⟨fun v H' => (∃ z : Int, v = .int z ∧ Num z) ∧ H' = H2, ⟨_, rfl, rfl, _, rfl, ite2 (fun _ => ⟨_, rfl, ⟨z, rfl, by unfold Num; omega⟩, rfl⟩) (fun _ => ⟨_, rfl, _, _, rfl, rfl, ⟨_, rfl, by unfold Num; omega⟩, rfl⟩)⟩, ?_⟩
      rintro v H' ⟨⟨z, rfl, hz⟩, rfl⟩
      exact kk _ _ hz gr B2

theorem num_showable {r : Int} (h : Num r) : r.natAbs.log2 < 1920 := by
  have h2 : r.natAbs < 2 ^ 100 := by
    have := h.1
    have := h.2
    omega
  have := PySem.Flt.log2_lt_of (by decide) h2
  omega
def sp_law_table : Sp := fun vs H Q _ => ∃ (p : Addr) (m : Int) (b : Nat), vs = [.ref p, .int m] ∧ 0 ≤ m ∧ m ≤ 60 ∧ Bag H p b ∧ b ≤ 999990000 ∧
  ∀ (d : Addr) (l : Tab) (H' : Hp), H d = none → TabAt H' d l → TabOk l → (l.length : Int) ≤ m → Gr p H H' → Bag H' p (b + 300) → Q (.ref d) H'
theorem ok_law_table (T : Txt K mg) : FnOk P w K mg base CX0 3 T.f_law_table T.d_law_table ["_law_bag_here", "_law_most"] sp_law_table := by
  refine T.F_law_table.ok sc_law_table (fun vs H Q E h => ?_) (fun cdv A outer s H vs Q E hr h => ?_)
  · obtain ⟨p, m, b, rfl, _⟩ := h
    rfl
  · obtain ⟨p, m, b, rfl, m0, m1, B, hb, kk⟩ := h
    refine ⟨_, (pss_cons (ps_set (i := 2) sc_law_table.nd rfl (.inl rfl) pe_dnewK)
        (pss_cons (ps_for PassesOwn.never rfl (pi_range1 rfl T.z_range (pa_cons (pe_call (ok_law_take T) (hr.mono (by decide)) rfl T.m_law_take T.F_law_take.kp T.b_law_take .nil pass0 (pa_cons (pv 0) (pa_cons (pe_op op_add (pv 1) pe_int) pa_nil))) pa_nil)) (pg_name (i := 3) sc_law_table.nd rfl (.inl rfl))
          (pss_cons (ps_set (i := 4) sc_law_table.nd rfl (.inl rfl) (pe_call (ok_law_number T) (hr.mono (by decide)) rfl T.m_law_number T.F_law_number.kp T.b_law_number .nil pass0 (pa_cons (pv 0) pa_nil)))
          (pss_one (ps_dput (hu_of hr) (pv 2) (pv 4) (pe_call (ok_law_number T) (hr.mono (by decide)) rfl T.m_law_number T.F_law_number.kp T.b_law_number .nil pass0 (pa_cons (pv 0) pa_nil)) rfl))))
        (pss_one (ps_ret (pv 2))))), ?_⟩
    intro d hd
    have B0 := B.grow (Same.mk1 (o := .dK []) hd)
    have hdp := B.ne hd
    refine ⟨_, rfl, _, rfl, _, _, rfl, rfl, p, m + 1, b, rfl, by omega, by omega, B0, by omega, fun r H1 r0 r1 B1 g1 => ?_⟩
    refine ⟨r, rfl, by omega, by omega, ?_⟩
    refine for_range (lo := 0) (n := r.toNat) (fun i σ H2 => ∃ (l : Tab) (v3 v4 : Option V), σ = [some (.ref p), some (.int m), some (.ref d), v3, v4] ∧ TabAt H2 d l ∧ TabOk l ∧ l.length ≤ i ∧ Gr p H H2 ∧ Bag H2 p (b + 1 + 4 * i))
      ⟨[], none, none, rfl, g1 d _ hdp upd_same, TabOk.nil, Nat.le_refl _, (Gr.same (Same.mk1 hd)).trans g1, B1⟩ ?_ ?_
    · rintro i σ H2 hi ⟨l, v3, v4, rfl, hl, ok, hn, g2, B2⟩
      refine ⟨_, rfl, p, b + 1 + 4 * i, rfl, B2, by omega, fun k H3 hk g3 B3 => ?_⟩
      refine ⟨_, rfl, p, b + 1 + 4 * i + 2, rfl, B3, by omega, fun v H4 hv g4 B4 => ?_⟩
      have hl4 : H4 d = some (.dK (tab l)) := g4 d _ hdp (g3 d _ hdp hl)
      refine ⟨_, rfl, _, rfl, d, _, rfl, DPut.k (k := Sum.inl k) hl4 (by rw [tab_len]; exact small1000 (by omega)), ?_⟩
      rw [putK_tab]
      refine ⟨putL l k v, _, _, rfl, upd_same, ok.put hk hv, by have := putL_length l k v; omega, (g2.trans (g3.trans g4)).put hd, ?_⟩
      obtain ⟨g', m', n', h', r'⟩ := B4.ex
      exact Bag.mono (b := b + 1 + 4 * i + 2 + 2) ⟨g', m', n', by rw [upd_ne hdp.symm]; exact h', r'⟩ (by omega)
    · rintro σ H2 ⟨l, v3, v4, rfl, hl, ok, hn, g2, B2⟩
      exact ⟨_, rfl, kk d l H2 hd hl ok (by omega) g2 (B2.mono (by omega))⟩

def sp_law_tables (K : PySem.W.Frag) : Sp := fun vs H Q _ => ∃ (p q : Addr) (ns : List Str) (m : Int) (b : Nat), vs = [.ref p, .ref q, .int m] ∧ SqL K H q (ns.map V.str) ∧ q ≠ p ∧ ns.Nodup ∧ ns.length ≤ 8 ∧ 0 ≤ m ∧ m ≤ 60 ∧ Bag H p b ∧ b ≤ 999980000 ∧
  ∀ (d : Addr) (sh : Sheets) (H' : Hp), H d = none → SheetsAt H' d sh → sh.map (·.1) = ns → (∀ s ∈ sh, H s.2.1 = none ∧ TabOk s.2.2 ∧ (s.2.2.length : Int) ≤ m) → Gr p H H' → Bag H' p (b + 2400) → Q (.ref d) H'
theorem ok_law_tables (T : Txt K mg) : FnOk P w K mg base CX0 4 T.f_law_tables T.d_law_tables ["_law_bag_here", "_law_names_here", "_law_most"] (sp_law_tables K) := by
  refine T.F_law_tables.ok sc_law_tables (fun vs H Q E h => ?_) (fun cdv A outer s H vs Q E hr h => ?_)
  · obtain ⟨p, q, ns, m, b, rfl, _⟩ := h
    rfl
  · obtain ⟨p, q, ns, m, b, rfl, hS, hqp, nd, hl, m0, m1, B, hb, kk⟩ := h
    refine ⟨_, (pss_one (ps_ret (pe_callTy (call_dictP rfl) (by rfl) T.z_dict (by decide +kernel) (pa_cons (pe_lc (own := [("_law_name", 3)]) (g := (gName 3)) (tt := tYes) rfl sc_law_tables.nd (pi_list (pv 1)) (blkOk_by (own := [("_law_name", 3)]) (N := N_law_tables) (sc := defScope s_law_tables) (by decide +kernel)) (fun _ _ _ _ _ => (pg_name (i := 3) sc_law_tables.nd rfl (.inl rfl))) (fun _ _ _ _ _ => pts_nil) (fun _ _ _ _ _ => (pe_tup (pa_cons (pv 3) (pa_cons (pe_call (ok_law_table T) (hr.mono (by decide)) rfl T.m_law_table T.F_law_table.kp T.b_law_table .nil pass0 (pa_cons (pv 0) (pa_cons (pv 2) pa_nil))) pa_nil))))) pa_nil)))), ?_⟩
    refine ⟨_, rfl, q, rfl, ⟨_, hS⟩, fun D hD => ?_⟩
    have hDp := B.ne hD
    refine lc_list (K := K) (a := q) (xs := ns.map V.str) (fun i H2 => ∃ es : List (Addr × Str × Addr × Tab), H2 D = some (.lst (es.map fun e => V.ref e.1)) ∧ es.map (·.2.1) = ns.take i ∧
        (∀ e ∈ es, H2 e.1 = some (.tup [.str e.2.1, .ref e.2.2.1]) ∧ e.1 ≠ D ∧ TabAt H2 e.2.2.1 e.2.2.2 ∧ TabOk e.2.2.2 ∧ (e.2.2.2.length : Int) ≤ m ∧ H e.2.2.1 = none) ∧ Gr p H H2 ∧ Bag H2 p (b + 300 * i))
      ⟨[], upd_same, rfl, (fun _ h => nomatch h), Gr.same (Same.mk1 hD), B.grow (Same.mk1 hD)⟩ (fun i H2 _ ⟨_, _, _, _, g, _⟩ => g.seq hqp hS) ?_ ?_
    · rintro i x H2 hi ⟨es, hD2, hn, hall, g2, B2⟩
      obtain ⟨x, hx, rfl⟩ := getElem?_map' hi
      have hin : i < ns.length := (List.getElem?_eq_some_iff.mp hx).1
      refine ⟨rfl, ?_⟩
      refine ⟨_, rfl, _, rfl, _, rfl, p, m, b + 300 * i, rfl, m0, m1, B2, by omega, fun d l H3 nd3 hT ok hlen g3 B3 => ?_⟩
      refine ⟨by show 2 ≤ sizeLine; decide, fun t nt => ?_⟩
      have hD3 : H3 D = some (.lst (es.map fun e => V.ref e.1)) := g3 _ _ hDp hD2
      have s4 := Same.mk1 (o := .tup [.str x, .ref d]) nt
      have gr := g2.trans (g3.trans (Gr.same s4))
      have tD : t ≠ D := fun z => by rw [z, hD3] at nt; cases nt
      have hlen2 : es.length = i := by
        have := congrArg List.length hn
        rw [List.length_map, List.length_take] at this
        omega
      refine ⟨es.map fun e => V.ref e.1, s4 _ _ hD3, by rw [List.length_map]; exact small1000 (by omega), es ++ [(t, x, d, l)], ?_, ?_, ?_, gr.put hD, ?_⟩
      · rw [List.map_append]
        exact upd_same
      · rw [List.map_append, hn, take_next hx]
        rfl
      · intro e he
        rcases List.mem_append.mp he with he | he
        · obtain ⟨a1, a2, a3, a4, a5, a6⟩ := hall e he
          have ne1 : e.1 ≠ p := fun z => by
            obtain ⟨g', m', n', h', _⟩ := B2.ex
            rw [z, h'] at a1
            cases a1
          have ne2 : e.2.2.1 ≠ p := B.ne a6
          have ne3 : e.2.2.1 ≠ D := fun z => by
            have q : H2 e.2.2.1 = some (.dK (tab e.2.2.2)) := a3
            rw [z, hD2] at q
            cases q
          refine ⟨?_, a2, ?_, a4, a5, a6⟩
          · rw [upd_ne a2]
            exact s4 _ _ (g3 _ _ ne1 a1)
          · show upd (upd H3 t _) D _ e.2.2.1 = _
            rw [upd_ne ne3]
            exact s4 _ _ (g3 _ _ ne2 a3)
        · cases List.mem_singleton.mp he
          have ne3 : d ≠ D := fun z => by
            have q : H3 d = some (.dK (tab l)) := hT
            rw [z, hD3] at q
            cases q
          refine ⟨?_, tD, ?_, ok, hlen, Gr.back g2 B2.some nd3⟩
          · rw [upd_ne tD]
            exact upd_same
          · show upd (upd H3 t _) D _ d = _
            rw [upd_ne ne3]
            exact s4 _ _ hT
      · obtain ⟨g', m', n', h', r'⟩ := B3.ex
        exact Bag.mono (b := b + 300 * i + 300) ⟨g', m', n', by rw [upd_ne hDp.symm]; exact s4 _ _ h', r'⟩ (by omega)
    · rintro H2 ⟨es, hD2, hn, hall, g2, B2⟩
      rw [List.length_map, List.take_length] at hn
      rw [List.length_map] at B2
      have ek : (es.map fun e => kS e.2).map (·.1) = ns.map (Sum.inr : Str → Key) := by
        rw [← hn, List.map_map, List.map_map]
        rfl
      refine ⟨D, es.map (·.1), es.map fun e => kS e.2, rfl, SqL.of (by rw [List.map_map]; exact hD2), paired_map _ _ _ fun e he => SqT.of (hall e he).1, fun d nd4 => ?_⟩
      have s5 := Same.mk1 (o := .dK (mergeK [] (es.map fun e => kS e.2))) nd4
      refine kk d (es.map (·.2)) _ (Gr.back g2 B2.some nd4) ⟨?_, ?_, ?_⟩ ?_ ?_ (g2.trans (Gr.same s5)) ((B2.grow s5).mono (by omega))
      · rw [upd_same, mergeK_id (by rw [ek]; exact inr_nodup nd), List.map_map]
        rfl
      · rw [List.map_map]
        rw [show (es.map ((·.1) ∘ (·.2))) = es.map (·.2.1) from rfl, hn]
        exact nd
      · intro s hs
        obtain ⟨e, he, rfl⟩ := List.mem_map.mp hs
        exact s5 _ _ (hall e he).2.2.1
      · rw [List.map_map]
        exact hn
      · intro s hs
        obtain ⟨e, he, rfl⟩ := List.mem_map.mp hs
        obtain ⟨a1, a2, a3, a4, a5, a6⟩ := hall e he
        exact ⟨a6, a4, a5⟩

def tabD (l : Tab) : PyData := .list (l.map fun p => .tuple [.int p.1, .int p.2])
def shD (sh : List (Str × Tab)) : PyData := .list (sh.map fun s => .tuple [.str s.1, tabD s.2])
theorem valV_sheet {sh : Sheets} (nd : (sh.map (·.1)).Nodup) {s : Str × Addr × Tab} (h : s ∈ sh) : valV (sh.map kS) (Sum.inr s.1 : Key) = some (.ref s.2.1) := by
  rw [show valV (sh.map kS) (Sum.inr s.1 : Key) = getL (sh.map kS) (Sum.inr s.1 : Key) from rfl]
  refine getL_of_mem ?_ (List.mem_map.mpr ⟨s, h, rfl⟩)
  have := inr_nodup nd
  rw [List.map_map] at this ⊢
  exact this
theorem tabD_facts {l : Tab} (h : TabOk l) (hl : l.length ≤ 100) : (tabD l).showable = true ∧ (tabD l).hasDict = false ∧ (tabD l).depth ≤ 2 ∧ signsD (tabD l) = true ∧ costD (tabD l) ≤ 410000 := by
  have c := cost_map (fun p : Int × Int => PyData.tuple [.int p.1, .int p.2]) 4007 l (fun p _ => Nat.le_refl _)
  refine ⟨?_, ?_, ?_, ?_, ?_⟩
  · show PyData.showableAll _ = true
    refine showable_map _ l fun p hp => ?_
    simp [PyData.showable, PyData.showableAll, num_showable (h.sm p hp).1, num_showable (h.sm p hp).2]
  · show PyData.hasDictAll _ = false
    exact nodict_map _ l fun p _ => rfl
  · have := depth_map (fun p : Int × Int => PyData.tuple [.int p.1, .int p.2]) 1 l fun p _ => Nat.le_refl _
    show PyData.depthAll _ + 1 ≤ 2
    omega
  · show signsL _ = true
    exact signs_map _ l fun p _ => rfl
  · show costL _ + 2 ≤ 410000
    have h2 : l.length * (4007 + 2) ≤ 100 * (4007 + 2) := Nat.mul_le_mul_right _ hl
    omega
theorem nm_signs {x : Str} (h : nmB x = true) : signsD (.str x) = true := by
  simp only [nmB, Bool.and_eq_true, List.all_eq_true, decide_eq_true_eq] at h
  simp only [signsD, List.all_eq_true, decide_eq_true_eq]
  intro c hc
  have := (h.2 c hc).2
  omega
theorem nm_len {x : Str} (h : nmB x = true) : x.length ≤ 6 := by
  simp only [nmB, Bool.and_eq_true, decide_eq_true_eq] at h
  exact h.1.2
theorem shD_facts {sh : List (Str × Tab)} (h : ∀ s ∈ sh, nmB s.1 = true ∧ TabOk s.2 ∧ s.2.length ≤ 100) (hl : sh.length ≤ 8) :
    (shD sh).showable = true ∧ (shD sh).hasDict = false ∧ (shD sh).depth ≤ 60 ∧ signsD (shD sh) = true ∧ costD (shD sh) ≤ 16000000 := by
  have c := cost_map (fun s : Str × Tab => PyData.tuple [.str s.1, tabD s.2]) 410100 sh (fun s hs => by
    obtain ⟨h1, h2, h3⟩ := h s hs
    have := (tabD_facts h2 h3).2.2.2.2
    have := nm_len h1
    simp only [costD, costL]
    omega)
  refine ⟨?_, ?_, ?_, ?_, ?_⟩
  · show PyData.showableAll _ = true
    refine showable_map _ sh fun s hs => ?_
    obtain ⟨h1, h2, h3⟩ := h s hs
    simp [PyData.showable, PyData.showableAll, (tabD_facts h2 h3).1]
  · show PyData.hasDictAll _ = false
    refine nodict_map _ sh fun s hs => ?_
    obtain ⟨h1, h2, h3⟩ := h s hs
    simp [PyData.hasDict, PyData.hasDictAll, (tabD_facts h2 h3).2.1]
  · have := depth_map (fun s : Str × Tab => PyData.tuple [.str s.1, tabD s.2]) 3 sh fun s hs => by
      obtain ⟨h1, h2, h3⟩ := h s hs
      have := (tabD_facts h2 h3).2.2.1
      simp only [PyData.depth, PyData.depthAll]
      omega
    show PyData.depthAll _ + 1 ≤ 60
    omega
  · show signsL _ = true
    refine signs_map _ sh fun s hs => ?_
    obtain ⟨h1, h2, h3⟩ := h s hs
    have h4 := (tabD_facts h2 h3).2.2.2.1
    have h5 := nm_signs h1
    simp [signsD, signsL] at *
    exact ⟨h5, h4⟩
  · show costL _ + 2 ≤ 16000000
    have h2 : sh.length * (410100 + 2) ≤ 8 * (410100 + 2) := Nat.mul_le_mul_right _ hl
    omega
def sp_law_shown : Sp := fun vs H Q _ => ∃ (d : Addr) (sh : Sheets), vs = [.ref d] ∧ SheetsAt H d sh ∧ (∀ s ∈ sh, nmB s.1 = true ∧ TabOk s.2.2 ∧ s.2.2.length ≤ 100) ∧ sh.length ≤ 8 ∧
  ∀ (H' : Hp), Same H H' → Q (.str (shD (sh.map fun s => (s.1, s.2.2))).shown) H'
theorem ok_law_shown (T : Txt K mg) : FnG P w K mg base CX0 1 T.f_law_shown T.d_law_shown ["_law_sheets"] sp_law_shown := by
  refine okG T.F_law_shown sc_law_shown (fun vs H Q E h => ?_) (fun cdv A outer s H vs Q E hr hg h => ?_)
  · obtain ⟨d, sh, rfl, _⟩ := h
    rfl
  · obtain ⟨d, sh, rfl, hS, hok, hl, kk⟩ := h
    refine ⟨_, (pss_one (ps_ret (pe_callB (call_repr hr hg) (by rfl) T.z_repr (by decide +kernel) (pa_cons (pe_lock (pe_lc (own := [("_law_name", 1)]) (g := (gName 1)) (tt := tYes) rfl sc_law_shown.nd (pi_keys (pv 0)) (blkOk_by (own := [("_law_name", 1)]) (N := N_law_shown) (sc := defScope s_law_shown) (by decide +kernel)) (fun _ _ _ _ _ => (pg_name (i := 1) sc_law_shown.nd rfl (.inl rfl))) (fun _ _ _ _ _ => pts_nil) (fun _ _ _ _ _ => (pe_tup (pa_cons (pv 1) (pa_cons (LiI.pe_listItems rfl (pe_dget (hu_of hr) (pv 0) (pv 1) (fun _ _ => rfl)) rfl T.z_list (by decide +kernel)) pa_nil)))))) pa_nil)))), ?_⟩
    refine ⟨d, _, hS.top, True.intro, fun od => ?_⟩
    refine ⟨_, rfl, d, od, rfl, .inl ⟨sh.map kS, upd_same, fun D hD => ?_⟩⟩
    have hAll : ∀ s ∈ sh, (upd H d (.frz od (.dK (sh.map kS)))) s.2.1 = some (.dK (tab s.2.2)) := fun s hs => by
      rw [upd_ne (hS.ne hs)]
      exact hS.all s hs
    have hLd : (upd H d (.frz od (.dK (sh.map kS)))) d = some (.frz od (.dK (sh.map kS))) := upd_same
    have back : ∀ H', Same (upd H d (.frz od (.dK (sh.map kS)))) H' → Same H (upd H' d (.dK (sh.map kS))) := fun H' s => Same.unlock hS.top s
    revert hD hAll hLd back
    generalize upd H d (.frz od (.dK (sh.map kS))) = HL
    intro hD hAll hLd back
    refine lc_it (walk_keys (d := d) (o := od) (kvs := sh.map kS)) (fun i H2 => ∃ vs : List V, H2 D = some (.lst vs) ∧ DpAll K (hid D (hid d H2)) vs ((sh.take i).map fun s => .tuple [.str s.1, tabD s.2.2]) ∧ Same HL H2)
      ⟨[], upd_same, .nil, Same.mk1 hD⟩ (fun i H2 _ ⟨_, _, _, s2⟩ => s2 _ _ hLd) ?_ ?_
    · rintro i x H2 H3 hi ⟨vs, hD2, hdp, s2⟩ ⟨rfl, k, v, hkv, rfl⟩
      obtain ⟨s0, hs0, e0⟩ := getElem?_map' hkv
      have hmem : s0 ∈ sh := List.mem_of_getElem? hs0
      obtain ⟨nm, ta, l⟩ := s0
      cases e0
      have hta : H3 ta = some (.dK (tab l)) := s2 _ _ (hAll _ hmem)
      refine ⟨rfl, _, rfl, _, rfl, _, rfl, d, .ref ta, rfl, .inl ⟨sh.map kS, Sum.inr nm, .inr ⟨od, s2 _ _ hLd⟩, rfl, (valV_sheet hS.nd hmem).symm⟩, ta, tab l, rfl, hta, fun H4 p ts g4 hp hts hpn hlst hpair => ?_⟩
      refine ⟨by show 2 ≤ sizeLine; decide, fun t nt => ?_⟩
      have hD4 : H4 D = some (.lst vs) := g4 _ _ hD2
      have st := Same.mk1 (o := .tup [.str nm, .ref p]) nt
      have tD : t ≠ D := fun z => by rw [z, hD4] at nt; cases nt
      have pD : p ≠ D := fun z => by rw [z, hD2] at hp; cases hp
      have td : t ≠ d := fun z => by rw [z, g4 _ _ (s2 _ _ hLd)] at nt; cases nt
      have pd : p ≠ d := fun z => by rw [z, s2 _ _ hLd] at hp; cases hp
      have s3 : Same H3 (upd H4 t (.tup [.str nm, .ref p])) := Same.trans g4 st
      have hlen : vs.length = i := by
        have h1 := dps_len hdp
        rw [List.length_map, List.length_take] at h1
        rw [List.length_map] at hi
        omega
      rw [List.length_map] at hi
      refine ⟨vs, st _ _ hD4, by rw [hlen]; exact small1000 (by omega), vs ++ [.ref t], upd_same, ?_, Same.put (s2.trans s3) hD⟩
      have hh : hid D (hid d (upd (upd H4 t (.tup [.str nm, .ref p])) D (.lst (vs ++ [.ref t])))) = hid D (hid d (upd H4 t (.tup [.str nm, .ref p]))) := by
        funext b
        by_cases z : b = D
        · unfold hid
          rw [if_pos z, if_pos z]
        · rw [hid_at z, hid_at z]
          by_cases y : b = d
          · unfold hid
            rw [if_pos y, if_pos y]
          · rw [hid_at y, hid_at y, upd_ne z]
      rw [take_next hs0, List.map_append]
      show DpAll K (hid D (hid d (upd (upd H4 t (.tup [.str nm, .ref p])) D (.lst (vs ++ [.ref t]))))) _ _
      rw [hh]
      refine dps_append (dps_same (hid_same (hid_same s3)) _ _ hdp) (.cons (.tup (SqT.of (by rw [hid_at tD, hid_at td]; exact upd_same)) (.cons (.str nm) (.cons (.lst (SqL.of (by rw [hid_at pD, hid_at pd]; exact st _ _ hlst)) ?_) .nil))) .nil)
      have q := dps_of_paired (K := K) (H := hid D (hid d (upd H4 t (.tup [.str nm, .ref p])))) (F := fun (t : Addr) (q : Key × V) => H4 t = some (.tup [kV q.1, q.2]) ∧ ∃ z : Int × Int, q = kI z) V.ref
        (fun q => match q with | (.inl k, .int v) => PyData.tuple [.int k, .int v] | _ => .none) (fun x y hxy => by
          obtain ⟨h1, z, rfl⟩ := hxy
          refine .tup (SqT.of ?_) (.cons (.int z.1) (.cons (.int z.2) .nil))
          rw [hid_at (fun e => by rw [e, hD4] at h1; cases h1), hid_at (fun e => by rw [e, g4 _ _ (s2 _ _ hLd)] at h1; cases h1)]
          exact st _ _ h1) (l := ts) (r := tab l) ?_
      · rw [show tab l = l.map kI from rfl, List.map_map] at q
        exact q
      · clear hlst
        have h3 : ∀ (ts : List Addr) (kv : List (Key × V)), Paired (fun (t : Addr) (q : Key × V) => H4 t = some (.tup [kV q.1, q.2])) ts kv → (∀ q ∈ kv, ∃ z : Int × Int, q = kI z) → Paired (fun (t : Addr) (q : Key × V) => H4 t = some (.tup [kV q.1, q.2]) ∧ ∃ z : Int × Int, q = kI z) ts kv := by
          intro ts kv h
          induction h with
          | nil => intro _; exact .nil
          | cons a b ih => intro w; exact .cons ⟨a, w _ List.mem_cons_self⟩ (ih fun q hq => w q (List.mem_cons_of_mem _ hq))
        refine h3 ts (tab l) hpair fun q hq => ?_
        obtain ⟨z, _, rfl⟩ := List.mem_map.mp hq
        exact ⟨z, rfl⟩
    · rintro H2 ⟨vs, hD2, hdp, s2⟩
      rw [List.length_map, List.take_length] at hdp
      have sU := back H2 s2
      have hDd : D ≠ d := fun z => by rw [z, hLd] at hD; cases hD
      have hsame : Same (hid D (hid d H2)) (upd H2 d (.dK (sh.map kS))) := fun b o e => by
        have e2 := hid_le D _ b o e
        unfold hid at e2
        by_cases z : b = d
        · rw [if_pos z] at e2; cases e2
        · rw [if_neg z] at e2
          rw [upd_ne z]
          exact e2
      refine ⟨s2 _ _ hLd, ?_⟩
      obtain ⟨f1, f2, f3, f4, f5⟩ := shD_facts (sh := sh.map fun s => (s.1, s.2.2)) (fun s hs => by
        obtain ⟨s', hs', rfl⟩ := List.mem_map.mp hs
        exact hok s' hs') (by rw [List.length_map]; exact hl)
      refine repr_q (d := shD (sh.map fun s => (s.1, s.2.2))) ?_ f1 f2 f3 f4 f5 (kk _ sU)
      refine .lst (SqL.of (by rw [upd_ne hDd]; exact hD2)) ?_
      rw [List.map_map]
      exact dps_same hsame _ _ hdp

def sp_law (K : PySem.W.Frag) : Sp := fun vs H Q _ => ∃ (a : Addr) (ns : List Int), vs = [.ref a] ∧ SqL K H a (ns.map V.int) ∧ ns.length ≤ 63 ∧ ∀ H', Q (.bl true) H'
theorem Gr.fresh {p q : Addr} {H H' : Hp} {b : Nat} (g : Gr p H H') (B : Bag H' p b) (h : H' q = none) : H q = none := Gr.back g B.some h
theorem Bag.put {H : Hp} {p q : Addr} {b : Nat} {o : HO} (B : Bag H p b) (n : p ≠ q) : Bag (upd H q o) p b := by
  obtain ⟨g, m, k, h, r⟩ := B.ex
  exact ⟨g, m, k, by rw [upd_ne n]; exact h, r⟩
theorem Bag.gr {H H' : Hp} {p q : Addr} {b : Nat} (B : Bag H p b) (g : Gr q H H') (n : p ≠ q) : Bag H' p b := by
  obtain ⟨g0, m, k, h, r⟩ := B.ex
  exact ⟨g0, m, k, g _ _ n h, r⟩
theorem sheets_gr {H H' : Hp} {d p : Addr} {sh : Sheets} {b : Nat} (S : SheetsAt H d sh) (B : Bag H p b) (g : Gr p H H') : SheetsAt H' d sh := by
  obtain ⟨g0, m, k, h, r⟩ := B.ex
  refine ⟨g _ _ (fun z => ?_) S.top, S.nd, fun x hx => g _ _ (fun z => ?_) (S.all x hx)⟩
  · have := S.top
    rw [z, h] at this
    cases this
  · have h2 : H x.2.1 = some (.dK (tab x.2.2)) := S.all x hx
    rw [z, h] at h2
    cases h2
theorem ok_law_ {f_law : Addr} {d_law : FuncData} (F_law : Fun K "law" "law" s_law f_law d_law) (T : Txt K mg) : FnG P w K mg base CX0 6 f_law d_law ["_law_script"] (sp_law K) := by
  refine okG F_law sc_law (fun vs H Q E h => ?_) (fun cdv A outer s H vs Q E hr hg h => ?_)
  · obtain ⟨a, ns, rfl, _⟩ := h
    rfl
  · obtain ⟨a, ns, rfl, hS, hl, kk⟩ := h
    refine ⟨_, (pss_cons (ps_for PassesOwn.never rfl (pi_range1 rfl T.z_range (pa_cons (pe_callB (call_max2 rfl) (by rfl) T.z_max (by decide +kernel) (pa_cons pe_int (pa_cons (pe_callB (call_min2 rfl) (by rfl) T.z_min (by decide +kernel) (pa_cons pe_int (pa_cons (pe_callB call_len_seq (by rfl) T.z_len (by decide +kernel) (pa_cons (pv 0) pa_nil)) pa_nil))) pa_nil))) pa_nil)) (pg_name (i := 1) sc_law.nd rfl (.inl rfl))
          (pss_cons (ps_set (i := 2) sc_law.nd rfl (.inr rfl) (pe_call (ok_law_bag T) (hr.mono (by decide)) rfl T.m_law_bag T.F_law_bag.kp T.b_law_bag .nil pass0 (pa_cons (pv 0) (pa_cons (pv 1) pa_nil))))
          (pss_one (ps_for PassesOwn.never rfl (pi_range1 rfl T.z_range (pa_cons pe_int pa_nil)) (pg_name (i := 3) sc_law.nd rfl (.inl rfl))
            (pss_cons (ps_set (i := 4) sc_law.nd rfl (.inr rfl) (pe_call (ok_law_tables T) (hr.mono (by decide)) rfl T.m_law_tables T.F_law_tables.kp T.b_law_tables .nil pass0 (pa_cons (pv 2) (pa_cons (pe_call (ok_law_names T) (hr.mono (by decide)) rfl T.m_law_names T.F_law_names.kp T.b_law_names .nil pass0 (pa_cons (pv 2) (pa_cons (pe_call (ok_law_take T) (hr.mono (by decide)) rfl T.m_law_take T.F_law_take.kp T.b_law_take .nil pass0 (pa_cons (pv 2) (pa_cons pe_int pa_nil))) pa_nil))) (pa_cons pe_int pa_nil)))))
            (pss_cons (ps_set (i := 5) sc_law.nd rfl (.inl rfl) (pe_lst pa_nil))
            (pss_cons (ps_lock (ps_for PassesOwn.never rfl (pi_keys (pv 4)) (pg_name (i := 6) sc_law.nd rfl (.inr rfl))
              (pss_one (ps_set (i := 5) sc_law.nd rfl (.inl rfl) (pe_op op_cat (pv 5) (pe_callTy (call_list_dK rfl) (by rfl) T.z_list (by decide +kernel) (pa_cons (pe_dget (hu_of hr) (pv 4) (pv 6) (fun _ _ => rfl)) pa_nil)))))))
            (pss_cons (ps_set (i := 7) sc_law.nd rfl (.inr rfl) (pe_lc (own := [("_law_key", 8)]) (g := (gName 8)) rfl sc_law.nd (pi_list (pe_revL (pv 5) : PE _ _ (tRevL K _))) (blkOk_by (own := [("_law_key", 8)]) (N := N_law) (sc := defScope s_law) (by decide +kernel)) (fun _ _ _ _ _ => (pg_name (i := 8) sc_law.nd rfl (.inl rfl))) (fun _ _ _ _ _ => pts_one (pt_cmpR op_eq (pe_call (ok_law_take T) (hr.mono (by decide)) rfl T.m_law_take T.F_law_take.kp T.b_law_take .nil pass0 (pa_cons (pv 2) (pa_cons pe_int pa_nil))) pe_int (nomark _))) (fun _ _ _ _ _ => (pv 8))))
            (pss_cons (ps_set (i := 7) sc_law.nd rfl (.inr rfl) (pe_op op_cat (pe_op op_cat (pv 7) (pe_lc (own := [("_law_k", 9)]) (g := (gName 9)) (tt := tYes) rfl sc_law.nd (pi_range1 rfl T.z_range (pa_cons (pe_call (ok_law_take T) (hr.mono (by decide)) rfl T.m_law_take T.F_law_take.kp T.b_law_take .nil pass0 (pa_cons (pv 2) (pa_cons pe_int pa_nil))) pa_nil)) (blkOk_by (own := [("_law_k", 9)]) (N := N_law) (sc := defScope s_law) (by decide +kernel)) (fun _ _ _ _ _ => (pg_name (i := 9) sc_law.nd rfl (.inl rfl))) (fun _ _ _ _ _ => pts_nil) (fun _ _ _ _ _ => (pe_call (ok_law_number T) (hr.mono (by decide)) rfl T.m_law_number T.F_law_number.kp T.b_law_number .nil pass0 (pa_cons (pv 2) pa_nil))))) (pe_slice (sl_list : SlR _ (rSlL K)) (pv 7) po_none (po_some (pe_call (ok_law_take T) (hr.mono (by decide)) rfl T.m_law_take T.F_law_take.kp T.b_law_take .nil pass0 (pa_cons (pv 2) (pa_cons pe_int pa_nil)))))))
            (pss_cons (ps_par (i := 10) (j := 11) rfl sc_law.nd rfl rfl (by decide) rfl rfl (pa_cons (pe_callG (ok_law_shown T) (hr.mono (by decide)) hg rfl T.m_law_shown T.F_law_shown.kp T.b_law_shown .nil pass0 (pa_cons (pv 4) pa_nil)) (pa_cons (pe_lst pa_nil) pa_nil)) (by rfl))
            (pss_cons (ps_lock (ps_for PassesOwn.never rfl (pi_keys (pv 4)) (pg_name (i := 6) sc_law.nd rfl (.inr rfl))
              (pss_one (ps_expr (pe_bm PySem.F.plainAttrs_list PySem.F.slot_list_append PySem.F.type_list_append mt_append (pv 11) (pa_cons (pe_tup (pa_cons (pv 6) (pa_cons (pe_lock (pe_lc (own := [("_law_key", 8)]) (g := (gName 8)) rfl sc_law.nd (pi_keys (pe_dget (hu_of hr) (pv 4) (pv 6) (fun _ _ => rfl))) (blkOk_by (own := [("_law_key", 8)]) (N := N_law) (sc := defScope s_law) (by decide +kernel)) (fun _ _ _ _ _ => (pg_name (i := 8) sc_law.nd rfl (.inl rfl))) (fun _ _ _ _ _ => pts_one (pt_cmpR (op_in_seq : OpR _ _ (rIn K false)) (pv 8) (pv 7) (by rfl))) (fun _ _ _ _ _ => (pe_tup (pa_cons (pv 8) (pa_cons (pe_dget (hu_of hr) (pe_dget (hu_of hr) (pv 4) (pv 6) (fun _ _ => rfl)) (pv 8) (fun _ _ => rfl)) pa_nil)))))) pa_nil))) pa_nil))))))
            (pss_one (ps_for PassesOwn.never rfl (pi_list (pe_lst (pa_cons (pe_callTy call_list_of (by rfl) T.z_list (by decide +kernel) (pa_cons (pv 7) pa_nil)) (pa_cons (pe_callTy call_tuple_of (by rfl) T.z_tuple (by decide +kernel) (pa_cons (pv 7) pa_nil)) pa_nil)))) (pg_name (i := 12) sc_law.nd rfl (.inl rfl))
              (pss_cons (ps_set (i := 13) sc_law.nd rfl (.inl rfl) (pe_call (ok_cut T) (hr.mono (by decide)) rfl T.m_cut T.F_cut.kp T.b_cut .nil pass0 (pa_cons (pv 4) (pa_cons (pv 12) pa_nil))))
              (pss_cons (ps_if (pt_cut (PW.pt (pw_or (pt_not (pt_val (pe_callB call_isi (by rfl) T.z_isinstance (by decide +kernel) (pa_cons (pv 13) (pa_cons (pe_bltn (v := .ty "dict") (by rfl) T.z_dict (by decide +kernel) rfl) pa_nil))))) (pw_or (pt_cmpR op_ne (pe_callG (ok_law_shown T) (hr.mono (by decide)) hg rfl T.m_law_shown T.F_law_shown.kp T.b_law_shown .nil pass0 (pa_cons (pv 13) pa_nil)) (pe_callB (call_repr hr hg) (by rfl) T.z_repr (by decide +kernel) (pa_cons (pv 11) pa_nil)) (nomark _)) (pw_or1 (pt_cmpR (op_neD hr.units : OpR _ _ (rNeD K)) (pe_callTy call_list_of (by rfl) T.z_list (by decide +kernel) (pa_cons (pv 12) pa_nil)) (pv 7) (nomark _)))))))
                (pss_one (ps_ret pe_bl))
                pss_nil)
              (pss_cons (ps_lock (ps_for PassesOwn.never rfl (pi_keys (pv 13)) (pg_name (i := 6) sc_law.nd rfl (.inr rfl))
                (pss_one (ps_dput (hu_of hr) (pe_dget (hu_of hr) (pv 13) (pv 6) (fun _ _ => rfl)) pe_int pe_int rfl))))
              (pss_one (ps_if (pt_cut (PW.pt (pw_or (pt_cmpR op_ne (pe_callG (ok_law_shown T) (hr.mono (by decide)) hg rfl T.m_law_shown T.F_law_shown.kp T.b_law_shown .nil pass0 (pa_cons (pv 4) pa_nil)) (pv 10) (nomark _)) (pw_or1 (pt_cmpR op_ne (pe_callG (ok_law_shown T) (hr.mono (by decide)) hg rfl T.m_law_shown T.F_law_shown.kp T.b_law_shown .nil pass0 (pa_cons (pe_callKw (ok_cut T) (hr.mono (by decide)) rfl T.m_cut T.F_cut.kp T.kb_cut_0_keys_tables pass0 (pk_cons (pv 12) (pk_cons (pv 4) pk_nil))) pa_nil)) (pe_callB (call_repr hr hg) (by rfl) T.z_repr (by decide +kernel) (pa_cons (pv 11) pa_nil)) (nomark _))))))
                (pss_one (ps_ret pe_bl))
                pss_nil))))))))))))))))))
        (pss_one (ps_ret (pe_cut (pe_and (pe_cmpR (op_eqV hr.units : OpR _ _ (rEqV K)) (pe_call (ok_cut T) (hr.mono (by decide)) rfl T.m_cut T.F_cut.kp T.b_cut .nil pass0 (pa_cons pe_dnewK (pa_cons (pe_lst pa_nil) pa_nil))) pe_dnewK (nomark _)) (pe_one (pe_cmpR (op_eqV hr.units : OpR _ _ (rEqV K)) (pe_call (ok_cut T) (hr.mono (by decide)) rfl T.m_cut T.F_cut.kp T.b_cut .nil pass0 (pa_cons (pe_disp (pps_cons pe_str (pe_disp (pps_cons pe_int pe_int pps_nil) (by rfl) (by rfl) (fun z => by cases z) (by decide)) pps_nil) (by rfl) (by rfl) (fun z => by cases z) (by decide)) (pa_cons (pe_tup pa_nil) pa_nil))) (pe_disp (pps_cons pe_str pe_dnewK pps_nil) (by rfl) (by rfl) (fun z => by cases z) (by decide)) (nomark _)))))))), ?_⟩
    obtain ⟨mx, hmx, m0, m1⟩ : ∃ mx : Int, mx = (if (if (((ns.map V.int).length : Nat) : Int) < 5 then (((ns.map V.int).length : Nat) : Int) else 5) > 2 then (if (((ns.map V.int).length : Nat) : Int) < 5 then (((ns.map V.int).length : Nat) : Int) else 5) else 2) ∧ 0 ≤ mx ∧ mx ≤ 5 := ⟨_, rfl, by split <;> split <;> omega, by split <;> split <;> omega⟩
    refine ⟨_, rfl, a, _, rfl, .inl hS, _, _, rfl, _, _, rfl, ?_⟩
    rw [← hmx]
    refine ⟨mx, rfl, by omega, by omega, ?_⟩
    refine for_range (lo := 0) (n := mx.toNat) (fun i σ H2 => ∃ v1 v2 v3 v4 v5 v6 v7 v8 v9 v10 v11 v12 v13 : Option V, σ = [some (.ref a), v1, v2, v3, v4, v5, v6, v7, v8, v9, v10, v11, v12, v13] ∧ Same H H2)
      ⟨_, _, _, _, _, _, _, _, _, _, _, _, _, rfl, Same.refl H⟩ ?_ ?_
    · rintro i σ H1 hi ⟨v1, v2, v3, v4, v5, v6, v7, v8, v9, v10, v11, v12, v13, rfl, s1⟩
      refine ⟨_, rfl, _, rfl, a, ns, _, rfl, s1.seq hS, by omega, by omega, fun p H2 hp s2 B2 => ?_⟩
      have s12 := s1.trans s2
      have hp0 : H p = none := s1.free hp
      revert B2 s12
      clear s2
      generalize H2 = H2
      intro B2 s12
      refine ⟨8, rfl, by decide, by decide, ?_⟩
      refine for_range (lo := 0) (n := 8) (fun j σ H3 => ∃ v3 v4 v5 v6 v7 v8 v9 v10 v11 v12 v13 : Option V, σ = [some (.ref a), some (.int (0 + (i : Int))), some (.ref p), v3, v4, v5, v6, v7, v8, v9, v10, v11, v12, v13] ∧ Same H H3 ∧ Bag H3 p (10000 * j))
        ⟨_, _, _, _, _, _, _, _, _, _, _, rfl, s12, B2⟩ ?_ ?_
      · rintro j σ H3 hj ⟨v3, v4, v5, v6, v7, v8, v9, v10, v11, v12, v13, rfl, s3, B3⟩
        refine ⟨_, rfl, _, rfl, _, rfl, p, 7, 10000 * j, rfl, by decide, by decide, B3, by omega, fun r H4 r0 r1 B4 g4 => ?_⟩
        refine ⟨p, r, _, rfl, r0, by omega, B4, by omega, fun q nms H5 hnm hlen nq hq g5 B5 => ?_⟩
        obtain ⟨hnd, hnmB⟩ : nms.Nodup ∧ ∀ x ∈ nms, nmB x = true := by
          simp only [namesB, Bool.and_eq_true, decide_eq_true_eq, List.all_eq_true] at hnm
          exact hnm
        refine ⟨p, q, nms, 10, _, rfl, SqL.of hq, B4.ne nq, hnd, by omega, by decide, by decide, B5, by omega, fun d sh H6 nd hSh hnames hok g6 B6 => ?_⟩
        have hokB : ∀ s ∈ sh, nmB s.1 = true ∧ TabOk s.2.2 ∧ s.2.2.length ≤ 10 := fun s hs => ⟨hnmB _ (hnames ▸ List.mem_map.mpr ⟨s, hs, rfl⟩), (hok s hs).2.1, by have := (hok s hs).2.2; omega⟩
        have hshl : sh.length ≤ 6 := by
          have := congrArg List.length hnames
          rw [List.length_map] at this
          omega
        have s6 : Same H H6 := fun b o e => (g4.trans (g5.trans g6)) b o (ne_of_none e hp0) (s3 b o e)
        clear hok g6 g5 g4 hq nq hlen hnm hnames hnd hnmB B5 B4
        replace B6 := B6.mono (c := 10000 * j + 2500) (by omega)
        clear B3 nd s3
        refine ⟨by show 0 ≤ sizeLine; decide, fun q5 n5 => ?_⟩
        have hShA := sheets_same hSh (Same.mk1 (o := .lst []) n5)
        have BA := B6.grow (Same.mk1 (o := .lst []) n5)
        have sA := s6.trans (Same.mk1 (o := .lst []) n5)
        have hqA : (upd H6 q5 (.lst [])) q5 = some (.lst (([] : List Int).map V.int)) := upd_same
        revert hShA BA sA hqA
        clear n5 hSh B6 s6
        generalize upd H6 q5 (.lst []) = HA
        intro hSh BA sA hqA
        -- all_keys
        refine ⟨d, _, hSh.top, True.intro, fun od => ?_⟩
        refine ⟨_, rfl, d, od, rfl, .inl ⟨sh.map kS, upd_same, ?_⟩⟩
        have hAll : ∀ s ∈ sh, (upd HA d (.frz od (.dK (sh.map kS)))) s.2.1 = some (.dK (tab s.2.2)) := fun s hs => by
          rw [upd_ne (hSh.ne hs)]
          exact hSh.all s hs
        have hLd : (upd HA d (.frz od (.dK (sh.map kS)))) d = some (.frz od (.dK (sh.map kS))) := upd_same
        have back : ∀ H', Same (upd HA d (.frz od (.dK (sh.map kS)))) H' → Same HA (upd H' d (.dK (sh.map kS))) := fun H' s => Same.unlock hSh.top s
        have hq5d : q5 ≠ d := fun z => by
          rw [z, hSh.top] at hqA
          cases hqA
        have hqL : (upd HA d (.frz od (.dK (sh.map kS)))) q5 = some (.lst (([] : List Int).map V.int)) := (upd_ne hq5d).trans hqA
        revert hAll hLd back hqL
        generalize upd HA d (.frz od (.dK (sh.map kS))) = HL
        intro hAll hLd back hqL
        refine for_it (walk_keys (d := d) (o := od) (kvs := sh.map kS)) (fun k σ H7 => ∃ (qk : Addr) (ks : List Int) (v6 : Option V), σ = [some (.ref a), some (.int (0 + (i : Int))), some (.ref p), some (.int (0 + (j : Int))), some (.ref d), some (.ref qk), v6, v7, v8, v9, v10, v11, v12, v13] ∧ H7 qk = some (.lst (ks.map V.int)) ∧ ks.length ≤ 10 * k ∧ Same HL H7)
          ⟨q5, [], _, rfl, hqL, Nat.le_refl _, Same.refl HL⟩ (fun k σ H7 _ ⟨_, _, _, _, _, _, s7⟩ => s7 _ _ hLd) ?_ ?_
        · rintro k x σ H7 H8 hk ⟨qk, ks, v6', rfl, hqk, hkl, s7⟩ ⟨rfl, ky, v, hkv, rfl⟩
          obtain ⟨s0, hs0, e0⟩ := getElem?_map' hkv
          have hmem : s0 ∈ sh := List.mem_of_getElem? hs0
          obtain ⟨nm, ta, l⟩ := s0
          cases e0
          have hta : H8 ta = some (.dK (tab l)) := s7 _ _ (hAll _ hmem)
          refine ⟨_, rfl, _, rfl, _, rfl, d, .ref ta, rfl, .inl ⟨sh.map kS, Sum.inr nm, .inr ⟨od, s7 _ _ hLd⟩, rfl, (valV_sheet hSh.nd hmem).symm⟩, ta, tab l, rfl, hta, fun q9 n9 => ?_⟩
          have ek : (tab l).map (fun kv => kV kv.1) = (l.map (·.1)).map V.int := by
            rw [show tab l = l.map kI from rfl, List.map_map, List.map_map]
            rfl
          rw [ek]
          have t9 := Same.mk1 (o := .lst ((l.map (·.1)).map V.int)) n9
          have hk6 : k < 6 := by rw [List.length_map] at hk; omega
          have hl10 : l.length ≤ 10 := (hokB _ hmem).2.2
          refine ⟨qk, q9, ks.map V.int, _, rfl, rfl, t9 _ _ hqk, upd_same, ?_, fun q10 n10 => ?_⟩
          · rw [List.length_map, List.length_map, List.length_map]
            exact Nat.le_trans (by omega : _ ≤ 1000) (by decide)
          · refine ⟨q10, ks ++ l.map (·.1), _, rfl, by rw [upd_same, List.map_append], ?_, s7.trans (t9.trans (Same.mk1 n10))⟩
            rw [List.length_append, List.length_map]
            omega
        · rintro σ H7 ⟨qk, ks, v6', rfl, hqk, hkl, s7⟩
          rw [List.length_map] at hkl
          refine ⟨s7 _ _ hLd, ?_⟩
          have sU := back H7 s7
          have hkd : qk ≠ d := fun z => by
            rw [z, s7 _ _ hLd] at hqk
            cases hqk
          have hqU : (upd H7 d (.dK (sh.map kS))) qk = some (.lst (ks.map V.int)) := (upd_ne hkd).trans hqk
          have hShU := sheets_same hSh sU
          have BU := BA.grow sU
          have sU2 := sA.trans sU
          revert hqU hShU BU sU2
          clear sU s7 hqk hqL back hLd hAll hqA hSh BA sA
          generalize upd H7 d (.dK (sh.map kS)) = HB
          intro hqk hSh BB sB
          -- picked
          refine ⟨_, rfl, qk, _, rfl, SqL.of hqk, fun qr nr => ?_⟩
          rw [← List.map_reverse]
          refine ⟨qr, rfl, ⟨_, SqL.of upd_same⟩, fun D hD => ?_⟩
          have tr := Same.mk1 (o := .lst (ks.reverse.map V.int)) nr
          have hqrp : qr ≠ p := BB.ne nr
          have hqr : (upd HB qr (.lst (ks.reverse.map V.int))) qr = some (.lst (ks.reverse.map V.int)) := upd_same
          have hSh2 := sheets_same hSh tr
          have B2' := BB.grow tr
          have sC := sB.trans tr
          revert hqr hSh2 B2' sC hD
          clear tr nr hqk hSh BB sB
          generalize upd HB qr (.lst (ks.reverse.map V.int)) = HC
          intro hD hqr hSh BC sC
          have hDp := BC.ne hD
          refine lc_list (K := K) (a := qr) (xs := ks.reverse.map V.int) (fun k H7 => ∃ es : List Int, H7 D = some (.lst (es.map V.int)) ∧ es.length ≤ k ∧ Gr p HC H7 ∧ Bag H7 p (10000 * j + 2500 + k))
            ⟨[], upd_same, Nat.le_refl _, Gr.same (Same.mk1 hD), BC.grow (Same.mk1 hD)⟩ (fun k H7 _ ⟨_, _, _, g, _⟩ => g.seq hqrp (SqL.of hqr)) ?_ ?_
          · rintro k x H7 hk ⟨es, hD7, hel, g7, B7⟩
            obtain ⟨x, hx, rfl⟩ := getElem?_map' hk
            have hin : k < ks.reverse.length := (List.getElem?_eq_some_iff.mp hx).1
            rw [List.length_reverse] at hin
            refine ⟨rfl, ?_⟩
            refine ⟨_, rfl, p, 3, _, rfl, by decide, by decide, B7, by omega, fun r H8 r0 r1 B8 g8 => ?_⟩
            have hD8 := g8 _ _ hDp hD7
            refine ⟨rfl, _, rfl, ite2 (fun _ => ?_) (fun _ => ?_)⟩
            · exact ⟨_, rfl, es.map V.int, hD8, by rw [List.length_map]; exact small1000 (by omega), es ++ [x], by rw [upd_same, List.map_append]; rfl, by rw [List.length_append]; exact Nat.succ_le_succ hel, (g7.trans g8).put hD, (B8.put hDp.symm).mono (by omega)⟩
            · exact ⟨es, hD8, by omega, g7.trans g8, B8.mono (by omega)⟩
          · rintro H7 ⟨es, hD7, hel, g7, B7⟩
            rw [List.length_map, List.length_reverse] at hel B7
            replace B7 := B7.mono (c := 10000 * j + 2600) (by omega)
            have hShD := sheets_gr hSh BC g7
            have sD := Gr.from sC g7 hp0
            have hel2 : es.length ≤ 60 := by omega
            clear hel g7 hqrp hqr hSh BC sC hkl hkd hD
            -- picked + numbers + picked[:..]
            refine ⟨_, rfl, _, rfl, p, 3, _, rfl, by decide, by decide, B7, by omega, fun r2 H8 r20 r21 B8 g8 => ?_⟩
            refine ⟨r2, rfl, by omega, by omega, fun D2 hD2 => ?_⟩
            have hD2p := B8.ne hD2
            have hD8 := g8 _ _ hDp hD7
            refine lc_range (lo := 0) (n := r2.toNat) (fun k H9 => ∃ es2 : List Int, H9 D2 = some (.lst (es2.map V.int)) ∧ es2.length ≤ k ∧ Gr p H8 H9 ∧ Bag H9 p (10000 * j + 2601 + 2 * k))
              ⟨[], upd_same, Nat.le_refl _, Gr.same (Same.mk1 hD2), B8.grow (Same.mk1 hD2)⟩ ?_ ?_
            · rintro k H9 hk ⟨es2, hD9, hel3, g9, B9⟩
              refine ⟨rfl, ?_⟩
              refine ⟨_, rfl, p, _, rfl, B9, by omega, fun n H10 hn g10 B10 => ?_⟩
              have hD10 := g10 _ _ hD2p hD9
              exact ⟨es2.map V.int, hD10, by rw [List.length_map]; exact small1000 (by omega), es2 ++ [n], by rw [upd_same, List.map_append]; rfl, by rw [List.length_append]; exact Nat.succ_le_succ hel3, (g9.trans g10).put hD2, (B10.put hD2p.symm).mono (by omega)⟩
            · rintro H9 ⟨es2, hD9, hel3, g9, B9⟩
              have hDD9 := g9 _ _ hDp hD8
              refine ⟨D, D2, _, _, rfl, rfl, hDD9, hD9, ?_, fun D3 n3 => ?_⟩
              · rw [List.length_map, List.length_map]
                exact Nat.le_trans (by omega : _ ≤ 1000) (by decide)
              · have t3 := Same.mk1 (o := .lst (es.map V.int ++ es2.map V.int)) n3
                refine ⟨_, rfl, _, rfl, p, 2, _, rfl, by decide, by decide, B9.grow t3, by omega, fun r3 H11 r30 r31 B11 g11 => ?_⟩
                have hDp3 : D3 ≠ p := B9.ne n3
                have hD11 := g11 _ _ hDp (t3 _ _ hDD9)
                have hD311 := g11 _ _ hDp3 upd_same
                refine ⟨r3, rfl, D, _, rfl, SqL.of hD11, fun D4 n4 => ?_⟩
                rw [cut_to r30, ← List.map_take]
                have t4 := Same.mk1 (o := .lst ((es.take r3.toNat).map V.int)) n4
                refine ⟨D3, D4, _, _, rfl, rfl, t4 _ _ hD311, upd_same, ?_, fun D5 n5 => ?_⟩
                · rw [List.length_append, List.length_map, List.length_map, List.length_map, List.length_take]
                  exact Nat.le_trans (by omega : _ ≤ 1000) (by decide)
                · rw [← List.map_append, ← List.map_append]
                  obtain ⟨pk, hpke, hpkl⟩ : ∃ pk : List Int, pk = es ++ es2 ++ es.take r3.toNat ∧ pk.length ≤ 200 := ⟨_, rfl, by
                    rw [List.length_append, List.length_append, List.length_take]
                    omega⟩
                  rw [← hpke]
                  have t5 := Same.mk1 (o := .lst (pk.map V.int)) n5
                  have hpk : (upd (upd H11 D4 (.lst ((es.take r3.toNat).map V.int))) D5 (.lst (pk.map V.int))) D5 = some (.lst (pk.map V.int)) := upd_same
                  have gX := g8.trans (g9.trans ((Gr.same t3).trans (g11.trans (Gr.same (t4.trans t5)))))
                  have hShX := sheets_gr hShD B7 gX
                  have BX := ((B11.grow t4).grow t5).mono (c := 10000 * j + 2700) (by omega)
                  have sX := Gr.from sD gX hp0
                  revert hpk hShX BX sX
                  clear gX t5 hpke t4 hD311 hD11 hDp3 g11 B11 t3 hDD9 B9 g9 hD9 hD8 hD2p g8 B8 sD hShD B7 hD7
                  generalize upd (upd H11 D4 (.lst ((es.take r3.toNat).map V.int))) D5 (.lst (pk.map V.int)) = HX
                  intro hpk hSh BX sX
                  obtain ⟨f1, f2, f3, f4, f5⟩ := shD_facts (sh := sh.map fun s => (s.1, cutI pk s.2.2)) (fun s hs => by
                    obtain ⟨s', hs', rfl⟩ := List.mem_map.mp hs
                    obtain ⟨q1, q2, q3⟩ := hokB s' hs'
                    exact ⟨q1, cutI_ok q2, Nat.le_trans (List.length_filter_le ..) (by omega)⟩) (by rw [List.length_map]; omega)
                  have hokS : ∀ s ∈ sh, nmB s.1 = true ∧ TabOk s.2.2 ∧ s.2.2.length ≤ 100 := fun s hs => ⟨(hokB s hs).1, (hokB s hs).2.1, by have := (hokB s hs).2.2; omega⟩
                  -- ahead, due
                  refine ⟨_, rfl, d, sh, rfl, hSh, hokS, by omega, fun HY sY => ⟨by show 0 ≤ sizeLine; decide, fun q11 n11 => ⟨_, _, rfl, ?_⟩⟩⟩
                  have tY := sY.trans (Same.mk1 (o := .lst []) n11)
                  have h11 : (upd HY q11 (.lst [])) q11 = some (.lst []) := upd_same
                  have hpk' := tY _ _ hpk
                  have hSh' := sheets_same hSh tY
                  have BY := BX.grow tY
                  have sYY := sX.trans tY
                  have n11p : p ≠ q11 := (BX.grow sY).ne n11 |>.symm
                  have n115 : D5 ≠ q11 := ne_of_none (sY _ _ hpk) n11
                  have h110 : H q11 = none := (sX.trans sY).free n11
                  revert h11 hpk' hSh' BY sYY
                  clear tY n11 sY hSh hpk BX sX
                  generalize upd HY q11 (.lst []) = HZ
                  intro h11 hpk hSh BZ sZ
                  refine ⟨d, _, hSh.top, True.intro, fun od => ?_⟩
                  refine ⟨_, rfl, d, od, rfl, .inl ⟨sh.map kS, upd_same, ?_⟩⟩
                  have hAll : ∀ s ∈ sh, (upd HZ d (.frz od (.dK (sh.map kS)))) s.2.1 = some (.dK (tab s.2.2)) := fun s hs => by
                    rw [upd_ne (hSh.ne hs)]
                    exact hSh.all s hs
                  have hLd : (upd HZ d (.frz od (.dK (sh.map kS)))) d = some (.frz od (.dK (sh.map kS))) := upd_same
                  have back : ∀ H', Gr q11 (upd HZ d (.frz od (.dK (sh.map kS)))) H' → Gr q11 HZ (upd H' d (.dK (sh.map kS))) := fun H' s => Gr.unlock hSh.top s
                  have hd11 : d ≠ q11 := ne_lst hSh.top h11
                  have hd5 : d ≠ D5 := ne_lst hSh.top hpk
                  have hL11 : (upd HZ d (.frz od (.dK (sh.map kS)))) q11 = some (.lst []) := (upd_ne hd11.symm).trans h11
                  have hL5 : (upd HZ d (.frz od (.dK (sh.map kS)))) D5 = some (.lst (pk.map V.int)) := (upd_ne hd5.symm).trans hpk
                  revert hAll hLd back hL11 hL5
                  generalize upd HZ d (.frz od (.dK (sh.map kS))) = HL
                  intro hAll hLd back hL11 hL5
                  have hta11 : ∀ s ∈ sh, s.2.1 ≠ q11 := fun s hs => ne_lst (hAll s hs) hL11
                  have hdta : ∀ s ∈ sh, s.2.1 ≠ d := fun s hs => hSh.ne hs
                  have hta5 : ∀ s ∈ sh, s.2.1 ≠ D5 := fun s hs => ne_lst (hAll s hs) hL5
                  refine for_it (walk_keys (d := d) (o := od) (kvs := sh.map kS)) (fun k σ H7 => ∃ (v6 v8 : Option V) (vs : List V) (N : Hp), σ = [some (.ref a), some (.int (0 + (i : Int))), some (.ref p), some (.int (0 + (j : Int))), some (.ref d), some (.ref qk), v6, some (.ref D5), v8, v9, some (.str (shD (sh.map fun s => (s.1, s.2.2))).shown), some (.ref q11), v12, v13] ∧
                      H7 q11 = some (.lst vs) ∧ vs.length ≤ k ∧ Same N H7 ∧ (∀ b, N b ≠ none → HL b = none) ∧ DpAll K N vs ((sh.take k).map fun s => .tuple [.str s.1, tabD (cutI pk s.2.2)]) ∧ Gr q11 HL H7)
                    ⟨_, _, [], fun _ => none, rfl, hL11, Nat.le_refl _, (fun _ _ e => nomatch e), (fun _ e => absurd rfl e), .nil, Gr.refl _ _⟩ (fun k σ H7 _ ⟨_, _, _, _, _, _, _, _, _, _, g7⟩ => g7 _ _ hd11 hLd) ?_ ?_
                  · rintro k x σ H7 H8 hk ⟨v6', v8', vs, N, rfl, hq7, hvl, sN, hN, hdp, g7⟩ ⟨rfl, ky, v, hkv, rfl⟩
                    obtain ⟨s0, hs0, e0⟩ := getElem?_map' hkv
                    have hmem : s0 ∈ sh := List.mem_of_getElem? hs0
                    obtain ⟨nm, ta, l⟩ := s0
                    cases e0
                    have hta : H8 ta = some (.dK (tab l)) := g7 _ _ (hta11 _ hmem) (hAll _ hmem)
                    have hl10 : l.length ≤ 10 := (hokB _ hmem).2.2
                    have hlnd : (l.map (·.1)).Nodup := (hokB _ hmem).2.1.nd
                    have hd8 := g7 _ _ hd11 hLd
                    have h58 := g7 _ _ n115 hL5
                    have hk6 : k < 6 := by rw [List.length_map] at hk; omega
                    refine ⟨_, rfl, .inl ⟨rfl, _, SqL.of hq7⟩, _, rfl, ta, _, hta, True.intro, fun od2 => ?_⟩
                    refine ⟨_, rfl, _, rfl, d, .ref ta, rfl, .inl ⟨sh.map kS, Sum.inr nm, .inr ⟨od, (upd_ne (hdta _ hmem).symm).trans hd8⟩, rfl, (valV_sheet hSh.nd hmem).symm⟩, ta, od2, rfl, .inl ⟨tab l, upd_same, fun D2 hD2 => ?_⟩⟩
                    have hMta : (upd H8 ta (.frz od2 (.dK (tab l)))) ta = some (.frz od2 (.dK (tab l))) := upd_same
                    have hMd : (upd H8 ta (.frz od2 (.dK (tab l)))) d = some (.frz od (.dK (sh.map kS))) := (upd_ne (hdta _ hmem).symm).trans hd8
                    have hM5 : (upd H8 ta (.frz od2 (.dK (tab l)))) D5 = some (.lst (pk.map V.int)) := (upd_ne (hta5 _ hmem).symm).trans h58
                    have hMq : (upd H8 ta (.frz od2 (.dK (tab l)))) q11 = some (.lst vs) := (upd_ne (hta11 _ hmem).symm).trans hq7
                    have sNM : Same N (upd H8 ta (.frz od2 (.dK (tab l)))) := Same.put sN (none_of hN (hAll _ hmem))
                    have free : ∀ b, (upd H8 ta (.frz od2 (.dK (tab l)))) b = none → HL b = none := fun b hb => by
                      have n : b ≠ ta := fun z => by rw [z, upd_same] at hb; cases hb
                      rw [upd_ne n] at hb
                      exact Gr.back g7 (by rw [hq7]; exact fun z => nomatch z) hb
                    have backM : ∀ H', Same (upd H8 ta (.frz od2 (.dK (tab l)))) H' → Same H8 (upd H' ta (.dK (tab l))) := fun H' s => Same.unlock hta s
                    revert hD2 hMta hMd hM5 hMq sNM free backM
                    generalize upd H8 ta (.frz od2 (.dK (tab l))) = HM
                    intro hD2 hMta hMd hM5 hMq sNM free backM
                    refine lc_it (walk_keys (d := ta) (o := od2) (kvs := tab l)) (fun m H9 => ∃ (vs2 : List V) (N2 : Hp), H9 D2 = some (.lst vs2) ∧ vs2.length ≤ m ∧ Same N N2 ∧ Same N2 H9 ∧ (∀ b, N2 b ≠ none → HL b = none) ∧ N2 D2 = none ∧ DpAll K N2 vs2 ((cutI pk (l.take m)).map fun p => .tuple [.int p.1, .int p.2]) ∧ Same HM H9)
                      ⟨[], N, upd_same, Nat.le_refl _, Same.refl N, Same.put sNM (sNM.free hD2), hN, sNM.free hD2, .nil, Same.mk1 hD2⟩ (fun m H9 _ ⟨_, _, _, _, _, _, _, _, _, s9⟩ => s9 _ _ hMta) ?_ ?_
                    · rintro m x9 H9 H10 hm ⟨vs2, N2, hD9, hl2, sNN, sN9, hN2, hN2D, hdp2, s9⟩ ⟨rfl, ky2, v2', hkv2, rfl⟩
                      obtain ⟨p0, hp0', e0⟩ := getElem?_map' hkv2
                      obtain ⟨y1, y2⟩ := p0
                      cases e0
                      have hmemp : (y1, y2) ∈ l := List.mem_of_getElem? hp0'
                      have hm10 : m < 10 := by rw [tab_len] at hm; omega
                      refine ⟨rfl, ?_⟩
                      refine ⟨_, rfl, _, rfl, D5, _, rfl, .inl (SqL.of (s9 _ _ hM5)), rfl, flatInts pk, _, rfl, ?_⟩
                      rw [if_neg Bool.false_ne_true, show inV (kV (Sum.inl (y1, y2).1 : Key)) (pk.map V.int) = decide (y1 ∈ pk) from inV_ints y1 pk]
                      have hcut : cutI pk (l.take (m + 1)) = cutI pk (l.take m) ++ cutI pk [(y1, y2)] := by
                        rw [take_next hp0']
                        exact List.filter_append ..
                      by_cases hmm : y1 ∈ pk
                      · rw [decide_eq_true hmm]
                        refine iteT ?_
                        refine ⟨_, rfl, _, rfl, _, rfl, d, .ref ta, rfl, .inl ⟨sh.map kS, Sum.inr nm, .inr ⟨od, s9 _ _ hMd⟩, rfl, (valV_sheet hSh.nd hmem).symm⟩, _, rfl, ta, .int y2, rfl, .inl ⟨tab l, Sum.inl y1, .inr ⟨od2, s9 _ _ hMta⟩, rfl, ?_⟩, by show 2 ≤ sizeLine; decide, fun t nt => ?_⟩
                        · rw [valV_tab, getL_of_mem hlnd hmemp]
                          rfl
                        have hDt : D2 ≠ t := ne_of_none hD9 nt
                        have hN2t : N2 t = none := sN9.free nt
                        refine ⟨vs2, Same.mk1 nt _ _ hD9, small1000 (by omega), vs2 ++ [.ref t], upd N2 t (.tup [.int y1, .int y2]), upd_same, by rw [List.length_append]; exact Nat.succ_le_succ hl2, Same.put sNN (sNN.free hN2t), Same.put (nsub_new sN9) ((upd_ne hDt).trans hN2D), fun b hb => ?_, (upd_ne hDt).trans hN2D, ?_, Same.put (s9.trans (Same.mk1 nt)) hD2⟩
                        · by_cases z : b = t
                          · rw [z]
                            exact free t (s9.free nt)
                          · rw [upd_ne z] at hb
                            exact hN2 b hb
                        · rw [hcut, List.map_append]
                          have : cutI pk [(y1, y2)] = [(y1, y2)] := by simp [cutI, hmm]
                          rw [this]
                          exact dps_append (dps_same (Same.mk1 hN2t) _ _ hdp2) (.cons (.tup (SqT.of upd_same) (.cons (.int _) (.cons (.int _) .nil))) .nil)
                      · rw [decide_eq_false hmm]
                        refine iteF ⟨vs2, N2, hD9, by omega, sNN, sN9, hN2, hN2D, ?_, s9⟩
                        have : cutI pk [(y1, y2)] = [] := by simp [cutI, hmm]
                        rw [hcut, this, List.append_nil]
                        exact hdp2
                    · rintro H9 ⟨vs2, N2, hD9, hl2, sNN, sN9, hN2, hN2D, hdp2, s9⟩
                      rw [tab_len, List.take_length] at hdp2
                      rw [tab_len] at hl2
                      refine ⟨s9 _ _ hMta, by show 2 ≤ sizeLine; decide, fun t nt => ?_⟩
                      have sU : Same H8 (upd H9 ta (.dK (tab l))) := backM H9 s9
                      have hDta : D2 ≠ ta := fun z => by
                        rw [z, s9 _ _ hMta] at hD9
                        cases hD9
                      have hD2q : D2 ≠ q11 := fun z => by
                        rw [z, hMq] at hD2
                        cases hD2
                      have hDU : (upd H9 ta (.dK (tab l))) D2 = some (.lst vs2) := (upd_ne hDta).trans hD9
                      have sa : Same N2 (upd H9 ta (.dK (tab l))) := Same.put sN9 (none_of hN2 (hAll _ hmem))
                      revert hDU sa sU nt
                      generalize upd H9 ta (.dK (tab l)) = HU
                      intro nt sU hDU sa
                      have sb : Same (upd N2 D2 (.lst vs2)) HU := nsub_add sa hDU
                      have hqU : HU q11 = some (.lst vs) := sU _ _ hq7
                      have htq : q11 ≠ t := ne_of_none hqU nt
                      have hDt : D2 ≠ t := ne_of_none hDU nt
                      have t1 : Same N2 (upd N2 D2 (.lst vs2)) := Same.mk1 hN2D
                      have t2 : Same (upd N2 D2 (.lst vs2)) (upd (upd N2 D2 (.lst vs2)) t (.tup [.str nm, .ref D2])) := Same.mk1 (sb.free nt)
                      refine ⟨q11, vs, .ref t, rfl, rfl, (Same.mk1 nt) _ _ hqU, small1000 (by omega), _, _, vs ++ [.ref t], upd (upd N2 D2 (.lst vs2)) t (.tup [.str nm, .ref D2]), rfl, upd_same, by rw [List.length_append]; exact Nat.succ_le_succ hvl, ?_, ?_, ?_, ?_⟩
                      · exact Same.put (nsub_new sb) ((upd_ne htq).trans ((upd_ne hD2q.symm).trans (none_of hN2 hL11)))
                      · intro b hb
                        by_cases z : b = t
                        · rw [z]
                          exact Gr.back g7 (by rw [hq7]; exact fun z => nomatch z) (sU.free nt)
                        · rw [upd_ne z] at hb
                          by_cases y : b = D2
                          · rw [y]
                            exact free D2 hD2
                          · rw [upd_ne y] at hb
                            exact hN2 b hb
                      · rw [take_next hs0, List.map_append]
                        exact dps_append (dps_same (sNN.trans (t1.trans t2)) _ _ hdp) (.cons (.tup (SqT.of upd_same) (.cons (.str nm) (.cons (.lst (SqL.of ((upd_ne hDt).trans upd_same)) (dps_same (t1.trans t2) _ _ hdp2)) .nil))) .nil)
                      · exact Gr.putq (g7.trans (Gr.same (sU.trans (Same.mk1 nt))))
                  · rintro σ H7 ⟨v6', v8', vs, N, rfl, hq7, hvl, sN, hN, hdp, g7⟩
                    rw [List.length_map, List.take_length] at hdp
                    have gB := back H7 g7
                    refine ⟨g7 _ _ hd11 hLd, ?_⟩
                    have hDue : Dp K (upd H7 d (.dK (sh.map kS))) (.ref q11) (shD (sh.map fun s => (s.1, cutI pk s.2.2))) := by
                      refine .lst (SqL.of ((upd_ne hd11.symm).trans hq7)) ?_
                      rw [List.map_map]
                      exact dps_same (Same.put sN (none_of hN hLd)) _ _ hdp
                    have hSh2 : SheetsAt (upd H7 d (.dK (sh.map kS))) d sh := ⟨upd_same, hSh.nd, fun s hs => gB _ _ (hta11 s hs) (hSh.all s hs)⟩
                    have hpk2 : (upd H7 d (.dK (sh.map kS))) D5 = some (.lst (pk.map V.int)) := gB _ _ n115 hpk
                    have sV := Gr.from sZ gB h110
                    have BV := BZ.gr gB n11p
                    revert hDue hSh2 hpk2 sV BV
                    clear gB g7 hdp hN sN hvl hq7 hta5 hdta hta11 hL5 hL11 hd5 hd11 back hLd hAll sZ BZ hSh hpk h11
                    generalize upd H7 d (.dK (sh.map kS)) = HV
                    intro hDue hSh hpk sV BV
                    -- handed
                    refine ⟨_, rfl, D5, _, rfl, .inl (SqL.of hpk), fun l1 n1 => ?_⟩
                    have t1 := Same.mk1 (o := .lst (pk.map V.int)) n1
                    refine ⟨_, rfl, D5, _, rfl, .inl ⟨SqL.of (t1 _ _ hpk), fun l2 n2 => ?_⟩⟩
                    have t2 := Same.mk1 (o := .tup (pk.map V.int)) n2
                    refine ⟨by show 2 ≤ sizeLine; decide, fun q12 n12 => ⟨q12, rfl, ⟨_, SqL.of upd_same⟩, ?_⟩⟩
                    have t3 := Same.mk1 (o := .lst [.ref l1, .ref l2]) n12
                    have tW := t1.trans (t2.trans t3)
                    have hl1 := (t2.trans t3) _ _ (show (upd HV l1 (.lst (pk.map V.int))) l1 = some (.lst (pk.map V.int)) from upd_same)
                    have hl2 := t3 _ _ (show (upd (upd HV l1 (.lst (pk.map V.int))) l2 (.tup (pk.map V.int))) l2 = some (.tup (pk.map V.int)) from upd_same)
                    have hq12 : (upd (upd (upd HV l1 (.lst (pk.map V.int))) l2 (.tup (pk.map V.int))) q12 (.lst [.ref l1, .ref l2])) q12 = some (.lst [.ref l1, .ref l2]) := upd_same
                    revert tW hl1 hl2 hq12
                    clear t3 n12 t2 n2 t1 n1
                    generalize upd (upd (upd HV l1 (.lst (pk.map V.int))) l2 (.tup (pk.map V.int))) q12 (.lst [.ref l1, .ref l2]) = HW
                    intro tW hl1 hl2 hq12
                    have hDueW := dp_same tW _ _ hDue
                    have hShW := sheets_same hSh tW
                    have hpkW := tW _ _ hpk
                    have sW := sV.trans tW
                    have BW := BV.grow tW
                    clear tW hDue hSh hpk sV BV
                    refine for_list (K := K) (a := q12) (xs := [.ref l1, .ref l2]) (fun k σ H7 => ∃ (v6 v8 v12 v13 : Option V), σ = [some (.ref a), some (.int (0 + (i : Int))), some (.ref p), some (.int (0 + (j : Int))), some (.ref d), some (.ref qk), v6, some (.ref D5), v8, v9, some (.str (shD (sh.map fun s => (s.1, s.2.2))).shown), some (.ref q11), v12, v13] ∧ Same HW H7)
                      ⟨_, _, _, _, rfl, Same.refl _⟩ (fun k σ H7 _ ⟨_, _, _, _, _, s7⟩ => SqL.of (s7 _ _ hq12)) ?_ ?_
                    · rintro k x σ H7 hk ⟨v6'', v8'', v12', v13', rfl, s7⟩
                      obtain ⟨hq, rfl, hqS⟩ : ∃ hq, x = .ref hq ∧ Sq K H7 hq (pk.map V.int) := by
                        have hx := List.mem_of_getElem? hk
                        rcases List.mem_cons.mp hx with e | hx
                        · exact ⟨l1, e, .inl (SqL.of (s7 _ _ hl1))⟩
                        · rcases List.mem_cons.mp hx with e | hx
                          · exact ⟨l2, e, .inr (SqT.of (s7 _ _ hl2))⟩
                          · cases hx
                      have hSh7 := sheets_same hShW s7
                      refine ⟨_, rfl, _, rfl, d, hq, sh, pk, rfl, hSh7, hqS, by omega, fun s hs => ⟨(hokS s hs).2.2, (hokS s hs).2.1.nd⟩, fun r sh' H8 nr hS8 he8 hf8 hnd8 s8 => ?_⟩
                      have hok8 : ∀ s ∈ sh', nmB s.1 = true ∧ TabOk s.2.2 ∧ s.2.2.length ≤ 10 := fun s hs => by
                        have hm : (s.1, s.2.2) ∈ sh'.map fun s => (s.1, s.2.2) := List.mem_map.mpr ⟨s, hs, rfl⟩
                        rw [he8] at hm
                        obtain ⟨s', hs', e⟩ := List.mem_map.mp hm
                        obtain ⟨q1, q2, q3⟩ := hokB s' hs'
                        have e1 := congrArg Prod.fst e
                        have e2 := congrArg Prod.snd e
                        simp only at e1 e2
                        rw [← e1, ← e2]
                        exact ⟨q1, cutI_ok q2, Nat.le_trans (List.length_filter_le ..) q3⟩
                      have hl8 : sh'.length ≤ 6 := by
                        have := congrArg List.length he8
                        rw [List.length_map, List.length_map] at this
                        omega
                      refine ⟨fun b H9 => b = false ∧ Same H8 H9, ?_, ?_⟩
                      · refine ⟨_, rfl, .ref r, .ty "dict", .type "dict", .type "dict", true, rfl, .ty _, .base (.dK hS8.top), rfl, true, rfl, ?_⟩
                        refine iteF ?_
                        refine ⟨_, rfl, r, sh', rfl, hS8, (fun s hs => ⟨(hok8 s hs).1, (hok8 s hs).2.1, by have := (hok8 s hs).2.2; omega⟩), by omega, fun H9 s9 => ?_⟩
                        have hdn := dp_same (s7.trans (s8.trans s9)) _ _ hDueW
                        refine ⟨_, rfl, q11, _, rfl, hdn, f1, f2, f3, repr_z f1 f4 f5, ?_⟩
                        rw [he8]
                        refine ⟨rfl, _, rfl, ?_⟩
                        rw [decide_eq_true rfl]
                        refine iteF ?_
                        refine ⟨_, rfl, hq, _, rfl, hqS.same (s8.trans s9), fun l9 n9 => ?_⟩
                        have t9 := Same.mk1 (o := .lst (pk.map V.int)) n9
                        refine ⟨_, rfl, intsD pk, intsD pk, ints_dp (SqL.of upd_same), ints_dp (SqL.of (t9 _ _ (s9 _ _ (s8 _ _ (s7 _ _ hpkW))))), ints_shaped _, ints_shaped _, _, rfl, ?_⟩
                        rw [ints_eqv]
                        exact ⟨rfl, s9.trans t9⟩
                      rintro b H9 ⟨rfl, s9⟩
                      refine iteF ?_
                      -- writes
                      refine ⟨r, _, s9 _ _ hS8.top, True.intro, fun od3 => ?_⟩
                      refine ⟨_, rfl, r, od3, rfl, .inl ⟨sh'.map kS, upd_same, ?_⟩⟩
                      refine for_it (walk_keys (d := r) (o := od3) (kvs := sh'.map kS)) (fun m σ H10 => ∃ v6 : Option V, σ = [some (.ref a), some (.int (0 + (i : Int))), some (.ref p), some (.int (0 + (j : Int))), some (.ref d), some (.ref qk), v6, some (.ref D5), v8'', v9, some (.str (shD (sh.map fun s => (s.1, s.2.2))).shown), some (.ref q11), some (.ref hq), some (.ref r)] ∧
                          H10 r = some (.frz od3 (.dK (sh'.map kS))) ∧ (∀ s ∈ sh', ∃ l : Tab, H10 s.2.1 = some (.dK (tab l)) ∧ l.length ≤ 10 + m) ∧ Same H7 H10)
                        ⟨_, rfl, upd_same, (fun s hs => ⟨s.2.2, (upd_ne (hS8.ne hs)).trans (s9 _ _ (hS8.all s hs)), (hok8 s hs).2.2⟩), Same.put (s8.trans s9) nr⟩ (fun m σ H10 _ ⟨_, _, h, _⟩ => h) ?_ ?_
                      · rintro m x10 σ H10 H11 hm ⟨v6x, rfl, hr10, hT10, s10⟩ ⟨rfl, ky, v, hkv, rfl⟩
                        obtain ⟨s0, hs0, e0⟩ := getElem?_map' hkv
                        have hmem : s0 ∈ sh' := List.mem_of_getElem? hs0
                        obtain ⟨nm, ta, l0⟩ := s0
                        cases e0
                        obtain ⟨l, hl, hll⟩ := hT10 _ hmem
                        have hmm : m < 6 := by rw [List.length_map] at hm; omega
                        have hrta : r ≠ ta := fun z => by
                          rw [← z, hr10] at hl
                          cases hl
                        refine ⟨_, rfl, _, rfl, r, .ref ta, rfl, .inl ⟨sh'.map kS, Sum.inr nm, .inr ⟨od3, hr10⟩, rfl, (valV_sheet hS8.nd hmem).symm⟩, ta, _, rfl, DPut.k (k := Sum.inl 99) hl (by rw [tab_len]; exact small1000 (by omega)), ?_⟩
                        rw [putK_tab]
                        refine ⟨_, rfl, (upd_ne hrta).trans hr10, fun s hs => ?_, Same.put s10 (hf8 _ hmem)⟩
                        by_cases z : s.2.1 = ta
                        · refine ⟨putL l 99 1, by rw [z]; exact upd_same, ?_⟩
                          have := putL_length l 99 1
                          omega
                        · obtain ⟨l', h1, h2⟩ := hT10 s hs
                          exact ⟨l', (upd_ne z).trans h1, by omega⟩
                      · rintro σ H10 ⟨v6x, rfl, hr10, hT10, s10⟩
                        refine ⟨hr10, ?_⟩
                        have s12 : Same H7 (upd H10 r (.dK (sh'.map kS))) := Same.put s10 nr
                        revert s12
                        generalize upd H10 r (.dK (sh'.map kS)) = H12
                        intro s12
                        refine ⟨fun b H13 => b = false ∧ Same H12 H13, ?_, ?_⟩
                        · refine ⟨_, rfl, d, sh, rfl, sheets_same hSh7 s12, hokS, by omega, fun H13 s13 => ?_⟩
                          refine ⟨_, rfl, rfl, _, rfl, ?_⟩
                          rw [decide_eq_true rfl]
                          refine iteF ?_
                          refine ⟨_, rfl, _, rfl, d, hq, sh, pk, rfl, sheets_same hSh7 (s12.trans s13), hqS.same (s12.trans s13), by omega, fun s hs => ⟨(hokS s hs).2.2, (hokS s hs).2.1.nd⟩, fun r2 sh2 H14 nr2 hS14 he14 hf14 hnd14 s14 => ?_⟩
                          refine ⟨r2, sh2, rfl, hS14, (fun s hs => ?_), ?_, fun H15 s15 => ?_⟩
                          · have hm : (s.1, s.2.2) ∈ sh2.map fun s => (s.1, s.2.2) := List.mem_map.mpr ⟨s, hs, rfl⟩
                            rw [he14] at hm
                            obtain ⟨s', hs', e⟩ := List.mem_map.mp hm
                            obtain ⟨q1, q2, q3⟩ := hokS s' hs'
                            have e1 := congrArg Prod.fst e
                            have e2 := congrArg Prod.snd e
                            simp only at e1 e2
                            rw [← e1, ← e2]
                            exact ⟨q1, cutI_ok q2, Nat.le_trans (List.length_filter_le ..) q3⟩
                          · have := congrArg List.length he14
                            rw [List.length_map, List.length_map] at this
                            omega
                          · have hdn := dp_same (s7.trans (s12.trans (s13.trans (s14.trans s15)))) _ _ hDueW
                            refine ⟨_, rfl, q11, _, rfl, hdn, f1, f2, f3, repr_z f1 f4 f5, ?_⟩
                            rw [he14]
                            refine ⟨rfl, _, rfl, ?_⟩
                            rw [decide_eq_true rfl]
                            exact ⟨rfl, s13.trans (s14.trans s15)⟩
                        · rintro b H13 ⟨rfl, s13⟩
                          refine iteF ?_
                          exact ⟨_, _, _, _, rfl, s7.trans (s12.trans s13)⟩
                    · rintro σ H7 ⟨v6'', v8'', v12', v13', rfl, s7⟩
                      exact ⟨_, _, _, _, _, _, _, _, _, _, _, rfl, sW.trans s7, (BW.grow s7).mono (by omega)⟩
      · rintro σ H3 ⟨v3, v4, v5, v6, v7, v8, v9, v10, v11, v12, v13, rfl, s3, B3⟩
        exact ⟨_, _, _, _, _, _, _, _, _, _, _, _, _, rfl, s3⟩
    · rintro σ H1 ⟨v1, v2, v3, v4, v5, v6, v7, v8, v9, v10, v11, v12, v13, rfl, s1⟩
      refine ⟨fun x _ => x = .bl true, ?_, fun x H9 e => by rw [e]; exact kk H9⟩
      intro d1 n1
      refine ⟨by show 0 ≤ sizeLine; decide, fun l1 m1 => ?_⟩
      refine ⟨d1, l1, [], [], rfl, ⟨(Same.mk1 m1) _ _ upd_same, List.nodup_nil, (fun _ h => nomatch h)⟩, .inl (SqL.of upd_same), by decide, (fun _ h => nomatch h), fun r sh' H4 nr hS he _ _ s4 => ?_⟩
      obtain rfl : sh' = [] := List.map_eq_nil_iff.mp he
      intro d2 n2
      refine ⟨1, by decide, .inr ⟨r, d2, [], [], rfl, rfl, Same.mk1 n2 _ _ hS.top, upd_same, rfl, (fun _ h => nomatch h)⟩, true, rfl, iteT ?_⟩
      intro p1 m1 p2 m2
      refine ⟨upd_same, [(Sum.inl 1, .int 2)], rfl, (by decide : 1 ≤ 15), ?_⟩
      have e12 : p1 ≠ p2 := ne_of_none upd_same m2
      refine ⟨(upd_ne e12).trans ((upd_ne e12).trans upd_same), [(Sum.inr "a", .ref p2)], rfl, (by decide : 1 ≤ 15), ?_⟩
      refine ⟨by show 0 ≤ sizeLine; decide, fun t nt => ?_⟩
      have tt := Same.mk1 (o := .tup []) nt
      refine ⟨p1, t, [("a", p2, [(1, 2)])], [], rfl, ⟨tt _ _ upd_same, by simp, fun s hs => ?_⟩, .inr (SqT.of upd_same), (by decide : 1 ≤ 100), fun s hs => ?_, fun r2 sh2 H6 nr2 hS2 he2 _ _ s6 => ?_⟩
      · cases List.mem_singleton.mp hs
        exact tt _ _ ((upd_ne e12.symm).trans upd_same)
      · cases List.mem_singleton.mp hs
        exact ⟨(by decide : 1 ≤ 100), by simp⟩
      · intro p3 m3 p4 m4
        have e34 : p3 ≠ p4 := ne_of_none upd_same m4
        refine ⟨(upd_ne e34).trans upd_same, [(Sum.inr "a", .ref p4)], rfl, (by decide : 1 ≤ 15), ?_⟩
        obtain ⟨ad, rfl⟩ : ∃ ad : Addr, sh2 = [(("a" : Str), ad, ([] : Tab))] := by
          match sh2, he2 with
          | [(x, ad, l)], he2 =>
            have e1 := (List.cons.inj he2).1
            have e2 := congrArg Prod.fst e1
            have e3 := congrArg Prod.snd e1
            simp only at e2 e3
            subst e2 e3
            exact ⟨ad, rfl⟩
        have h6 := hS2.top
        have h7 : H6 ad = some (.dK (tab [])) := hS2.all _ List.mem_cons_self
        have z3 : ∀ b o, H6 b = some o → (upd (upd (upd H6 p3 (.dK [])) p4 (.dK [])) p3 (.dK (mergeK [] [(Sum.inr "a", .ref p4)]))) b = some o := fun b o e => by
          rw [upd_ne (ne_of_none e m3)]
          exact (Same.mk1 m3).trans (Same.mk1 m4) b o e
        exact ⟨2, by decide, .inr ⟨r2, p3, _, _, rfl, rfl, z3 _ _ h6, upd_same, rfl, fun p hp => by
          cases List.mem_singleton.mp hp
          exact ⟨.ref p4, rfl, .inr (.inr (.inr ⟨ad, p4, [], [], rfl, rfl, z3 _ _ h7, (upd_ne e34.symm).trans upd_same, rfl, (fun _ h => nomatch h)⟩))⟩⟩, rfl⟩

end
theorem all_mk {l : PySem.W.OpenLaw} {w : World} {K : PySem.W.Frag} {h : Heap} {mg : Str → Option Value} {fa : Addr} (X : K.In h) (G : h.Ns mainGlobals mg) (hfa : mg "law" = some (.ref fa))
    {f_cut : Addr} {od_cut an_cut : Option Addr} {sl_cut : Array (Option Value)} {oc_cut kV_cut dc_cut pm_cut cd_cut ct_cut : Value}
    (a_cut : PySem.W.nsIn K mainGlobals "cut" = some (some (.ref f_cut)))
    (l_cut : K.lookup f_cut = some ⟨oc_cut, od_cut, .func (PySem.W.fnOf "cut" "cut" (defArgs s_cut) (defBody s_cut) (defScope s_cut) .none kV_cut dc_cut pm_cut an_cut cd_cut ct_cut), sl_cut⟩)
    (c_cut : PySem.W.codeIn K cd_cut "cut" = true) (k_cut : PySem.W.keepIn K (.ref f_cut) = true)
    {f_law_bag : Addr} {od_law_bag an_law_bag : Option Addr} {sl_law_bag : Array (Option Value)} {oc_law_bag kV_law_bag dc_law_bag pm_law_bag cd_law_bag ct_law_bag : Value}
    (a_law_bag : PySem.W.nsIn K mainGlobals "_law_bag" = some (some (.ref f_law_bag)))
    (l_law_bag : K.lookup f_law_bag = some ⟨oc_law_bag, od_law_bag, .func (PySem.W.fnOf "_law_bag" "_law_bag" (defArgs s_law_bag) (defBody s_law_bag) (defScope s_law_bag) .none kV_law_bag dc_law_bag pm_law_bag an_law_bag cd_law_bag ct_law_bag), sl_law_bag⟩)
    (c_law_bag : PySem.W.codeIn K cd_law_bag "_law_bag" = true) (k_law_bag : PySem.W.keepIn K (.ref f_law_bag) = true)
    {f_law_take : Addr} {od_law_take an_law_take : Option Addr} {sl_law_take : Array (Option Value)} {oc_law_take kV_law_take dc_law_take pm_law_take cd_law_take ct_law_take : Value}
    (a_law_take : PySem.W.nsIn K mainGlobals "_law_take" = some (some (.ref f_law_take)))
    (l_law_take : K.lookup f_law_take = some ⟨oc_law_take, od_law_take, .func (PySem.W.fnOf "_law_take" "_law_take" (defArgs s_law_take) (defBody s_law_take) (defScope s_law_take) .none kV_law_take dc_law_take pm_law_take an_law_take cd_law_take ct_law_take), sl_law_take⟩)
    (c_law_take : PySem.W.codeIn K cd_law_take "_law_take" = true) (k_law_take : PySem.W.keepIn K (.ref f_law_take) = true)
    {f_law_names : Addr} {od_law_names an_law_names : Option Addr} {sl_law_names : Array (Option Value)} {oc_law_names kV_law_names dc_law_names pm_law_names cd_law_names ct_law_names : Value}
    (a_law_names : PySem.W.nsIn K mainGlobals "_law_names" = some (some (.ref f_law_names)))
    (l_law_names : K.lookup f_law_names = some ⟨oc_law_names, od_law_names, .func (PySem.W.fnOf "_law_names" "_law_names" (defArgs s_law_names) (defBody s_law_names) (defScope s_law_names) .none kV_law_names dc_law_names pm_law_names an_law_names cd_law_names ct_law_names), sl_law_names⟩)
    (c_law_names : PySem.W.codeIn K cd_law_names "_law_names" = true) (k_law_names : PySem.W.keepIn K (.ref f_law_names) = true)
    {f_law_number : Addr} {od_law_number an_law_number : Option Addr} {sl_law_number : Array (Option Value)} {oc_law_number kV_law_number dc_law_number pm_law_number cd_law_number ct_law_number : Value}
    (a_law_number : PySem.W.nsIn K mainGlobals "_law_number" = some (some (.ref f_law_number)))
    (l_law_number : K.lookup f_law_number = some ⟨oc_law_number, od_law_number, .func (PySem.W.fnOf "_law_number" "_law_number" (defArgs s_law_number) (defBody s_law_number) (defScope s_law_number) .none kV_law_number dc_law_number pm_law_number an_law_number cd_law_number ct_law_number), sl_law_number⟩)
    (c_law_number : PySem.W.codeIn K cd_law_number "_law_number" = true) (k_law_number : PySem.W.keepIn K (.ref f_law_number) = true)
    {f_law_table : Addr} {od_law_table an_law_table : Option Addr} {sl_law_table : Array (Option Value)} {oc_law_table kV_law_table dc_law_table pm_law_table cd_law_table ct_law_table : Value}
    (a_law_table : PySem.W.nsIn K mainGlobals "_law_table" = some (some (.ref f_law_table)))
    (l_law_table : K.lookup f_law_table = some ⟨oc_law_table, od_law_table, .func (PySem.W.fnOf "_law_table" "_law_table" (defArgs s_law_table) (defBody s_law_table) (defScope s_law_table) .none kV_law_table dc_law_table pm_law_table an_law_table cd_law_table ct_law_table), sl_law_table⟩)
    (c_law_table : PySem.W.codeIn K cd_law_table "_law_table" = true) (k_law_table : PySem.W.keepIn K (.ref f_law_table) = true)
    {f_law_tables : Addr} {od_law_tables an_law_tables : Option Addr} {sl_law_tables : Array (Option Value)} {oc_law_tables kV_law_tables dc_law_tables pm_law_tables cd_law_tables ct_law_tables : Value}
    (a_law_tables : PySem.W.nsIn K mainGlobals "_law_tables" = some (some (.ref f_law_tables)))
    (l_law_tables : K.lookup f_law_tables = some ⟨oc_law_tables, od_law_tables, .func (PySem.W.fnOf "_law_tables" "_law_tables" (defArgs s_law_tables) (defBody s_law_tables) (defScope s_law_tables) .none kV_law_tables dc_law_tables pm_law_tables an_law_tables cd_law_tables ct_law_tables), sl_law_tables⟩)
    (c_law_tables : PySem.W.codeIn K cd_law_tables "_law_tables" = true) (k_law_tables : PySem.W.keepIn K (.ref f_law_tables) = true)
    {f_law_shown : Addr} {od_law_shown an_law_shown : Option Addr} {sl_law_shown : Array (Option Value)} {oc_law_shown kV_law_shown dc_law_shown pm_law_shown cd_law_shown ct_law_shown : Value}
    (a_law_shown : PySem.W.nsIn K mainGlobals "_law_shown" = some (some (.ref f_law_shown)))
    (l_law_shown : K.lookup f_law_shown = some ⟨oc_law_shown, od_law_shown, .func (PySem.W.fnOf "_law_shown" "_law_shown" (defArgs s_law_shown) (defBody s_law_shown) (defScope s_law_shown) .none kV_law_shown dc_law_shown pm_law_shown an_law_shown cd_law_shown ct_law_shown), sl_law_shown⟩)
    (c_law_shown : PySem.W.codeIn K cd_law_shown "_law_shown" = true) (k_law_shown : PySem.W.keepIn K (.ref f_law_shown) = true)
    {f_law : Addr} {od_law an_law : Option Addr} {sl_law : Array (Option Value)} {oc_law kV_law dc_law pm_law cd_law ct_law : Value}
    (a_law : PySem.W.nsIn K mainGlobals "law" = some (some (.ref f_law)))
    (l_law : K.lookup f_law = some ⟨oc_law, od_law, .func (PySem.W.fnOf "law" "law" (defArgs s_law) (defBody s_law) (defScope s_law) .none kV_law dc_law pm_law an_law cd_law ct_law), sl_law⟩)
    (c_law : PySem.W.codeIn K cd_law "law" = true) (k_law : PySem.W.keepIn K (.ref f_law) = true)
    (z_abs : PySem.W.nsIn K mainGlobals "abs" = some none)
    (z_dict : PySem.W.nsIn K mainGlobals "dict" = some none)
    (z_isinstance : PySem.W.nsIn K mainGlobals "isinstance" = some none)
    (z_len : PySem.W.nsIn K mainGlobals "len" = some none)
    (z_list : PySem.W.nsIn K mainGlobals "list" = some none)
    (z_max : PySem.W.nsIn K mainGlobals "max" = some none)
    (z_min : PySem.W.nsIn K mainGlobals "min" = some none)
    (z_range : PySem.W.nsIn K mainGlobals "range" = some none)
    (z_repr : PySem.W.nsIn K mainGlobals "repr" = some none)
    (z_tuple : PySem.W.nsIn K mainGlobals "tuple" = some none)
    : ∃ fd : FuncData, (∀ (s : Shared) (v : Value), BindsTo s fd ⟨[v], []⟩ [("_law_script", v)]) ∧ ∀ base : Heap, K.In base → base.Ns mainGlobals mg → FnG l.prog w K mg base CX0 6 fa fd ["_law_script"] (sp_law K) := by
  have e := hfa.symm.trans (PySem.W.mg_of X G a_law)
  cases e
  have F_cut := fun_mk (st := s_cut) l_cut c_cut k_cut
  have b_cut := F_cut.binds (ps := ["tables", "keys"]) fun _ _ _ _ _ _ us hl => match us, hl with | [_, _], _ => rfl
  have F_law_bag := fun_mk (st := s_law_bag) l_law_bag c_law_bag k_law_bag
  have b_law_bag := F_law_bag.binds (ps := ["_law_script", "_law_at"]) fun _ _ _ _ _ _ us hl => match us, hl with | [_, _], _ => rfl
  have F_law_take := fun_mk (st := s_law_take) l_law_take c_law_take k_law_take
  have b_law_take := F_law_take.binds (ps := ["_law_bag_here", "_law_many"]) fun _ _ _ _ _ _ us hl => match us, hl with | [_, _], _ => rfl
  have F_law_names := fun_mk (st := s_law_names) l_law_names c_law_names k_law_names
  have b_law_names := F_law_names.binds (ps := ["_law_bag_here", "_law_many"]) fun _ _ _ _ _ _ us hl => match us, hl with | [_, _], _ => rfl
  have F_law_number := fun_mk (st := s_law_number) l_law_number c_law_number k_law_number
  have b_law_number := F_law_number.binds (ps := ["_law_bag_here"]) fun _ _ _ _ _ _ us hl => match us, hl with | [_], _ => rfl
  have F_law_table := fun_mk (st := s_law_table) l_law_table c_law_table k_law_table
  have b_law_table := F_law_table.binds (ps := ["_law_bag_here", "_law_most"]) fun _ _ _ _ _ _ us hl => match us, hl with | [_, _], _ => rfl
  have F_law_tables := fun_mk (st := s_law_tables) l_law_tables c_law_tables k_law_tables
  have b_law_tables := F_law_tables.binds (ps := ["_law_bag_here", "_law_names_here", "_law_most"]) fun _ _ _ _ _ _ us hl => match us, hl with | [_, _, _], _ => rfl
  have F_law_shown := fun_mk (st := s_law_shown) l_law_shown c_law_shown k_law_shown
  have b_law_shown := F_law_shown.binds (ps := ["_law_sheets"]) fun _ _ _ _ _ _ us hl => match us, hl with | [_], _ => rfl
  have F_law := fun_mk (st := s_law) l_law c_law k_law
  have b_law := F_law.binds (ps := ["_law_script"]) fun _ _ _ _ _ _ us hl => match us, hl with | [_], _ => rfl
  have T : Txt K mg := {
    f_cut := _,
    d_cut := _,
    F_cut := F_cut,
    m_cut := PySem.W.mg_of X G a_cut,
    b_cut := b_cut,
    f_law_bag := _,
    d_law_bag := _,
    F_law_bag := F_law_bag,
    m_law_bag := PySem.W.mg_of X G a_law_bag,
    b_law_bag := b_law_bag,
    f_law_take := _,
    d_law_take := _,
    F_law_take := F_law_take,
    m_law_take := PySem.W.mg_of X G a_law_take,
    b_law_take := b_law_take,
    f_law_names := _,
    d_law_names := _,
    F_law_names := F_law_names,
    m_law_names := PySem.W.mg_of X G a_law_names,
    b_law_names := b_law_names,
    f_law_number := _,
    d_law_number := _,
    F_law_number := F_law_number,
    m_law_number := PySem.W.mg_of X G a_law_number,
    b_law_number := b_law_number,
    f_law_table := _,
    d_law_table := _,
    F_law_table := F_law_table,
    m_law_table := PySem.W.mg_of X G a_law_table,
    b_law_table := b_law_table,
    f_law_tables := _,
    d_law_tables := _,
    F_law_tables := F_law_tables,
    m_law_tables := PySem.W.mg_of X G a_law_tables,
    b_law_tables := b_law_tables,
    f_law_shown := _,
    d_law_shown := _,
    F_law_shown := F_law_shown,
    m_law_shown := PySem.W.mg_of X G a_law_shown,
    b_law_shown := b_law_shown,
    f_law := _,
    d_law := _,
    F_law := F_law,
    m_law := PySem.W.mg_of X G a_law,
    b_law := b_law,
    kb_cut_0_keys_tables := kb_swap F_cut fun _ _ _ _ _ _ _ _ => rfl,
    z_abs := PySem.W.mg_none_of X G z_abs,
    z_dict := PySem.W.mg_none_of X G z_dict,
    z_isinstance := PySem.W.mg_none_of X G z_isinstance,
    z_len := PySem.W.mg_none_of X G z_len,
    z_list := PySem.W.mg_none_of X G z_list,
    z_max := PySem.W.mg_none_of X G z_max,
    z_min := PySem.W.mg_none_of X G z_min,
    z_range := PySem.W.mg_none_of X G z_range,
    z_repr := PySem.W.mg_none_of X G z_repr,
    z_tuple := PySem.W.mg_none_of X G z_tuple }
  exact ⟨PySem.W.fnOf "law" "law" (defArgs s_law) (defBody s_law) (defScope s_law) .none kV_law dc_law pm_law an_law cd_law ct_law, fun s v => .of_eq rfl, fun base _ _ => ok_law_ F_law T⟩
theorem walk {l : PySem.W.OpenLaw} {q : Program} {loose : List Str} {XP : (Str → Option Value) → Heap → Prop} {YP : World → Heap → Prop} {d : DefRec} {K : Params → PySem.W.Frag} (hn : l.most = some 63) (hdf : d.params.defaults = [])
    (hY : ∀ (w : World) (h : Heap), YP w h → (K w.params).In h)
    (F : ∀ (w : World) (mg : Str → Option Value) (fa : Addr) (h : Heap), (K w.params).In h → h.Ns mainGlobals mg → mg d.name = some (.ref fa) →
      ∃ fd : FuncData, (∀ (s : Shared) (u : Value), BindsTo s fd ⟨[u], []⟩ [("_law_script", u)]) ∧ ∀ base : Heap, (K w.params).In base → base.Ns mainGlobals mg → FnG l.prog w (K w.params) mg base CX0 6 fa fd ["_law_script"] (sp_law (K w.params))) :
    PySem.W.WalkO q loose XP YP l.row.toRowW d [] (fun f vs => PySem.call f vs) :=
  walkG (n := 63) (k := 6) (x := "_law_script") (CX := fun _ => CX0) (sp := fun w => sp_law (K w.params)) hn (by decide) hdf ⟨rfl, by decide, by decide⟩ hY F (fun _ _ a ns hl _ hS => ⟨a, ns, rfl, hS, hl, fun _ => rfl⟩) fun _ _ _ _ _ z => z
end PX
open PySem PySem.W PyProof.Rows
set_option maxRecDepth 100000 in
set_option maxHeartbeats 0 in
theorem PySem.Challenge.cw_dictorders_k14_tables_cut_to_keys_holds : PySem.Challenge.rw_dictorders_k14_tables_cut_to_keys.Holds := by
  w_on; o_law; k_head; (case hw => w_witness2)
  k_fill
  refine PX.walk (l := PySem.Challenge.rw_dictorders_k14_tables_cut_to_keys) rfl rfl (fun w h Y => PySem.W.kIn_of Y) ?F
  case F =>
    intro w mg fa h KX G hmg
    refine' PX.all_mk KX G hmg ?a_cut ?l_cut ?c_cut ?k_cut ?a_law_bag ?l_law_bag ?c_law_bag ?k_law_bag ?a_law_take ?l_law_take ?c_law_take ?k_law_take ?a_law_names ?l_law_names ?c_law_names ?k_law_names ?a_law_number ?l_law_number ?c_law_number ?k_law_number ?a_law_table ?l_law_table ?c_law_table ?k_law_table ?a_law_tables ?l_law_tables ?c_law_tables ?k_law_tables ?a_law_shown ?l_law_shown ?c_law_shown ?k_law_shown ?a_law ?l_law ?c_law ?k_law ?z_abs ?z_dict ?z_isinstance ?z_len ?z_list ?z_max ?z_min ?z_range ?z_repr ?z_tuple
    (case a_cut => k_is); (case l_cut => k_is); (case c_cut => k_is); (case k_cut => k_is); (case a_law_bag => k_is); (case l_law_bag => k_is)
    (case c_law_bag => k_is); (case k_law_bag => k_is); (case a_law_take => k_is); (case l_law_take => k_is); (case c_law_take => k_is); (case k_law_take => k_is)
    (case a_law_names => k_is); (case l_law_names => k_is); (case c_law_names => k_is); (case k_law_names => k_is); (case a_law_number => k_is); (case l_law_number => k_is)
    (case c_law_number => k_is); (case k_law_number => k_is); (case a_law_table => k_is); (case l_law_table => k_is); (case c_law_table => k_is); (case k_law_table => k_is)
    (case a_law_tables => k_is); (case l_law_tables => k_is); (case c_law_tables => k_is); (case k_law_tables => k_is); (case a_law_shown => k_is); (case l_law_shown => k_is)
    (case c_law_shown => k_is); (case k_law_shown => k_is); (case a_law => k_is); (case l_law => k_is); (case c_law => k_is); (case k_law => k_is)
    (case z_abs => k_is); (case z_dict => k_is); (case z_isinstance => k_is); (case z_len => k_is); (case z_list => k_is); (case z_max => k_is)
    (case z_min => k_is); (case z_range => k_is); (case z_repr => k_is); (case z_tuple => k_is)
#print axioms PySem.Challenge.cw_dictorders_k14_tables_cut_to_keys_holds
