import PyProof.Rows.All
import Wide.All
import OpenK.AllK
import Wide.FinOn
import PyProof.EqAt
import PyProof.EqKinds
import PyProof.TupleCall
import PyProof.ReprRoads
import HandS.ForMost
import HandS.Wide
import HandS.Codes
import HandS.ClsMeth
import HandS.Property
import HandS.Star
import KE.KExcLine
import KE.RegKIsAll
import HandS.DictComp
import HandS.Walk
import PyProof.RulesMatch
import PyProof.SliceList
import HandS.Words
import PyProof.SetKind
import HandS.Set
import HandS.Strs
import HandS.More
import HandS.SetBool
import HandS.Comp
import PyProof.DictUpdate
import HandS.ListEq
import PyProof.EnumFor
import PyProof.EnumStmt
import KE.GoesEnum
import HandS.Iter
import HandS.DictTup
import HandS.SortOrd
import HandS.SortRule
import HandS.ListItems
import HandS.Text
import HandS.SetKeys
import HandS.Style
import HandS.Proxy
import KE.KCallOwn
import HandS.OwnEq
import KE.KRevSl
import PyProof.InstNe
import HandS.SetFor
import PyProof.CallFns
import HandS.FStr
import HandS.IsInst
import HandS.RaiseMore
import HandS.Zip
import KE.KExcInit
import HandS.Base
import HandS.Call
import HandS.List
import HandS.Ends
import HandS.Exc
import HandS.ExcInit
import HandS.ExcField
import PyProof.Rows.FactsExc_KeyError
import HandS.WordsExc
import HandS.ExcOwn
import HandS.Lambda
import HandS.EndTab
import HandS.EndOwn
import HandS.NestedK
import KE.KIsAll
import KE.KTryMore
import HandS.ExcIs
import HandS.HotCalls
import HandS.NoneIn
import PySem.Challenge.RW_dictorders_k02_names_of_bases
set_option Elab.async false
set_option linter.all false
set_option maxRecDepth 100000
set_option maxHeartbeats 4000000
/-! A def's promise where nothing that guards against itself (a repr under way) stands around the call; repr of data. -/
namespace PX
open PySem PySem.Spec PyProof.Rows L2

/-- no guard is under way -/
def NoG (A : Around) : Prop := A.guards = some []
theorem NoG.dp {A : Around} (h : NoG A) (env : Env) : NoG (A.deeper env) := h

/-- FnOk, asked only where NoG holds -/
structure FnG (P : Program) (w : World) (K : PySem.W.Frag) (mg : Str → Option Value) (base : Heap) (CX : CXT) (k : Nat) (f : Addr) (fd : FuncData) (ps : List Str) (sp : Sp) : Prop where
  many : ∀ vs H Q E, sp vs H Q E → vs.length = ps.length
  goes : ∀ (A : Around) (outer : List Env) (s : Shared) (H : Hp) (args : Args) (us : List Value) (vs : List V) (Q : VK) (E : XK),
    Room k A → NoG A → Env0 P w K mg base A outer s H → BindsTo s fd args (ps.zip us) → Vals vs us → sp vs H Q E →
      codeAny (model P w) A (.call (.ref f) args) (CR CX outer P w H s Q E) s

section
variable {P : Program} {w : World} {K : PySem.W.Frag} {mg : Str → Option Value} {base : Heap} {CX : CXT} {k : Nat} {f : Addr} {fd : FuncData} {ps : List Str} {sp : Sp}
theorem FnG.ofOk (F : FnOk P w K mg base CX k f fd ps sp) : FnG P w K mg base CX k f fd ps sp :=
  ⟨F.len, fun A outer s H args us vs Q E hr _ e0 hb r h => F.run A outer s H args us vs Q E hr e0 hb r h⟩

/-- a def by its body -/
theorem fnG_of {name qual : Str} {params : Arguments} {body : List Stmt} {scope : Scope} {dV kV doc pm cdv ct oc : Value} {an od : Option Addr} {osl : Array (Option Value)} {N : List Str}
    (lk : K.lookup f = some ⟨oc, od, .func (PySem.W.fnOf name qual params body scope dV kV doc pm an cdv ct), osl⟩) (hcd : PySem.W.codeIn K cdv qual = true) (S : FnScope N ps scope)
    (many : ∀ vs H Q E, sp vs H Q E → vs.length = ps.length)
    (hb : ∀ (A : Around) (outer : List Env) (s : Shared) (H : Hp) (vs : List V) (Q : VK) (E : XK), Room k (A.deeper (envOfC qual scope s.heap.objs.size f cdv)) → NoG A → sp vs H Q E →
      ∃ t, PSs (cxOf CX P w K mg base N qual scope f cdv A outer s H E) body t ∧ t { nx := fun _ H' => Q .non H', rt := Q } (start N vs) H) :
    FnG P w K mg base CX (k + 1) f (PySem.W.fnOf name qual params body scope dV kV doc pm an cdv ct) ps sp := by
  constructor
  · exact many
  intro A outer s H args us vs Q E hr hg e0 hbd rv hs
  have back : ∀ b o, base.get? b = some o → s.heap.get? b = some o := fun b o e => (e0.bs b o e).1
  have hK := e0.mod.kin.keeps back
  refine codeAny_call_function hr.depth (hK _ _ lk) rfl S.co S.gen rfl (PySem.W.codeRec_of hK hcd) (hbd _ _ _ _ ?_)
  refine wpAny_newFunctionEnv_cells S.kind (fun y hy => ?_) fun env he s1 x => ?_
  · obtain ⟨n, v⟩ := y
    have hn := (List.of_mem_zip hy).1
    cases S.par n hn with
    | inl q => exact Or.inl q
    | inr q => exact Or.inr ⟨q, PySem.W.cellsFrom_some _ _ _ (Or.inl q)⟩
  subst he
  refine ⟨(e0.mod.nolimit.keeps back).keeps x.toInCall.keep, codeAny_func ?_⟩
  obtain ⟨t, ht, hq⟩ := hb A outer s H vs Q E (hr.deeper _) hg hs
  have J := inv_start (CX := CX) (E := E) S hr.hd e0 (many _ _ _ _ hs) rv x
  refine wpAny_mono (ht.run [] s1 (start N vs) H _ J hq) (fun fl s' z => ?_) fun e s' z => z
  cases fl with
  | ret u =>
    obtain ⟨v, σ', H', J', r', q⟩ := z
    exact ⟨v, H', J'.os, J'.bare, J'.base, J'.hok, r', q⟩
  | next =>
    obtain ⟨σ', H', J', q⟩ := z
    exact ⟨V.non, H', J'.os, J'.bare, J'.base, J'.hok, (rfl : Value.none = Value.none), q⟩
  | brk =>
    obtain ⟨_, _, _, q⟩ := z
    exact q.elim
  | cont =>
    obtain ⟨_, _, _, q⟩ := z
    exact q.elim
end

section
variable {P : Program} {w : World} {K : PySem.W.Frag} {mg : Str → Option Value} {base : Heap}
/-- Fun.ok for FnG -/
theorem okG {x qual : Str} {st : Stmt} {f : Addr} {fd : FuncData} {N ps : List Str} {k : Nat} {sp : Sp} (F : Fun K x qual st f fd) (S : FnScope N ps (defScope st)) (many : ∀ vs H Q E, sp vs H Q E → vs.length = ps.length)
    (hb : ∀ (cdv : Value) (A : Around) (outer : List Env) (s : Shared) (H : Hp) (vs : List V) (Q : VK) (E : XK), Room k (A.deeper (envOfC qual (defScope st) s.heap.objs.size f cdv)) → NoG A → sp vs H Q E →
      ∃ t, PSs (cxOf CX0 P w K mg base N qual (defScope st) f cdv A outer s H E).nox (defBody st) t ∧ t { nx := fun _ H' => Q .non H', rt := Q } (start N vs) H) : FnG P w K mg base CX0 (k + 1) f fd ps sp := by
  obtain ⟨oc, od, kV, doc, pm, an, cdv, ct, osl, rfl, lk, hcd⟩ := F.ex
  refine fnG_of lk hcd S many fun A outer s H vs Q E hr hg hs => ?_
  obtain ⟨t, h, q⟩ := hb cdv A outer s H vs Q E hr hg hs
  exact ⟨t, h.nox, q⟩
end

section
variable {X : Cx} {CX : CXT} {k : Nat} {f : Addr} {fd : FuncData} {ps : List Str} {sp : Sp} {dvs : List V} {ds : List Value} {E : XK} {x : Str} {p pos : Pos} {e : Expr} {es : List Expr} {t : TA}
theorem runG {pins : List (Addr × Obj)} {σ : L2.St} {H : Hp} {s : Shared} {Q : VK} {us : List Value} {vs : List V} (F : FnG X.prog X.w X.K X.mg X.base CX k f fd ps sp) (hr : Room k X.A) (hg : NoG X.A) (hb : Binds X.K fd ps ds) (hd : Vals dvs ds) (hx : Passes CX X E)
    (I : Inv X pins σ H s) (r : Vals vs us) (h : sp (vs ++ dvs) H Q E) : wpAny (model X.prog X.w) X.A (call (.ref f) us) (EP X pins σ Q) X.xe s := by
  have rv := r.append hd
  have hl : (us ++ ds).length = ps.length := rv.length.symm.trans (F.many _ _ _ _ h)
  refine wpAny_call (codeAny_mono (F.goes X.A X.stack s H ⟨us, []⟩ (us ++ ds) (vs ++ dvs) Q E hr hg I.env0 (hb s us I.kIn hl) rv h) fun r s' hq => ?_)
  match r, hq with
  | .error e, hq => exact hx pins σ H s e s' I hq
  | .ok (.ret u), hq => exact I.after hq
  | .ok .next, hq => exact hq.elim
  | .ok .brk, hq => exact hq.elim
  | .ok .cont, hq => exact hq.elim
/-- f(e, ..) -/
theorem pe_callG (F : FnG X.prog X.w X.K X.mg X.base CX k f fd ps sp) (hr : Room k X.A) (hg0 : NoG X.A) (hg : Gl X x) (hm : X.mg x = some (.ref f)) (hk : PySem.W.keepIn X.K (.ref f) = true) (hb : Binds X.K fd ps ds) (hd : Vals dvs ds) (hx : Passes CX X E)
    (ha : PA X (e :: es) t) (hdb : (x == ("__debug__" : Str)) = false := by decide) (he : starEach (e :: es) X.env = (false, eval e X.env) :: starEach es X.env := by rfl) (hpl : (backTo pos (starEach es X.env)).any (·.1) = false := by rfl) :
    PE X (.Call (.Name x p) (e :: es) [] pos) (tCall sp dvs E t) := by
  constructor
  intro pins s σ H Q I h
  refine wpAny_Call_Name_kw (ld_glob I hg hm ?_ hdb)
  refine PySem.W.callWith_K (h₀ := X.base) I.ok.mod.kin hk (thn (ha.run pos pins s σ H _ I h) fun us s1 z => ?_) he hpl
  obtain ⟨vs, H1, I1, r, q⟩ := z
  exact ⟨I1.kIn, runG F hr hg0 hb hd hx I1 r q⟩
end

/-! ### calls by keywords alone -/
section
variable {X : Cx} {CX : CXT} {k : Nat} {f : Addr} {fd : FuncData} {ps ks : List Str} {sp : Sp} {E : XK} {x : Str} {p pos : Pos} {kws : List Keyword} {tk : TA} {g : List Value → List Value → List Value} {gV : List V → List V → List V}
theorem pe_callKw (F : FnOk X.prog X.w X.K X.mg X.base CX k f fd ps sp) (hr : Room k X.A) (hg : Gl X x) (hm : X.mg x = some (.ref f)) (hk : PySem.W.keepIn X.K (.ref f) = true) (hb : KBinds X.K fd ps ks g gV) (hx : Passes CX X E)
    (hkw : PK X kws tk) (hall : (backToKw pos (keywordEach kws X.env)).all (·.1.isSome) = true := by rfl) (hks : (backToKw pos (keywordEach kws X.env)).filterMap (·.1) = ks := by rfl)
    (hdb : (x == ("__debug__" : Str)) = false := by decide) (hpl : ((backTo pos (starEach [] X.env)).any (·.1) || (backToKw pos (keywordEach kws X.env)).any (·.1.isNone)) = false := by rfl) :
    PE X (.Call (.Name x p) [] kws pos) (tCallK sp gV E tNil tk) := by
  constructor
  intro pins s σ H Q I h
  refine wpAny_Call_Name_kw (ld_glob I hg hm ?_ hdb)
  refine PySem.W.callWith_KW0 (h₀ := X.base) I.ok.mod.kin hk hall ?_ hpl
  refine thn (hkw.run pos pins s σ H _ I h) fun ws s2 z => ?_
  obtain ⟨zs, H2, I2, rz, q⟩ := z
  refine ⟨I2.kIn, ?_⟩
  rw [hks]
  exact run_fnk (us := []) (vs := []) F hr hb hx I2 .nil rz q
end
/-- two values by keywords, in the opposite order -/
def sw2 {α : Type} : List α → List α → List α
  | [], [a, b] => [b, a]
  | _, _ => []
theorem kb_swap {K : PySem.W.Frag} {x qual : Str} {st : Stmt} {f : Addr} {fd : FuncData} {p1 p2 : Str} (F : Fun K x qual st f fd)
    (h : ∀ (kV doc pm : Value) (an : Option Addr) (cdv ct a b : Value), bindArgs (PySem.W.fnOf x qual (defArgs st) (defBody st) (defScope st) .none kV doc pm an cdv ct) ⟨[], [(p2, a), (p1, b)]⟩ = pure [(p1, b), (p2, a)]) :
    KBinds K fd [p1, p2] [p2, p1] sw2 sw2 := by
  obtain ⟨oc, od, kV, doc, pm, an, cdv, ct, osl, rfl, lk, hcd⟩ := F.ex
  refine ⟨fun s us ws _ hl => ?_, fun {vs us zs ws} r z => ?_⟩
  · match us, ws, hl with
    | [], [a, b], _ => exact .of_eq (h kV doc pm an cdv ct a b)
  · cases r with
    | nil =>
      cases z with
      | nil => exact .nil
      | cons a z =>
        cases z with
        | nil => exact .nil
        | cons b z =>
          cases z with
          | nil => exact .cons b (.cons a .nil)
          | cons c z => exact .nil
    | cons a r => exact .nil

/-! ### cuts: what is known behind a part, said once -/
def tCut (t : TE) : TE := fun σ H Q => ∃ Q0 : VK, t σ H Q0 ∧ ∀ x H1, Q0 x H1 → Q x H1
theorem pe_cut {X : Cx} {e : Expr} {t : TE} (h : PE X e t) : PE X e (tCut t) := ⟨fun pins s σ H Q I z => by
  obtain ⟨Q0, h0, h1⟩ := z
  exact thn (h.run pins s σ H Q0 I h0) fun v s1 ⟨x, H1, I1, r, q⟩ => ⟨x, H1, I1, r, h1 x H1 q⟩⟩
def tCutT (t : TT) : TT := fun σ H Q => ∃ Q0 : Bool → Hp → Prop, t σ H Q0 ∧ ∀ b H1, Q0 b H1 → Q b H1
theorem pt_cut {X : Cx} {e : Expr} {t : TT} (h : PT X e t) : PT X e (tCutT t) := ⟨fun pins s σ H Q I z => by
  obtain ⟨Q0, h0, h1⟩ := z
  exact thn (h.run pins s σ H Q0 I h0) fun b s1 ⟨H1, I1, q⟩ => ⟨H1, I1, h1 b H1 q⟩⟩
def tCutS (t : TS) : TS := fun D σ H => ∃ N : L2.St → Hp → Prop, t { D with nx := N } σ H ∧ ∀ σ' H', N σ' H' → D.nx σ' H'
theorem ps_cut {X : Cx} {st : Stmt} {t : TS} (h : PS X st t) : PS X st (tCutS t) := ⟨fun pins s σ H D I z => by
  obtain ⟨N, h0, h1⟩ := z
  refine thn (h.run pins s σ H { D with nx := N } I h0) fun f s1 q => ?_
  cases f with
  | next =>
    obtain ⟨σ', H', I', n⟩ := q
    exact ⟨σ', H', I', h1 σ' H' n⟩
  | brk => exact q
  | cont => exact q
  | ret u => exact q⟩

/-! ### heaps that grow, but for one object -/
/-- all that was tracked stands, but for p -/
def Gr (p : Addr) (H H' : Hp) : Prop := ∀ q o, q ≠ p → H q = some o → H' q = some o
theorem Gr.refl (p : Addr) (H : Hp) : Gr p H H := fun _ _ _ h => h
theorem Gr.trans {p : Addr} {H H1 H2 : Hp} (a : Gr p H H1) (b : Gr p H1 H2) : Gr p H H2 := fun q o n h => b q o n (a q o n h)
theorem Gr.same {p : Addr} {H H' : Hp} (s : Same H H') : Gr p H H' := fun q o _ h => s q o h
theorem Same.mk1 {H : Hp} {p : Addr} {o : HO} (h : H p = none) : Same H (upd H p o) := fun b u e => by
  rw [upd_ne (ne_of_none e h)]
  exact e
/-- what is none behind was none ahead -/
theorem Gr.back {p q : Addr} {H H' : Hp} (g : Gr p H H') (hp : H' p ≠ none) (h : H' q = none) : H q = none := by
  cases e : H q with
  | none => rfl
  | some o =>
    by_cases z : q = p
    · subst z
      exact absurd h hp
    · rw [g q o z e] at h
      cases h
/-- a write to an object that was not tracked at the start -/
theorem Same.put {H H' : Hp} {p : Addr} {o : HO} (s : Same H H') (h : H p = none) : Same H (upd H' p o) := fun b u e => by
  rw [upd_ne (ne_of_none e h)]
  exact s b u e
theorem Gr.put {p q : Addr} {H H' : Hp} {o : HO} (s : Gr q H H') (h : H p = none) : Gr q H (upd H' p o) := fun b u n e => by
  rw [upd_ne (ne_of_none e h)]
  exact s b u n e
theorem Same.lst {H H' : Hp} {a : Addr} {o : HO} (s : Same H H') (h : H a = some o) : H' a = some o := s a o h

theorem Gr.seq {K : PySem.W.Frag} {p q : Addr} {H H' : Hp} {xs : List V} (g : Gr p H H') (n : q ≠ p) (h : SqL K H q xs) : SqL K H' q xs := by
  rcases h with (h | ⟨o, h⟩) | h
  · exact .inl (.inl (g _ _ n h))
  · exact .inl (.inr ⟨o, g _ _ n h⟩)
  · exact .inr h
theorem paired_map {α β γ : Type} {F : α → β → Prop} (f : γ → α) (g : γ → β) : ∀ l : List γ, (∀ e ∈ l, F (f e) (g e)) → Paired F (l.map f) (l.map g)
  | [], _ => .nil
  | e :: r, h => .cons (h e List.mem_cons_self) (paired_map f g r fun x hx => h x (List.mem_cons_of_mem _ hx))
theorem getElem?_map' {α β : Type} {f : α → β} {l : List α} {i : Nat} {y : β} (h : (l.map f)[i]? = some y) : ∃ x, l[i]? = some x ∧ y = f x := by
  rw [List.getElem?_map] at h
  obtain ⟨x, h1, h2⟩ := Option.map_eq_some_iff.mp h
  exact ⟨x, h1, h2.symm⟩
theorem take_next {α : Type} : ∀ {l : List α} {i : Nat} {x : α}, l[i]? = some x → l.take (i + 1) = l.take i ++ [x]
  | [], i, x, h => nomatch (show (none : Option α) = some x by simpa using h)
  | a :: l, 0, x, h => by
    have e : a = x := Option.some.inj h
    rw [e] <;> rfl
  | a :: l, i + 1, x, h => by
    have q := take_next (l := l) (i := i) (x := x) h
    show a :: l.take (i + 1) = a :: l.take i ++ [x]
    rw [q] <;> rfl

/-! ### slices -/
theorem cutV_map {α : Type} (f : α → V) (xs : List α) (lo hi : Option Int) : cutV (xs.map f) lo hi = ((xs.drop (HT.sIx xs.length 0 lo)).take (HT.sIx xs.length xs.length hi - HT.sIx xs.length 0 lo)).map f := by
  unfold cutV
  rw [List.length_map, List.map_take, List.map_drop]
theorem cut_from {xs : List V} {i : Int} (h : 0 ≤ i) : cutV xs (some i) none = xs.drop i.toNat := by
  obtain ⟨k, rfl⟩ : ∃ k : Nat, i = (k : Int) := ⟨i.toNat, by omega⟩
  unfold cutV
  rw [HT.sIx_nat, HT.sIx_none, Int.toNat_natCast]
  by_cases hk : k ≤ xs.length
  · rw [Nat.min_eq_left hk, List.take_of_length_le (by rw [List.length_drop]; exact Nat.le_refl _)]
  · rw [Nat.min_eq_right (by omega), List.drop_eq_nil_of_le (Nat.le_refl _), List.drop_eq_nil_of_le (by omega), List.take_nil]
theorem cut_to {xs : List V} {j : Int} (h : 0 ≤ j) : cutV xs none (some j) = xs.take j.toNat := by
  obtain ⟨k, rfl⟩ : ∃ k : Nat, j = (k : Int) := ⟨j.toNat, by omega⟩
  unfold cutV
  rw [HT.sIx_nat, HT.sIx_none, Int.toNat_natCast, List.drop_zero, Nat.sub_zero]
  by_cases hk : k ≤ xs.length
  · rw [Nat.min_eq_left hk]
  · rw [Nat.min_eq_right (by omega), List.take_of_length_le (Nat.le_refl _), List.take_of_length_le (by omega)]

/-! ### repr of data -/
/-- repr(x), x data without dicts -/
def rRepr (K : PySem.W.Frag) : List V → Hp → VK → Prop := fun xs H Q => ∃ (a : Addr) (d : PyData), xs = [.ref a] ∧ Dp K H (.ref a) d ∧ d.showable = true ∧ d.hasDict = false ∧ d.depth ≤ 60 ∧ d.shown.length ≤ sizeLine ∧ Q (.str d.shown) H
theorem call_repr {X : Cx} {k : Nat} (hr : Room k X.A) (hg : NoG X.A) : CallR X (.builtin "repr") (rRepr X.K) := by
  intro pins s σ H xs us Q I r h
  obtain ⟨a, d, rfl, hd, hs, hn, hp, hz, q⟩ := h
  obtain ⟨u, rfl, ru⟩ := vals1 r
  obtain ⟨as, rd⟩ := Dp.reads I d _ u hd ru
  obtain rfl : u = Value.ref a := ru
  have hu := hr.units
  exact repr_of_reads' rd hs (PyData.noDict_hsm hn) hg (by omega) (fun _ _ e => e) (fun h' u tk kp => ⟨.str d.shown, H, I.kept kp, ⟨u, rfl⟩, q⟩) hz

/-! ### the head of a law whose promise is a FnG -/
theorem law_callG {P : Program} {w : World} {K : PySem.W.Frag} {mg mb : Str → Option Value} {CX : CXT} {k : Nat} {fa a : Addr} {fd : FuncData} {x : Str} {sp : Sp} {s₁ : Shared} {vs : List Value} {ns : List Int}
    (KX : K.In s₁.heap) (hns : s₁.heap.Ns mainGlobals mg) (hb : s₁.heap.Ns builtinsNs mb) (hbb : ∀ x : Str, x ≠ "__name__" → mb x = bootBuiltins x) (hlim : s₁.heap.NoLimit) (hg : s₁.gens = #[])
    (ha : s₁.heap.get? a = some { cls := .type "list", data := .seq vs.toArray }) (hi : IntsAre vs ns) (hl : ns.length ≤ sizeLine) (hr : Room k callerA)
    (F : ∀ base : Heap, K.In base → base.Ns mainGlobals mg → FnG P w K mg base CX k fa fd [x] sp) (hbind : ∀ (s : Shared) (u : Value), BindsTo s fd ⟨[u], []⟩ [(x, u)])
    (hsp : ∀ H : Hp, Only H → SqL K H a (ns.map V.int) → sp [.ref a] H (fun v _ => v = .bl true) fun _ _ _ => False)
    (hCX : ∀ H e s', CX [] H s₁ (fun _ _ _ => False) e s' → False) :
    codeAny (model P w) callerA (.call (.ref fa) ⟨[.ref a], []⟩) (fun r s' => r = .ok (.ret (.bool true)) ∧ OldK s₁.heap s'.heap ∧ s'.os = s₁.os ∧ AllBare s'.gens) s₁ := by
  have rv := vals_ints hi
  have lenV := hi.length
  have main : ∀ H : Hp, Only H → SqL K H a (ns.map V.int) → HOk P w H s₁.heap → (∀ b, H b ≠ none → b = a) → (H a ≠ none → K.lookup a = none) →
      codeAny (model P w) callerA (.call (.ref fa) ⟨[.ref a], []⟩) (fun r s' => r = .ok (.ret (.bool true)) ∧ OldK s₁.heap s'.heap ∧ s'.os = s₁.os ∧ AllBare s'.gens) s₁ := by
    intro H hO hS hok hA hK
    have free_of : ∀ {b : Addr}, (b = a → H b = none) → H b = none := fun {b} z => by
      cases q : H b with
      | none => rfl
      | some u =>
        rw [← q]
        exact z (hA b (by rw [q]; exact fun y => nomatch y))
    have dict_free : ∀ {b : Addr} {o : Obj} {es : Array DictEntry} {ep : Nat}, s₁.heap.get? b = some o → o.data = .dict es ep → H b = none := fun {b o es ep} e d => free_of fun z => by
      subst z
      rw [ha] at e
      cases e
      cases (show Data.seq vs.toArray _ = Data.dict es ep from d)
    have nsT : ∀ {b : Addr} {m : Str → Option Value}, s₁.heap.Ns b m → (hidT s₁.heap H).Ns b m := fun {b m} z => by
      obtain ⟨o, es, ep, e, d, r⟩ := z
      exact ⟨o, es, ep, hidT_get e (dict_free e d), d, r⟩
    have hKb : K.In (hidT s₁.heap H) := fun b o e => hidT_get (KX b o e) (by
      cases q : H b with
      | none => rfl
      | some u =>
        have e' : b = a := hA b (by rw [q]; exact fun y => nomatch y)
        subst e'
        rw [hK (by rw [q]; exact fun y => nomatch y)] at e
        cases e)
    have hM : Mod K mg (hidT s₁.heap H) := ⟨hKb, nsT hns, ⟨mb, nsT hb, hbb⟩, by obtain ⟨mc, h1, h2⟩ := hlim; exact ⟨mc, nsT h1, h2⟩⟩
    have e0 : Env0 P w K mg (hidT s₁.heap H) callerA [] s₁ H := ⟨rfl, hM, fun b o e => of_hidT e, Nat.le_of_eq (hidT_size _ _), True.intro, fun b hb => absurd (show b ∈ ([] : List Addr) from hb) List.not_mem_nil, hok, .of_eq hg⟩
    refine codeAny_mono ((F _ hKb (nsT hns)).goes callerA [] s₁ H ⟨[.ref a], []⟩ [.ref a] [.ref a] _ _ hr rfl e0 (hbind s₁ (.ref a)) (.cons rfl .nil) (hsp H hO hS)) fun r s' h => ?_
    match r, h with
    | .error e, h => exact (hCX H e s' h).elim
    | .ok .next, h => exact False.elim h
    | .ok .brk, h => exact False.elim h
    | .ok .cont, h => exact False.elim h
    | .ok (.ret u), h =>
      obtain ⟨v, H', os, bare, un, hok', r', q⟩ := h
      obtain rfl : v = V.bl true := q
      obtain rfl : u = Value.bool true := r'
      refine ⟨rfl, OldK.of_keep fun b o e => ?_, os, bare⟩
      rcases hO b with z | ⟨ob, xs, z⟩
      · exact un.keep b o e z (fun y => absurd (show b ∈ ([] : List Addr) from y) List.not_mem_nil) List.not_mem_nil
      · have e1 := (hok b _ z).1
        have e2 := (hok' b _ (un.frzs b ob _ z)).1
        rw [e] at e1
        cases e1
        exact e2
  cases hk : K.lookup a with
  | some o =>
    have e := KX a o hk
    rw [ha] at e
    cases e
    exact main (fun _ => none) (fun _ => .inl rfl) (.inr ⟨_, vs.toArray, _, hk, rfl, rfl, rfl, by rw [List.size_toArray, lenV]; exact hl, by simpa using rv⟩) (fun b u z => nomatch z) (fun b z => absurd rfl z) fun z => absurd rfl z
  | none =>
    refine main (fun b => if b = a then some (.frz { cls := .type "list", data := .seq vs.toArray } (.lst (ns.map V.int))) else none) (fun b => ?_) (.inl (.inr ⟨{ cls := .type "list", data := .seq vs.toArray }, if_pos rfl⟩)) (fun b u z => ?_) (fun b z => ?_) fun _ => hk
    · by_cases hb : b = a
      · exact .inr ⟨_, _, if_pos hb⟩
      · exact .inl (if_neg hb)
    · by_cases hb : b = a
      · have z' := (if_pos hb).symm.trans z
        cases z'
        subst hb
        exact ⟨ha, by rw [List.length_map]; exact hl, vs, _, rv, ha⟩
      · have z' := (if_neg hb).symm.trans z
        cases z'
    · by_cases hb : b = a
      · exact hb
      · exact absurd (if_neg hb) z

theorem walkG {l : PySem.W.OpenLaw} {n k : Nat} {q : Program} {loose : List Str} {XP : (Str → Option Value) → Heap → Prop} {YP : World → Heap → Prop} {d : DefRec} {K : Params → PySem.W.Frag} {CX : World → CXT} {sp : World → Sp} {x : Str}
    (hn : l.most = some n) (hn2 : n ≤ sizeLine) (hdf : d.params.defaults = []) (hr : Room k callerA)
    (hY : ∀ (w : World) (h : Heap), YP w h → (K w.params).In h)
    (F : ∀ (w : World) (mg : Str → Option Value) (fa : Addr) (h : Heap), (K w.params).In h → h.Ns mainGlobals mg → mg d.name = some (.ref fa) →
      ∃ fd : FuncData, (∀ (s : Shared) (u : Value), BindsTo s fd ⟨[u], []⟩ [(x, u)]) ∧
        ∀ base : Heap, (K w.params).In base → base.Ns mainGlobals mg → FnG l.prog w (K w.params) mg base (CX w) k fa fd [x] (sp w))
    (hsp : ∀ (w : World) (H : Hp) (a : Addr) (ns : List Int), ns.length ≤ n → Only H → SqL (K w.params) H a (ns.map V.int) → sp w [.ref a] H (fun v _ => v = .bl true) fun _ _ _ => False)
    (hCX : ∀ (w : World) (H : Hp) (s : Shared) (e : Value) (s' : Shared), CX w [] H s (fun _ _ _ => False) e s' → False) :
    PySem.W.WalkO q loose XP YP l.row.toRowW d [] (fun f vs => PySem.call f vs) := by
  refine Att.attach_call hn hdf fun w s₀ s₁ mg mb fa o pm cd doc a vs ns G Y ho hd hcd hmg hobj hints hlen hg => ?_
  obtain ⟨fd, hb, hF⟩ := F w mg fa _ (hY w _ Y) G.T.g hmg
  exact law_callG (hY w _ Y) G.T.g G.T.b G.T.builtins G.T.nolimit hg hobj hints (Nat.le_trans hlen hn2) hr hF hb (fun H hO hS => hsp w H a ns hlen hO hS) fun H e s' => hCX w H s₁ e s'
end PX
/-! Tables: dicts of ints as lists of pairs; dicts of them by names. -/
namespace PX
open PySem PySem.Spec PyProof.Rows L2

/-! ### lists of pairs -/
section
variable {κ β : Type} [DecidableEq κ]
def getL (l : List (κ × β)) (k : κ) : Option β := (l.find? fun p => decide (p.1 = k)).map (·.2)
def hasL (l : List (κ × β)) (k : κ) : Bool := l.any fun p => decide (p.1 = k)
def putL (l : List (κ × β)) (k : κ) (v : β) : List (κ × β) := if hasL l k = true then l.map (fun p => if p.1 = k then (p.1, v) else p) else l ++ [(k, v)]
def dropL (l : List (κ × β)) (k : κ) : List (κ × β) := l.filter fun p => decide (p.1 ≠ k)
theorem hasL_iff {l : List (κ × β)} {k : κ} : hasL l k = true ↔ k ∈ l.map (·.1) := by
  unfold hasL
  rw [List.any_eq_true, List.mem_map]
  constructor
  · rintro ⟨p, hp, h⟩
    exact ⟨p, hp, of_decide_eq_true h⟩
  · rintro ⟨p, hp, h⟩
    exact ⟨p, hp, decide_eq_true h⟩
theorem putL_keys (l : List (κ × β)) (k : κ) (v : β) : (putL l k v).map (·.1) = if k ∈ l.map (·.1) then l.map (·.1) else l.map (·.1) ++ [k] := by
  unfold putL
  by_cases h : hasL l k = true
  · rw [if_pos h, if_pos (hasL_iff.mp h), List.map_map]
    refine List.map_congr_left fun p _ => ?_
    show (if p.1 = k then (p.1, v) else p).1 = p.1
    split <;> rfl
  · rw [if_neg h, if_neg fun z => h (hasL_iff.mpr z), List.map_append]
    rfl
theorem putL_nodup {l : List (κ × β)} (k : κ) (v : β) (h : (l.map (·.1)).Nodup) : ((putL l k v).map (·.1)).Nodup := by
  rw [putL_keys]
  split
  · exact h
  · rename_i hk
    rw [List.nodup_append]
    exact ⟨h, by simp, fun a ha b hb e => hk (by rw [List.mem_singleton] at hb; rw [← hb, ← e]; exact ha)⟩
theorem putL_length (l : List (κ × β)) (k : κ) (v : β) : (putL l k v).length ≤ l.length + 1 := by
  unfold putL
  split
  · rw [List.length_map]; omega
  · rw [List.length_append]; exact Nat.le_refl _
theorem putL_mem {l : List (κ × β)} {k : κ} {v : β} {p : κ × β} (h : p ∈ putL l k v) : p ∈ l ∨ p = (k, v) := by
  unfold putL at h
  split at h
  · obtain ⟨q, hq, e⟩ := List.mem_map.mp h
    by_cases z : q.1 = k
    · rw [if_pos z] at e
      exact .inr (by rw [← e, z])
    · rw [if_neg z] at e
      exact .inl (e ▸ hq)
  · rcases List.mem_append.mp h with h | h
    · exact .inl h
    · exact .inr (List.mem_singleton.mp h)
theorem putL_new {l : List (κ × β)} {k : κ} (v : β) (h : k ∉ l.map (·.1)) : putL l k v = l ++ [(k, v)] := by
  unfold putL
  rw [if_neg fun z => h (hasL_iff.mp z)]
theorem getL_none {l : List (κ × β)} {k : κ} : getL l k = none ↔ k ∉ l.map (·.1) := by
  unfold getL
  rw [Option.map_eq_none_iff, List.find?_eq_none, List.mem_map]
  constructor
  · rintro h ⟨p, hp, e⟩
    exact h p hp (decide_eq_true e)
  · intro h p hp e
    exact h ⟨p, hp, of_decide_eq_true e⟩
theorem getL_of_mem {l : List (κ × β)} {k : κ} {v : β} (nd : (l.map (·.1)).Nodup) (h : (k, v) ∈ l) : getL l k = some v := by
  induction l with
  | nil => cases h
  | cons p r ih =>
    unfold getL
    rw [List.find?_cons]
    rcases List.mem_cons.mp h with e | e
    · subst e
      simp
    · have nk : p.1 ≠ k := fun z => (List.nodup_cons.mp nd).1 (List.mem_map.mpr ⟨(k, v), e, z.symm⟩)
      have q := ih (List.nodup_cons.mp nd).2 e
      unfold getL at q
      simp [nk, q]
theorem mem_of_getL {l : List (κ × β)} {k : κ} {v : β} (h : getL l k = some v) : (k, v) ∈ l := by
  unfold getL at h
  obtain ⟨p, hp, e⟩ := Option.map_eq_some_iff.mp h
  have h1 := List.mem_of_find?_eq_some hp
  have h2 := List.find?_some hp
  have h3 : p.1 = k := of_decide_eq_true h2
  subst e
  subst h3
  exact h1
theorem getL_put (l : List (κ × β)) (k j : κ) (v : β) : getL (putL l k v) j = if j = k then some v else getL l j := by
  unfold putL
  by_cases h : hasL l k = true
  · rw [if_pos h]
    have key : ∀ l : List (κ × β), getL (l.map fun p => if p.1 = k then (p.1, v) else p) j = if j = k then (if k ∈ l.map (·.1) then some v else none) else getL l j := by
      intro l
      induction l with
      | nil =>
        by_cases e : j = k
        · rw [if_pos e]
          rfl
        · rw [if_neg e]
          rfl
      | cons p r ih =>
        unfold getL at ih ⊢
        rw [List.map_cons, List.find?_cons, List.find?_cons]
        by_cases e : p.1 = k
        · rw [if_pos e]
          by_cases z : j = k
          · subst z
            simp [e]
          · have z1 : ¬ p.1 = j := fun y => z (y.symm.trans e)
            simp only [decide_eq_false z1]
            rw [ih, if_neg z, if_neg z]
        · rw [if_neg e]
          by_cases z : p.1 = j
          · have z2 : ¬ j = k := fun y => e (z.trans y)
            simp [z, z2]
          · simp only [decide_eq_false z]
            rw [ih]
            by_cases y : j = k
            · have e' : ¬ k = p.1 := fun q => e q.symm
              rw [if_pos y, if_pos y, List.map_cons]
              simp only [List.mem_cons, e', false_or]
            · rw [if_neg y, if_neg y]
    rw [key]
    by_cases e : j = k
    · rw [if_pos e, if_pos e, if_pos (hasL_iff.mp h)]
    · rw [if_neg e, if_neg e]
  · rw [if_neg h]
    have hk : k ∉ l.map (·.1) := fun z => h (hasL_iff.mpr z)
    by_cases e : j = k
    · subst e
      rw [if_pos rfl]
      have q := getL_none.mpr hk
      unfold getL at q ⊢
      rw [List.find?_append, Option.map_eq_none_iff.mp q]
      simp
    · rw [if_neg e]
      unfold getL
      rw [List.find?_append]
      have z : ¬ k = j := fun y => e y.symm
      simp [List.find?_cons, z]
end

/-! ### tables: ints to ints -/
abbrev Tab := List (Int × Int)
def kI (p : Int × Int) : Key × V := (Sum.inl p.1, .int p.2)
abbrev tab (l : Tab) : List (Key × V) := l.map kI
theorem tab_len (l : Tab) : (tab l).length = l.length := List.length_map ..
theorem any_tab (l : Tab) (k : Int) : ((tab l).any fun kv => decide (kv.1 = (Sum.inl k : Key))) = hasL l k := by
  unfold hasL tab
  rw [List.any_map]
  congr 1
  funext p
  show decide ((Sum.inl p.1 : Key) = Sum.inl k) = decide (p.1 = k)
  by_cases e : p.1 = k
  · rw [e]; simp
  · rw [decide_eq_false e, decide_eq_false fun z => e (Sum.inl.inj z)]
theorem putK_tab (l : Tab) (k v : Int) : putK (tab l) (Sum.inl k : Key) (.int v) = tab (putL l k v) := by
  unfold putK putL
  rw [any_tab]
  by_cases h : hasL l k = true
  · rw [if_pos h, if_pos h]
    unfold tab
    rw [List.map_map, List.map_map]
    refine List.map_congr_left fun p _ => ?_
    show (if (Sum.inl p.1 : Key) = Sum.inl k then ((Sum.inl p.1 : Key), V.int v) else (Sum.inl p.1, .int p.2)) = kI (if p.1 = k then (p.1, v) else p)
    by_cases e : p.1 = k
    · rw [if_pos e, if_pos (by rw [e])]
      rfl
    · rw [if_neg e, if_neg fun z => e (Sum.inl.inj z)]
      rfl
  · rw [if_neg h, if_neg h]
    unfold tab
    rw [List.map_append]
    rfl
theorem valV_tab (l : Tab) (k : Int) : valV (tab l) (Sum.inl k : Key) = (getL l k).map V.int := by
  unfold valV getL tab
  rw [List.find?_map]
  have e : ((fun kv : Key × V => decide (kv.1 = Sum.inl k)) ∘ kI) = fun p : Int × Int => decide (p.1 = k) := by
    funext p
    show decide ((Sum.inl p.1 : Key) = Sum.inl k) = decide (p.1 = k)
    by_cases e : p.1 = k
    · rw [e]; simp
    · rw [decide_eq_false e, decide_eq_false fun z => e (Sum.inl.inj z)]
  rw [e]
  cases l.find? _ with
  | none => rfl
  | some p => rfl
/-- an int of thirty digits at most -/
def Num (r : Int) : Prop := -(10 ^ 30) < r ∧ r < 10 ^ 30
/-- distinct keys, small numbers -/
structure TabOk (l : Tab) : Prop where
  nd : (l.map (·.1)).Nodup
  sm : ∀ p ∈ l, Num p.1 ∧ Num p.2
theorem TabOk.nil : TabOk [] := ⟨List.nodup_nil, fun _ h => nomatch h⟩
theorem TabOk.put {l : Tab} (h : TabOk l) {k v : Int} (hk : Num k) (hv : Num v) : TabOk (putL l k v) :=
  ⟨putL_nodup k v h.nd, fun p hp => by
    rcases putL_mem hp with q | q
    · exact h.sm p q
    · rw [q]; exact ⟨hk, hv⟩⟩
/-- at d stands a table -/
def TabAt (H : Hp) (d : Addr) (l : Tab) : Prop := H d = some (.dK (tab l))

/-! ### tables by names: name, address, table -/
abbrev Sheets := List (Str × Addr × Tab)
def kS (s : Str × Addr × Tab) : Key × V := (Sum.inr s.1, .ref s.2.1)
structure SheetsAt (H : Hp) (d : Addr) (sh : Sheets) : Prop where
  top : H d = some (.dK (sh.map kS))
  nd : (sh.map (·.1)).Nodup
  all : ∀ s ∈ sh, TabAt H s.2.1 s.2.2
theorem SheetsAt.ne {H : Hp} {d : Addr} {sh : Sheets} (S : SheetsAt H d sh) {s : Str × Addr × Tab} (hs : s ∈ sh) : s.2.1 ≠ d := fun z => by
  have h : H s.2.1 = some (.dK (tab s.2.2)) := S.all s hs
  rw [z, S.top] at h
  have e : sh.map kS = tab s.2.2 := HO.dK.inj (Option.some.inj h)
  cases sh with
  | nil => cases hs
  | cons a r =>
    cases hl : s.2.2 with
    | nil => rw [hl] at e; cases e
    | cons b q =>
      rw [hl] at e
      have e1 : kS a = kI b := (List.cons.inj e).1
      have e2 : (Sum.inr a.1 : Key) = Sum.inl b.1 := congrArg Prod.fst e1
      cases e2
theorem mergeK_nil : ∀ (l acc : List (Key × V)), (acc.map (·.1) ++ l.map (·.1)).Nodup → mergeK acc l = acc ++ l
  | [], acc, _ => by rw [List.append_nil]; rfl
  | p :: r, acc, h => by
    have hn : p.1 ∉ acc.map (·.1) := fun z => by
      have := (List.nodup_append.mp h).2.2 p.1 z p.1 (by simp)
      exact this rfl
    have e : putK acc p.1 p.2 = acc ++ [p] := by
      rw [putK_new]
      rw [show valV acc p.1 = getL acc p.1 from rfl]
      exact getL_none.mpr hn
    show mergeK (putK acc p.1 p.2) r = acc ++ p :: r
    rw [e, mergeK_nil r (acc ++ [p]) (by simpa using h)]
    simp
theorem mergeK_id {l : List (Key × V)} (h : (l.map (·.1)).Nodup) : mergeK [] l = l := by
  rw [mergeK_nil l [] (by simpa using h)]
  rfl
theorem inr_nodup : ∀ {l : List Str}, l.Nodup → (l.map (Sum.inr : Str → Key)).Nodup
  | [], _ => List.nodup_nil
  | x :: r, h => by
    rw [List.map_cons, List.nodup_cons]
    refine ⟨fun z => ?_, inr_nodup (List.nodup_cons.mp h).2⟩
    obtain ⟨y, hy, e⟩ := List.mem_map.mp z
    cases Sum.inr.inj e
    exact (List.nodup_cons.mp h).1 hy
theorem putK_sheet {es : Sheets} {nm : Str} {a : Addr} (t : Tab) (h : nm ∉ es.map (·.1)) : putK (es.map kS) (Sum.inr nm : Key) (.ref a) = (es ++ [(nm, a, t)]).map kS := by
  rw [putK_new, List.map_append]
  · rfl
  · rw [show valV (es.map kS) (Sum.inr nm : Key) = getL (es.map kS) (Sum.inr nm : Key) from rfl]
    refine getL_none.mpr fun z => ?_
    obtain ⟨p, hp, e⟩ := List.mem_map.mp z
    obtain ⟨s, hs, rfl⟩ := List.mem_map.mp hp
    exact h (List.mem_map.mpr ⟨s, hs, Sum.inr.inj e⟩)
theorem not_mem_take {α : Type} : ∀ {l : List α} {i : Nat} {x : α}, l.Nodup → l[i]? = some x → x ∉ l.take i
  | [], _, _, _, h => by simp at h
  | a :: l, 0, x, _, _ => by simp
  | a :: l, i + 1, x, nd, h => by
    rw [List.take_succ_cons, List.mem_cons]
    rintro (z | z)
    · subst z
      exact (List.nodup_cons.mp nd).1 (List.mem_of_getElem? (by simpa using h))
    · exact not_mem_take (List.nodup_cons.mp nd).2 (by simpa using h) z
theorem valV_sheets (sh : Sheets) (x : Str) : valV (sh.map kS) (Sum.inr x : Key) = ((sh.find? fun s => decide (s.1 = x)).map fun s => V.ref s.2.1) := by
  unfold valV
  rw [List.find?_map]
  have e : ((fun kv : Key × V => decide (kv.1 = Sum.inr x)) ∘ kS) = fun s : Str × Addr × Tab => decide (s.1 = x) := by
    funext p
    show decide ((Sum.inr p.1 : Key) = Sum.inr x) = decide (p.1 = x)
    by_cases e : p.1 = x
    · rw [e]; simp
    · rw [decide_eq_false e, decide_eq_false fun z => e (Sum.inr.inj z)]
  rw [e]
  cases sh.find? _ with
  | none => rfl
  | some p => rfl
/-- one to six letters from a to z -/
def nmB (x : Str) : Bool := decide (1 ≤ x.length) && decide (x.length ≤ 6) && x.cps.toList.all fun c => decide (97 ≤ c) && decide (c ≤ 122)
end PX
/-! A dict comprehension over anything that is walked; what is locked meanwhile. -/
namespace PX
open PySem PySem.Spec PyProof.Rows L2
section
variable {J : It} {n : Nat} {G : Hp → Prop} {Y : Nat → Hp → V → Hp → Prop}
theorem dc_it (w : Walk J n G Y) {g : TG} {tt : TT} {tk tv : TE} {vs : List Nat} {σ : L2.St} {H1 : Hp} {D : Addr} {Qd : Hp → Prop} (Pv : Nat → Hp → Prop) (h0 : Pv 0 (upd H1 D (.dK []))) (hG : ∀ i H, i ≤ n → Pv i H → G H)
    (hs : ∀ i x H H', i < n → Pv i H → Y i H x H' → g x (wipe σ vs) H' fun σ2 H2 => wipe σ2 vs = wipe σ vs ∧ tt σ2 H2 fun b H3 =>
      if b = true then tk σ2 H3 fun y H4 => tv σ2 H4 fun z H5 => ∃ kvs k, y = kV k ∧ H5 D = some (.dK kvs) ∧ kvs.length < sizeLine ∧ Pv (i + 1) (upd H5 D (.dK (putK kvs k z))) else Pv (i + 1) H3)
    (hd : ∀ H, Pv n H → Qd H) :
    ∃ W : Nat → Nat → Hp → Prop, (∃ m, W 0 m (upd H1 D (.dK []))) ∧ ∀ i m H, W i m H →
      (J.stop i H ∧ Qd H) ∨ (J.go i H ∧ ∃ Nx : Hp → Prop, (∀ H', Nx H' → ∃ m', m' < m ∧ W (i + 1) m' H') ∧ ∀ x H', J.yld i H x H' → g x (wipe σ vs) H' fun σ2 H2 => wipe σ2 vs = wipe σ vs ∧ tt σ2 H2 fun b H3 =>
        if b = true then tk σ2 H3 fun y H4 => tv σ2 H4 fun z H5 => ∃ kvs k, y = kV k ∧ H5 D = some (.dK kvs) ∧ kvs.length < sizeLine ∧ Nx (upd H5 D (.dK (putK kvs k z))) else Nx H3) := by
  refine ⟨fun i m H => m = n - i ∧ i ≤ n ∧ Pv i H, ⟨n, (Nat.sub_zero n).symm, Nat.zero_le _, h0⟩, ?_⟩
  rintro i m H ⟨hm, hi, p⟩
  subst hm
  have q := hG i H hi p
  cases Nat.lt_or_ge i n with
  | inl lt => exact .inr ⟨w.goes i H lt q, Pv (i + 1), (fun H' p' => ⟨n - (i + 1), by omega, rfl, lt, p'⟩), fun x H' y => hs i x H H' lt p (w.yields i H x H' lt q y)⟩
  | inr ge =>
    have e : i = n := Nat.le_antisymm hi ge
    subst e
    exact .inl ⟨w.stops H q, hd H p⟩
end
theorem getElem?_map2 {α β γ : Type} {f : α → β} {g : β → γ} {l : List α} {i : Nat} {y : γ} (h : (l.map f)[i]?.map g = some y) : ∃ x, l[i]? = some x ∧ y = g (f x) := by
  obtain ⟨z, h1, h2⟩ := Option.map_eq_some_iff.mp h
  obtain ⟨x, h3, h4⟩ := getElem?_map' h1
  exact ⟨x, h3, by rw [← h2, h4]⟩
/-- locked, the rest as it was -/
theorem Same.lock {H : Hp} {d : Addr} {u o : HO} {b : Addr} (h : H b = some u) (n : b ≠ d) : upd H d o b = some u := (upd_ne n).trans h
/-- a heap grown over a lock, unlocked -/
theorem Same.unlock {H H' : Hp} {d : Addr} {u w : HO} (hd : H d = some u) (s : Same (upd H d w) H') : Same H (upd H' d u) := fun b o e => by
  by_cases z : b = d
  · subst z
    rw [hd] at e
    cases e
    exact upd_same
  · rw [upd_ne z]
    exact s b o (by rw [upd_ne z]; exact e)
/-- a list or a tuple that is read -/
def Sq (K : PySem.W.Frag) (H : Hp) (q : Addr) (xs : List V) : Prop := SqL K H q xs ∨ SqT K H q xs
theorem Sq.move {K : PySem.W.Frag} {H H' : Hp} {q : Addr} {xs : List V} (h : Sq K H q xs) (m : ∀ o, (∀ kvs, o ≠ .dK kvs) → H q = some o → H' q = some o) : Sq K H' q xs := by
  rcases h with ((h | ⟨o, h⟩) | h) | ((h | ⟨o, h⟩) | h)
  · exact .inl (.inl (.inl (m _ (fun _ z => nomatch z) h)))
  · exact .inl (.inl (.inr ⟨o, m _ (fun _ z => nomatch z) h⟩))
  · exact .inl (.inr h)
  · exact .inr (.inl (.inl (m _ (fun _ z => nomatch z) h)))
  · exact .inr (.inl (.inr ⟨o, m _ (fun _ z => nomatch z) h⟩))
  · exact .inr (.inr h)
theorem Sq.same {K : PySem.W.Frag} {H H' : Hp} {q : Addr} {xs : List V} (h : Sq K H q xs) (s : Same H H') : Sq K H' q xs := h.move fun o _ e => s _ _ e
theorem Sq.lock {K : PySem.W.Frag} {H : Hp} {d q : Addr} {xs : List V} {kvs : List (Key × V)} {u : HO} (h : Sq K H q xs) (hd : H d = some (.dK kvs)) : Sq K (upd H d u) q xs := h.move fun o n e => by
  rw [upd_ne fun z => ?_]
  · exact e
  · rw [z, hd] at e
    exact n kvs (Option.some.inj e).symm
end PX
/-! How long the repr of data may be. -/
namespace PX
open PySem PySem.Spec PyProof.Rows L2
mutual
def costD : PyData → Nat
  | .none => 4
  | .bool _ => 5
  | .int _ => 2000
  | .str x => 10 * x.length + 2
  | .list xs => costL xs + 2
  | .tuple xs => costL xs + 3
  | .dict kvs => costK kvs + 2
def costL : List PyData → Nat
  | [] => 0
  | x :: xs => costD x + 2 + costL xs
def costK : List (PyData × PyData) → Nat
  | [] => 0
  | (k, v) :: r => costD k + costD v + 4 + costK r
end
mutual
/-- every text's signs are signs -/
def signsD : PyData → Bool
  | .str x => x.cps.toList.all fun c => decide (c < 16 ^ 8)
  | .list xs => signsL xs
  | .tuple xs => signsL xs
  | .dict kvs => signsK kvs
  | _ => true
def signsL : List PyData → Bool
  | [] => true
  | x :: xs => signsD x && signsL xs
def signsK : List (PyData × PyData) → Bool
  | [] => true
  | (k, v) :: r => signsD k && signsD v && signsK r
end
theorem join_le (ts : List Str) : (Str.join ", " ts).length ≤ piled ts := by
  by_cases h : ts = []
  · subst h
    exact Nat.le_refl _
  · have := join_length_add ts h
    omega
theorem textFrom_le : ∀ (ts : List Str) (k : Nat) (acc : Str), (textFrom k acc ts).length ≤ acc.length + piled ts
  | [], _, _ => Nat.le_refl _
  | t :: ts, k, acc => by
    have ih := textFrom_le ts (k + 1)
    rw [piled_cons]
    unfold textFrom
    by_cases h : k > 0
    · simp only [h, if_true]
      refine Nat.le_trans (ih _) ?_
      rw [strLen_append, strLen_append]
      have e : ((", " : String) : Str).length = 2 := rfl
      omega
    · simp only [h, if_false]
      refine Nat.le_trans (ih _) ?_
      have e : ((("" : String) : Str)).length = 0 := rfl
      simp only [strLen_append, e]
      omega
theorem listText_le (ts : List Str) : (listText ts).length ≤ piled ts + 2 := by
  unfold listText
  rw [strLen_append]
  have h := textFrom_le ts 0 "["
  have e1 : ((("[" : String) : Str)).length = 1 := rfl
  have e2 : ((("]" : String) : Str)).length = 1 := rfl
  omega
theorem tupleText_le (ts : List Str) : (tupleText ts).length ≤ piled ts + 3 := by
  unfold tupleText
  rw [strLen_append, strLen_append]
  have h := join_le ts
  have e1 : ((("(" : String) : Str)).length = 1 := rfl
  have e3 : (((if ts.length == 1 then ",)" else ")" : String) : Str)).length ≤ 2 := by split <;> decide +kernel
  omega
theorem dictText_le (ts : List Str) : (dictText ts).length ≤ piled ts + 2 := by
  unfold dictText
  rw [strLen_append, strLen_append]
  have h := join_le ts
  have e1 : ((("{" : String) : Str)).length = 1 := rfl
  have e2 : ((("}" : String) : Str)).length = 1 := rfl
  omega
mutual
theorem shown_le : ∀ d : PyData, d.showable = true → signsD d = true → d.shown.length ≤ costD d
  | .none, _, _ => by decide +kernel
  | .bool b, _, _ => by cases b <;> decide +kernel
  | .int i, h, _ => by
    have h2 : i.natAbs.log2 < 1920 := by simpa [PyData.showable] using h
    have := int_text_length_le (k := 1920) (by decide) h2
    simp only [PyData.shown, costD]
    rw [PySem.ofString_length]
    omega
  | .str x, _, h => by
    simp only [PyData.shown, costD]
    refine StrLaws.reprText_len x fun c hc => ?_
    simp only [signsD, List.all_eq_true] at h
    exact of_decide_eq_true (h c hc)
  | .list xs, h, g => by
    have q := shownL_le xs (by simpa [PyData.showable] using h) (by simpa [signsD] using g)
    simp only [PyData.shown, costD]
    have := listText_le (PyData.shownAll xs)
    omega
  | .tuple xs, h, g => by
    have q := shownL_le xs (by simpa [PyData.showable] using h) (by simpa [signsD] using g)
    simp only [PyData.shown, costD]
    have := tupleText_le (PyData.shownAll xs)
    omega
  | .dict kvs, h, g => by
    have q := shownK_le kvs (by simpa [PyData.showable] using h) (by simpa [signsD] using g)
    simp only [PyData.shown, costD]
    have := dictText_le (PyData.shownKv kvs)
    omega
theorem shownL_le : ∀ ds : List PyData, PyData.showableAll ds = true → signsL ds = true → piled (PyData.shownAll ds) ≤ costL ds
  | [], _, _ => Nat.le_refl _
  | d :: ds, h, g => by
    simp only [PyData.showableAll, Bool.and_eq_true] at h
    simp only [signsL, Bool.and_eq_true] at g
    have h1 := shown_le d h.1 g.1
    have h2 := shownL_le ds h.2 g.2
    simp only [PyData.shownAll, costL]
    rw [piled_cons]
    omega
theorem shownK_le : ∀ ds : List (PyData × PyData), PyData.showableKv ds = true → signsK ds = true → piled (PyData.shownKv ds) ≤ costK ds
  | [], _, _ => Nat.le_refl _
  | (k, v) :: ds, h, g => by
    simp only [PyData.showableKv, Bool.and_eq_true] at h
    simp only [signsK, Bool.and_eq_true] at g
    have h1 := shown_le k h.1.1 g.1.1
    have h2 := shown_le v h.1.2 g.1.2
    have h3 := shownK_le ds h.2 g.2
    simp only [PyData.shownKv, costK]
    rw [piled_cons, strLen_append, strLen_append]
    have e : (((": " : String) : Str)).length = 2 := rfl
    omega
end
theorem sqL_same {K : PySem.W.Frag} {H H' : Hp} {a : Addr} {xs : List V} (s : Same H H') (h : SqL K H a xs) : SqL K H' a xs := s.seq h
theorem sqT_same {K : PySem.W.Frag} {H H' : Hp} {a : Addr} {xs : List V} (s : Same H H') (h : SqT K H a xs) : SqT K H' a xs := by
  rcases h with (h | ⟨o, h⟩) | h
  · exact .inl (.inl (s _ _ h))
  · exact .inl (.inr ⟨o, s _ _ h⟩)
  · exact .inr h
mutual
theorem dp_same {K : PySem.W.Frag} {H H' : Hp} (s : Same H H') : ∀ (d : PyData) (v : V), Dp K H v d → Dp K H' v d
  | .none, _, h => by cases h; exact .non
  | .bool b, _, h => by cases h; exact .bl b
  | .int i, _, h => by cases h; exact .int i
  | .str x, _, h => by cases h; exact .str x
  | .list ds, _, h => by
    cases h with
    | lst h1 h2 => exact .lst (sqL_same s h1) (dps_same s ds _ h2)
  | .tuple ds, _, h => by
    cases h with
    | tup h1 h2 => exact .tup (sqT_same s h1) (dps_same s ds _ h2)
  | .dict _, _, h => by cases h
theorem dps_same {K : PySem.W.Frag} {H H' : Hp} (s : Same H H') : ∀ (ds : List PyData) (vs : List V), DpAll K H vs ds → DpAll K H' vs ds
  | [], _, h => by cases h; exact .nil
  | d :: ds, _, h => by
    cases h with
    | cons h1 h2 => exact .cons (dp_same s d _ h1) (dps_same s ds _ h2)
end
theorem dps_append {K : PySem.W.Frag} {H : Hp} : ∀ {vs : List V} {ds : List PyData} {us : List V} {es : List PyData}, DpAll K H vs ds → DpAll K H us es → DpAll K H (vs ++ us) (ds ++ es)
  | _, _, _, _, .nil, h => h
  | _, _, _, _, .cons a b, h => .cons a (dps_append b h)
theorem dps_map {K : PySem.W.Frag} {H : Hp} {α : Type} (f : α → V) (g : α → PyData) : ∀ l : List α, (∀ x ∈ l, Dp K H (f x) (g x)) → DpAll K H (l.map f) (l.map g)
  | [], _ => .nil
  | x :: r, h => .cons (h x List.mem_cons_self) (dps_map f g r fun y hy => h y (List.mem_cons_of_mem _ hy))
theorem dps_of_paired {K : PySem.W.Frag} {H : Hp} {α β : Type} {F : α → β → Prop} (f : α → V) (g : β → PyData) (h : ∀ x y, F x y → Dp K H (f x) (g y)) : ∀ {l : List α} {r : List β}, Paired F l r → DpAll K H (l.map f) (r.map g)
  | _, _, .nil => .nil
  | _, _, .cons a b => .cons (h _ _ a) (dps_of_paired f g h b)
theorem dps_len {K : PySem.W.Frag} {H : Hp} : ∀ {vs : List V} {ds : List PyData}, DpAll K H vs ds → vs.length = ds.length
  | _, _, .nil => rfl
  | _, _, .cons _ b => congrArg (· + 1) (dps_len b)
/-- the heap without D -/
def hid (D : Addr) (H : Hp) : Hp := fun a => if a = D then none else H a
theorem hid_at {D a : Addr} {H : Hp} (n : a ≠ D) : hid D H a = H a := if_neg n
theorem hid_le (D : Addr) (H : Hp) : Same (hid D H) H := fun b o e => by
  unfold hid at e
  by_cases z : b = D
  · rw [if_pos z] at e; cases e
  · rw [if_neg z] at e; exact e
theorem hid_upd (D : Addr) (H : Hp) (o : HO) : hid D (upd H D o) = hid D H := by
  funext b
  unfold hid
  by_cases z : b = D
  · rw [if_pos z, if_pos z]
  · rw [if_neg z, if_neg z, upd_ne z]
theorem hid_same {D : Addr} {H H' : Hp} (s : Same H H') : Same (hid D H) (hid D H') := fun b o e => by
  unfold hid at e ⊢
  by_cases z : b = D
  · rw [if_pos z] at e; cases e
  · rw [if_neg z] at e ⊢; exact s b o e
theorem hid_gr {p D : Addr} {H H' : Hp} {o : HO} (hp : H D = none) (g : Same H H') : Same H (hid D H') := fun b u e => by
  rw [hid_at (ne_of_none e hp)]
  exact g b u e
/-! ### data made of a list -/
theorem showable_map {α : Type} (f : α → PyData) : ∀ l : List α, (∀ x ∈ l, (f x).showable = true) → PyData.showableAll (l.map f) = true
  | [], _ => rfl
  | x :: r, h => by
    rw [List.map_cons]
    simp only [PyData.showableAll, Bool.and_eq_true]
    exact ⟨h x List.mem_cons_self, showable_map f r fun y hy => h y (List.mem_cons_of_mem _ hy)⟩
theorem nodict_map {α : Type} (f : α → PyData) : ∀ l : List α, (∀ x ∈ l, (f x).hasDict = false) → PyData.hasDictAll (l.map f) = false
  | [], _ => rfl
  | x :: r, h => by
    rw [List.map_cons]
    simp only [PyData.hasDictAll, Bool.or_eq_false_iff]
    exact ⟨h x List.mem_cons_self, nodict_map f r fun y hy => h y (List.mem_cons_of_mem _ hy)⟩
theorem signs_map {α : Type} (f : α → PyData) : ∀ l : List α, (∀ x ∈ l, signsD (f x) = true) → signsL (l.map f) = true
  | [], _ => rfl
  | x :: r, h => by
    rw [List.map_cons]
    simp only [signsL, Bool.and_eq_true]
    exact ⟨h x List.mem_cons_self, signs_map f r fun y hy => h y (List.mem_cons_of_mem _ hy)⟩
theorem cost_map {α : Type} (f : α → PyData) (c : Nat) : ∀ l : List α, (∀ x ∈ l, costD (f x) ≤ c) → costL (l.map f) ≤ l.length * (c + 2)
  | [], _ => Nat.zero_le _
  | x :: r, h => by
    rw [List.map_cons, List.length_cons, Nat.add_mul]
    have h1 := h x List.mem_cons_self
    have h2 := cost_map f c r fun y hy => h y (List.mem_cons_of_mem _ hy)
    simp only [costL]
    omega
theorem depth_map {α : Type} (f : α → PyData) (c : Nat) : ∀ l : List α, (∀ x ∈ l, (f x).depth ≤ c) → PyData.depthAll (l.map f) ≤ c
  | [], _ => Nat.zero_le _
  | x :: r, h => by
    rw [List.map_cons]
    have h1 := h x List.mem_cons_self
    have h2 := depth_map f c r fun y hy => h y (List.mem_cons_of_mem _ hy)
    simp only [PyData.depthAll]
    omega
/-- repr(x): what is asked, in short -/
theorem repr_q {K : PySem.W.Frag} {a : Addr} {d : PyData} {H : Hp} {Q : VK} (h : Dp K H (.ref a) d) (hs : d.showable = true) (hn : d.hasDict = false) (hp : d.depth ≤ 60) (hg : signsD d = true) (hc : costD d ≤ 16000000) (q : Q (.str d.shown) H) : rRepr K [.ref a] H Q :=
  ⟨a, d, rfl, h, hs, hn, hp, by
    have := shown_le d hs hg
    rw [sizeLine_eq]
    omega, q⟩
end PX
/-! Small parts of a heap; heaps that grow but for one object; lists of ints as data. -/
namespace PX
open PySem PySem.Spec PyProof.Rows L2
theorem nsub_new {N H : Hp} {t : Addr} {o : HO} (s : Same N H) : Same (upd N t o) (upd H t o) := fun b u e => by
  by_cases z : b = t
  · subst z
    rw [upd_same] at e ⊢
    exact e
  · rw [upd_ne z] at e ⊢
    exact s b u e
theorem nsub_add {N H : Hp} {t : Addr} {o : HO} (s : Same N H) (h : H t = some o) : Same (upd N t o) H := fun b u e => by
  by_cases z : b = t
  · subst z
    rw [upd_same] at e
    rw [h]
    exact e
  · rw [upd_ne z] at e
    exact s b u e
theorem Gr.putq {q : Addr} {H H' : Hp} {o : HO} (g : Gr q H H') : Gr q H (upd H' q o) := fun b u n e => by
  rw [upd_ne n]
  exact g b u n e
theorem Gr.unlock {H H' : Hp} {d q : Addr} {u w : HO} (hd : H d = some u) (s : Gr q (upd H d w) H') : Gr q H (upd H' d u) := fun b o n e => by
  by_cases z : b = d
  · subst z
    rw [hd] at e
    cases e
    exact upd_same
  · rw [upd_ne z]
    exact s b o n (by rw [upd_ne z]; exact e)
theorem Gr.all {p : Addr} {H H' : Hp} (g : Gr p H H') (h : H p = none) : Same H H' := fun q o e => g q o (ne_of_none e h) e
theorem Gr.from {p : Addr} {H0 H H' : Hp} (s : Same H0 H) (g : Gr p H H') (h : H0 p = none) : Same H0 H' := fun q o e => g q o (ne_of_none e h) (s q o e)
theorem sheets_same {H H' : Hp} {d : Addr} {sh : Sheets} (S : SheetsAt H d sh) (s : Same H H') : SheetsAt H' d sh := ⟨s _ _ S.top, S.nd, fun x hx => s _ _ (S.all x hx)⟩
/-- an object that is no list there -/
theorem ne_lst {H : Hp} {a b : Addr} {kvs : List (Key × V)} {xs : List V} (h : H a = some (.dK kvs)) (g : H b = some (.lst xs)) : a ≠ b := fun z => by
  rw [z, g] at h
  cases h
theorem ne_frz {H : Hp} {a b : Addr} {o : Obj} {u : HO} {xs : List V} (h : H a = some (.frz o u)) (g : H b = some (.lst xs)) : a ≠ b := fun z => by
  rw [z, g] at h
  cases h
theorem none_of {N H : Hp} {b : Addr} {u : HO} (h : ∀ b, N b ≠ none → H b = none) (e : H b = some u) : N b = none := by
  cases q : N b with
  | none => rfl
  | some v =>
    have := h b (by rw [q]; exact fun z => nomatch z)
    rw [e] at this
    cases this
theorem repr_z {d : PyData} (hs : d.showable = true) (hg : signsD d = true) (hc : costD d ≤ 16000000) : d.shown.length ≤ sizeLine := by
  have := shown_le d hs hg
  rw [sizeLine_eq]
  omega
/-! ### lists of ints as data -/
def intsD (ks : List Int) : PyData := .list (ks.map .int)
theorem ints_dp {K : PySem.W.Frag} {H : Hp} {a : Addr} {ks : List Int} (h : SqL K H a (ks.map V.int)) : Dp K H (.ref a) (intsD ks) := .lst h (dps_map V.int PyData.int ks fun k _ => .int k)
theorem ints_eqvAll : ∀ ks : List Int, PyData.eqvAll (ks.map .int) (ks.map .int) = true
  | [] => rfl
  | k :: r => by
    rw [List.map_cons, PyData.eqvAll, ints_eqvAll r]
    simp [PyData.eqv]
theorem ints_eqv (ks : List Int) : PyData.eqv (intsD ks) (intsD ks) = true := by
  unfold intsD
  rw [PyData.eqv]
  exact ints_eqvAll ks
theorem ints_layAll : ∀ ks : List Int, PyData.canLayAll0 (ks.map .int) = true
  | [] => rfl
  | k :: r => by
    rw [List.map_cons, PyData.canLayAll0, ints_layAll r]
    simp [PyData.canLay0]
theorem ints_shaped (ks : List Int) : SeqAt.shaped (intsD ks) = true := by
  unfold SeqAt.shaped
  rw [Bool.and_eq_true]
  refine ⟨?_, ?_⟩
  · unfold intsD
    rw [PyData.canLay0]
    exact ints_layAll ks
  · have := depth_map PyData.int 0 ks fun k _ => Nat.le_refl _
    refine decide_eq_true ?_
    show PyData.depthAll _ + 1 ≤ 64
    omega
end PX
/-! Rules that the class Rule needs: match by texts, slices that are set, fields set side by side. -/
namespace PX
open PySem PySem.Spec PyProof.Rows L2
/-! ### match, each case a value -/
structure PMs (X : Cx) (cs : List MatchCase) (t : V → TS) : Prop where
  run : ∀ (first : Bool) (pins : List (Addr × Obj)) (s : Shared) (σ : L2.St) (H : Hp) (D : Ends) (x : V) (v : Value), RelV x v → Inv X pins σ H s → t x D σ H → wpAny (model X.prog X.w) X.A (matchCases cs X.env v first) (SP X pins D) X.xe s
def mNil : V → TS := fun _ D σ H => D.nx σ H
def mCase (te : TE) (t : TS) (r : V → TS) : V → TS := fun x D σ H => te σ H fun y H1 => rEq x y H1 fun b H2 => ∃ c, b = .bl c ∧ if c = true then t D σ H2 else r x D σ H2
def tMatch (te : TE) (t : V → TS) : TS := fun D σ H => te σ H fun x H1 => t x D σ H1
section
variable {X : Cx}
theorem pm_nil : PMs X [] mNil := ⟨fun _ pins s σ H D x v _ I h => wpAny_matchCases_nil ⟨σ, H, I, h⟩⟩
theorem pm_case {e : Expr} {te : TE} {pos : Pos} {body : List Stmt} {rest : List MatchCase} {t : TS} {r : V → TS} (he : PE X e te) (ht : PSs X body t) (hr : PMs X rest r) : PMs X (⟨.MatchValue e pos, none, body⟩ :: rest) (mCase te t r) := by
  refine ⟨fun first pins s σ H D x v rx I h => wpAny_matchCases_cons (wpAny_matchPattern_Value ?_)⟩
  refine thn (he.run pins s σ H _ I h) fun u s1 ⟨y, H1, I1, ry, q1⟩ => ?_
  refine thn (op_eq pins s1 σ H1 x y v u _ I1 rx ry q1) fun c s2 ⟨z, H2, I2, rz, k, ez, q2⟩ => ?_
  subst ez
  cases rz
  refine wpAny_truthy_bool ?_
  cases k with
  | true => exact wpAny_assignInOrder_none (ht.run pins s2 σ H2 D I2 q2)
  | false => exact hr.run false pins s2 σ H2 D x v rx I2 q2
theorem ps_match {e : Expr} {te : TE} {cs : List MatchCase} {pos : Pos} {t : V → TS} (he : PE X e te) (h : PMs X cs t) : PS X (.Match e cs pos) (tMatch te t) := by
  refine ⟨fun pins s σ H D I hw => wpAny_Match ?_⟩
  exact thn (he.run pins s σ H _ I hw) fun v s1 ⟨x, H1, I1, rx, q1⟩ => h.run true pins s1 σ H1 D x v rx I1 q1
end

/-! ### a field as a target -/
def gFld (K : PySem.W.Frag) (ta : TE) (f : Str) : TG := fun v σ H Q => ta σ H fun x H1 => ∃ a C dx fs, x = .ref a ∧ H1 a = some (.ins C dx fs) ∧ Cls K C ∧ NoAttr K C f ∧ fs.length < 1000 ∧ Q σ (upd H1 a (.ins C dx (putF f v fs)))
section
variable {X : Cx}
theorem pg_fld {o : Expr} {f : Str} {pos : Pos} {ta : TE} (ho : PE X o ta) : PG X (.Attribute o f pos) (gFld X.K ta f) := by
  refine ⟨fun pins s σ H v u Q I r h => ?_⟩
  rw [assign_Attribute]
  refine wpAny_bind (wpAny_holding (thn (ho.run pins s σ H _ I h) fun ov s1 got => ?_))
  obtain ⟨x, H1, I1, rx, a, C, dx, fs, rfl, hins, hcl, hno, hfew, q⟩ := got
  obtain rfl : ov = Value.ref a := rx
  refine wpAny_bind (wpAny_standAt (wpAny_bind (wpAny_holding ?_)))
  exact setattr_ok I1 hins hcl hno hfew r fun s2 I2 => wpAny_release ⟨σ, _, I2, q⟩
end

/-! ### xs[a:] = ys -/
theorem bounds_open {a n : Nat} (h : a ≤ n) : sliceBounds (some (a : Int)) none none n = ((a : Int), (n : Int), 1) := by
  unfold sliceBounds
  have z : ¬ (a : Int) < 0 := by omega
  simp only [Option.getD_none, z, if_false, show (1 : Int) > 0 from by decide, if_true]
  rw [Int.min_eq_left (by omega), Int.max_eq_right (by omega)]
section
variable {prog : Program} {w : World} {A : Around} {E : Value → Shared → Prop} {s : Shared}
theorem setItem_open {l b sl : Addr} {old new : Array Value} {n n2 : Nat} {vl : Value} {a : Nat} {Q : Unit → Shared → Prop}
    (atL : s.heap.get? l = some { cls := .type "list", data := .seq old n }) (atB : s.heap.get? b = some { cls := .type "list", data := .seq new n2 }) (apart : l ≠ b)
    (atS : s.heap.IsSliceOf sl vl .none .none) (lowIs : IsPart vl (some (a : Int))) (low : a ≤ old.size) (few : old.size + new.size ≤ sizeLine)
    (h : Q () { s with heap := s.heap.update l (Obj.mapSeq fun xs => xs.extract 0 a ++ new ++ xs.extract old.size xs.size) }) :
    wpAny (model prog w) A (setItem (.ref l) (.ref sl) (.ref b)) Q E s := by
  have isL := PySem.IsL.isList atL
  have isB := PySem.IsL.isList atB
  obtain ⟨os, sAt, sCls, sData⟩ := id atS
  have sTy : s.TypeIs (.ref sl) "slice" := ⟨os, sAt, sCls⟩
  have other : Builtin.List.listSameRef (.ref l) (.ref b) = false := by
    show (l == b) = false
    exact beq_eq_false_iff_ne.mpr apart
  have hi : (max (a : Int) (old.size : Int)).toNat = old.size := by omega
  have few2 : ((fun xs : Array Value => xs.extract 0 a ++ new ++ xs.extract old.size xs.size) old).size ≤ sizeLine + 1 := by
    dsimp only
    rw [Array.size_append, Array.size_append, Array.size_extract, Array.size_extract]
    omega
  unfold setItem
  refine wpAny_holding (wpAny_bind (wpAny_sequenceKey isL.typeIs (by decide) ?_))
  refine wpAny_bind (wpAny_callSpecial?_slot (name := Str.ofString "__setitem__") isL.typeIs slot_list_setitem (wpAny_call_entry slot_list_setitem isL.typeIs entry_list_setitem ?_ (args_list_setitem _ _ _)))
  show wpAny _ _ (Builtin.List.listSubscript? (.ref sl) >>= _) _ _ s
  unfold Builtin.List.listSubscript?
  refine wpAny_bind (wpAny_bind (wpAny_specialOf sTy slice_no_index ?_))
  rw [if_pos (show (Option.none : Option Value).isNone = true from rfl)]
  refine wpAny_pure ?_
  show wpAny _ _ (typeOf (.ref sl) >>= _) _ _ s
  refine wpAny_bind (wpAny_typeOf sTy ?_)
  rw [if_neg (show ¬ ((Value.type "slice" != Value.type "slice") = true) by decide), listSliceParts_eq]
  refine wpAny_bind (wpAny_bind (wpAny_field sAt sData (x := .none) rfl (wpAny_bind (wpAny_listPart (k := Option.none) .none ?_))))
  rw [if_neg (show ¬ ((rawPart Option.none == rawInt 0) = true) from Bool.false_ne_true)]
  refine wpAny_bind (wpAny_field sAt sData (x := vl) rfl (wpAny_bind (wpAny_listPart lowIs ?_)))
  refine wpAny_bind (wpAny_field sAt sData (x := .none) rfl (wpAny_bind (wpAny_listPart (k := Option.none) .none (wpAny_pure ?_))))
  dsimp only
  rw [if_neg (show ¬ (Builtin.List.listSameRef (.ref l) (.ref b) = true) by rw [other]; exact Bool.false_ne_true)]
  unfold Builtin.List.listAllItems
  refine wpAny_bind (wpAny_bind (wpAny_typeOf isB.typeIs ?_))
  rw [if_pos (show (Value.type "list" == Value.type "list" || Value.type "list" == Value.type "tuple") = true by decide)]
  unfold Builtin.List.listItems
  refine wpAny_bind (wpAny_seqItems atB rfl (wpAny_pure ?_))
  refine wpAny_bind (wpAny_bind (wpAny_seqItems atL rfl (wpAny_pure ?_)))
  have cutAt : sliceIndices (rawPart (some (a : Int))) (rawPart Option.none) (rawPart Option.none) old.size = pure ((a : Int), (old.size : Int), 1) := by
    rw [sliceIndices_raw _ _ _ _ (by simp), bounds_open low]
  refine wpAny_bind (wpAny_of_eq cutAt ?_)
  show wpAny _ _ (if ((1 : Int) == 1) = true then _ else _) _ _ s
  rw [if_pos (show ((1 : Int) == 1) = true by decide)]
  refine wpAny_bind (wpAny_rule ?_)
  rw [if_neg (show ¬ (Builtin.List.listTooLong (old.size + new.size) = true) by rw [notLongL few]; exact Bool.false_ne_true)]
  show wpAny _ _ (updateSeq l (fun xs => xs.extract 0 ((a : Int)).toNat ++ new ++ xs.extract (max (a : Int) (old.size : Int)).toNat xs.size) >>= _) _ _ s
  rw [hi, Int.toNat_natCast]
  refine wpAny_bind (wpAny_updateSeq (hz := Nat.le_trans (Nat.le_add_right _ _) few) (_hz' := few2) atL rfl (wpAny_bind (wpAny_letGo ?_)))
  exact wpAny_pure ⟨.none, rfl, wpAny_pure h⟩
end
section
variable {X : Cx}
/-- at the value level: sl is the slice object that was just made -/
theorem set_open {pins : List (Addr × Obj)} {s : Shared} {σ : L2.St} {H : Hp} {l b sl : Addr} {xs ys : List V} {a : Int} {vl : Value} {Q : Unit → Shared → Prop} (I : Inv X pins σ H s) (atL : H l = some (.lst xs)) (atB : H b = some (.lst ys)) (apart : l ≠ b)
    (atS : s.heap.IsSliceOf sl vl .none .none) (ra : RelV (.int a) vl) (h0 : 0 ≤ a) (low : a ≤ xs.length) (few : xs.length + ys.length ≤ sizeLine)
    (h : ∀ s', Inv X pins σ (upd H l (.lst (xs.take a.toNat ++ ys))) s' → Q () s') : wpAny (model X.prog X.w) X.A (setItem (.ref l) (.ref sl) (.ref b)) Q X.xe s := by
  obtain ⟨ta, rfl⟩ := ra
  obtain ⟨z, us, n, r, lu, e⟩ := I.lstM atL
  obtain ⟨z2, ws, n2, r2, lw, e2⟩ := I.lstM atB
  obtain ⟨k, rfl⟩ := Int.eq_ofNat_of_zero_le h0
  rw [Int.toNat_natCast] at h
  refine setItem_open (a := k) e e2 apart atS (.int _ _) (by rw [List.size_toArray]; omega) (by rw [List.size_toArray, List.size_toArray]; omega) (h _ ?_)
  refine I.lset (its' := us.take k ++ ws) (t' := s.toks) atL e ?_ ((r.take _).append r2) ?_
  · have q : us.toArray.extract us.toArray.size us.toArray.size = #[] := by simp
    simp
  · rw [List.length_append, List.length_take]
    omega
end
def sOpen (to tl tv : TE) : TS := fun D σ H => tv σ H fun y H1 => to σ H1 fun x H2 => tl σ H2 fun i H3 => ∃ (l b : Addr) (xs ys : List V) (a : Int), x = .ref l ∧ y = .ref b ∧ i = .int a ∧ H3 l = some (.lst xs) ∧ H3 b = some (.lst ys) ∧ l ≠ b ∧ 0 ≤ a ∧ a ≤ xs.length ∧
  xs.length + ys.length ≤ sizeLine ∧ D.nx σ (upd H3 l (.lst (xs.take a.toNat ++ ys)))
section
variable {X : Cx}
theorem ps_open {o lo value : Expr} {to tl tv : TE} {p p' pos : Pos} (ho : PE X o to) (hl : PE X lo tl) (hv : PE X value tv) (hs : swapsWith value (some (.Subscript o (.Slice (some lo) none none p) p')) pos.line X.env = pure false) :
    PS X (.Assign [.Subscript o (.Slice (some lo) none none p) p'] value pos) (sOpen to tl tv) := by
  refine ⟨fun pins s σ H D I h => wpAny_Assign_Subscript (thn (hv.run pins s σ H _ I h) fun u s1 ⟨y, H1, I1, ry, q1⟩ => thn (ho.run pins s1 σ H1 _ I1 q1) fun ov s2 ⟨x, H2, I2, rx, q2⟩ => wpAny_Slice ?_) hs⟩
  rw [evalPart_some]
  refine thn (hl.run pins s2 σ H2 _ I2 q2) fun iv s3 ⟨i, H3, I3, ri, l, b, xs, ys, a, ex, ey, ei, atL, atB, apart, h0, low, few, q3⟩ => ?_
  subst ex ey ei
  obtain rfl : ov = Value.ref l := rx
  obtain rfl : u = Value.ref b := ry
  rw [evalPart_none]
  refine wpAny_pure (wpAny_pure ?_)
  have I4 : Inv X pins σ H3 { s3 with heap := s3.heap.push { cls := .type "slice", data := .fields #[iv, .none, .none] } } := I3.kept (t' := s3.toks) fun c o e => Heap.get?_push_of_some _ e
  exact set_open I4 atL atB apart (Heap.IsSliceOf.new ..) ri h0 low few fun s5 I5 => ⟨σ, _, I5, q3⟩
end
end PX
/-! Sets of texts that can be walked; sorted of one; a set comprehension with two sources. -/
namespace PX
open PySem PySem.Spec PyProof.Rows L2
section
variable {κ : Type} [DecidableEq κ] {P : Program} {w : World}
/-- what lies in a set: rows of keys of one kind, no key twice, a table that rises -/
structure Lot (knd : PySem.KeyKind P w κ) (S : κ → Bool) (es : Array (Int × Value)) (t : SetTable) : Prop where
  el : ElemsOf knd es.toList
  dis : es.toList.Pairwise fun e f => ∀ k, knd.is k e.2 = true → knd.is k f.2 = true → False
  mem : ∀ k, S k = true ↔ ∃ e ∈ es.toList, knd.is k e.2 = true
  few : es.size < scanBound
  fit : t.fits es.size = true
  ris : Ris t.place.toList
  led : w.params.followText "set-order" = true ∨ t.led = true
variable {knd : PySem.KeyKind P w κ} {S S' : κ → Bool} {es es' : Array (Int × Value)} {t t' : SetTable}
theorem dis_perm {l m : List (Int × Value)} (p : l.Perm m) : (l.Pairwise fun e f => ∀ k, knd.is k e.2 = true → knd.is k f.2 = true → False) ↔ m.Pairwise fun e f => ∀ k, knd.is k e.2 = true → knd.is k f.2 = true → False :=
  p.pairwise_iff fun h k a b => h k b a
/-- the same rows in another order, another table -/
theorem Lot.re (L : Lot knd S es t) (p : es'.toList.Perm es.toList) (fit : t'.fits es'.size = true) (ris : Ris t'.place.toList) (led : t'.led = t.led) : Lot knd S es' t' where
  el := fun e he => L.el e (p.mem_iff.mp he)
  dis := (dis_perm p).mpr L.dis
  mem := fun k => (L.mem k).trans ⟨fun ⟨e, he, q⟩ => ⟨e, p.mem_iff.mpr he, q⟩, fun ⟨e, he, q⟩ => ⟨e, p.mem_iff.mp he, q⟩⟩
  few := by
    have := p.length_eq
    rw [Array.length_toList, Array.length_toList] at this
    rw [this]
    exact L.few
  fit := fit
  ris := ris
  led := L.led.imp id fun z => led.trans z
/-- one row more -/
theorem Lot.more (L : Lot knd S es t) {k : κ} {x : Value} (hk : knd.is k x = true) (hx : x.scannable = true) (new : S k = false) (room : es.size + 1 < scanBound) (p : es'.toList.Perm (es.toList ++ [(knd.hash k, x)])) (fit : t'.fits es'.size = true) (ris : Ris t'.place.toList)
    (led : t'.led = t.led) : Lot knd (fun j => S j || decide (j = k)) es' t' where
  el := fun e he => by
    rcases List.mem_append.mp (p.mem_iff.mp he) with z | z
    · exact L.el e z
    · cases List.mem_singleton.mp z
      exact ⟨⟨k, hk, rfl⟩, hx⟩
  dis := by
    refine (dis_perm p).mpr (List.pairwise_append.mpr ⟨L.dis, List.pairwise_singleton _ _, fun e he f hf j a b => ?_⟩)
    cases List.mem_singleton.mp hf
    have e2 : j = k := by
      have := KeyKind.is_eq_decide hk j
      rw [b] at this
      exact of_decide_eq_true this.symm
    subst e2
    have := (L.mem j).mpr ⟨e, he, a⟩
    rw [new] at this
    cases this
  mem := fun j => by
    rw [Bool.or_eq_true, decide_eq_true_eq, L.mem j]
    constructor
    · rintro (⟨e, he, q⟩ | z)
      · exact ⟨e, p.mem_iff.mpr (List.mem_append_left _ he), q⟩
      · subst z
        exact ⟨_, p.mem_iff.mpr (List.mem_append_right _ (List.mem_singleton.mpr rfl)), hk⟩
    · rintro ⟨e, he, q⟩
      rcases List.mem_append.mp (p.mem_iff.mp he) with z | z
      · exact .inl ⟨e, z, q⟩
      · cases List.mem_singleton.mp z
        have := KeyKind.is_eq_decide hk j
        rw [q] at this
        exact .inr (of_decide_eq_true this.symm)
  few := by
    have := p.length_eq
    rw [Array.length_toList, List.length_append, Array.length_toList] at this
    rw [this]
    exact room
  fit := fit
  ris := ris
  led := L.led.imp id fun z => led.trans z
/-- at a stands the set S of n keys -/
def SetG (knd : PySem.KeyKind P w κ) (h : Heap) (a : Addr) (S : κ → Bool) (n : Nat) : Prop := ∃ o es ep t, h.get? a = some o ∧ o.ExactSet ∧ o.data = .set es ep t ∧ Lot knd S es t ∧ es.size = n
theorem SetG.setOf {h : Heap} {a : Addr} {n : Nat} (R : SetG knd h a S n) : h.SetOf knd a S n := by
  obtain ⟨o, es, ep, t, ho, hex, hd, L, hn⟩ := R
  exact ⟨o, es, ep, t, ho, hex, hd, L.el, L.mem, L.few, L.fit, hn⟩
theorem SetG.keep {h h' : Heap} {a : Addr} {n : Nat} (R : SetG knd h a S n) (k : ∀ o, h.get? a = some o → h'.get? a = some o) : SetG knd h' a S n := by
  obtain ⟨o, es, ep, t, ho, r⟩ := R
  exact ⟨o, es, ep, t, k o ho, r⟩
end
section
variable {κ : Type} [DecidableEq κ] {P : Program} {w : World} {knd : PySem.KeyKind P w κ} {A : Around} {E : Value → Shared → Prop} {s : Shared} {a : Addr} {S : κ → Bool}
theorem put_at {h : Heap} {o : Obj} {es es' : Array (Int × Value)} {ep : Nat} {t t' : SetTable} (ho : h.get? a = some o) (hd : o.data = .set es ep t) : (h.update a (Obj.putSet es' t')).get? a = some { o with data := .set es' (ep + 1) t' } := by
  have e := putSet_of es' t' hd
  have q := Heap.get?_update_self (Obj.putSet es' t') ho (by rw [e] <;> rfl)
  rw [e] at q
  exact q
theorem setG_tail {g : Bool → Sem Unit} (quiet : ∀ (b : Bool) (s₁ : Shared) (F : Unit → Shared → Prop), F () s₁ → wpAny (model P w) A (g b) F E s₁) {o : Obj} {es es1 : Array (Int × Value)} {ep : Nat} {t t1 : SetTable} (ho : s.heap.get? a = some o) (hex : o.ExactSet)
    (hd : o.data = .set es ep t) (L : Lot knd S es1 t1) {was : Bool} {F : Option Bool → Shared → Prop} (fin : ∀ h', Heap.SameBut a s.heap h' → SetG knd h' a S es1.size → F (some true) { s with heap := h' }) :
    wpAny (model P w) A (do
        storeSet a es1 t1
        if (!was && t1.tooFull) = true then do
            g (relayAll t1 es1 (SetTable.grown es1.size)).2.2
            storeSet a (relayAll t1 es1 (SetTable.grown es1.size)).1 (relayAll t1 es1 (SetTable.grown es1.size)).2.1
            pure (some true)
          else pure (some true)) F E s := by
  have at1 := put_at (es' := es1) (t' := t1) ho hd
  have but1 := Heap.SameBut.update s.heap a (Obj.putSet es1 t1)
  refine wpAny_bind (wpAny_storeSet_of ho hd ?_ (fits_of_scanBound L.few))
  split
  · have L2 := L.re (relayAll_perm t1 es1 (SetTable.grown es1.size)) (relayAll_fits t1 es1 (SetTable.grown es1.size)) (relayAll_ris t1 es1 (SetTable.grown es1.size)) (relayAll_led t1 es1 (SetTable.grown es1.size))
    have len := (relayAll_perm t1 es1 (SetTable.grown es1.size)).length_eq
    rw [Array.length_toList, Array.length_toList] at len
    generalize relayAll t1 es1 (SetTable.grown es1.size) = Z at L2 len ⊢
    refine wpAny_bind (quiet _ _ _ (wpAny_bind (wpAny_storeSet_of at1 rfl (wpAny_pure (fin _ (but1.trans (Heap.SameBut.update _ a _)) ?_)) (fits_of_scanBound L2.few))))
    exact ⟨_, Z.1, _, Z.2.1, put_at at1 rfl, hex, rfl, L2, len⟩
  · exact wpAny_pure (fin _ but1 ⟨_, es1, _, t1, at1, hex, rfl, L, rfl⟩)
theorem setG_addH {n : Nat} {k : κ} {x : Value} {Q : Bool → Shared → Prop} (hk : knd.is k x = true) (hx : x.scannable = true) (R : SetG knd s.heap a S n) (room : n + 1 < scanBound)
    (hQ : ∀ h', Heap.SameBut a s.heap h' → SetG knd h' a (fun j => S j || decide (j = k)) (if S k = true then n else n + 1) → Q (!S k) { s with heap := h' }) : wpAny (model P w) A (setAddHashed a x (knd.hash k)) Q E s := by
  obtain ⟨o, es, ep, t, ho, hex, hd, L, hn⟩ := R
  unfold setAddHashed setAddHashedIn
  refine wpAny_holding (wpAny_bind (wpAny_setState_of ho hd L.fit ?_))
  dsimp only
  rw [byScan_of hx L.few L.el, if_pos rfl]
  unfold setAddByScan
  refine wpAny_bind (wpAny_bind (wpAny_rule (wpAny_bind (wpAny_setScan_of hk ho hd L.fit L.el ?_))))
  cases there : List.findIdx? (fun e => knd.is k e.2) es.toList with
  | some j =>
    obtain ⟨lt, yes, _⟩ := List.findIdx?_eq_some_iff_getElem.mp there
    have old : S k = true := (L.mem k).mpr ⟨_, List.getElem_mem lt, yes⟩
    have q := hQ s.heap (Heap.SameBut.refl a s.heap)
    rw [old] at q
    refine wpAny_pure (wpAny_pure (q ?_))
    have same : (fun j => S j || decide (j = k)) = S := by
      funext i
      by_cases z : i = k
      · subst z
        rw [old] <;> rfl
      · rw [decide_eq_false z, Bool.or_false]
    rw [same, if_pos rfl]
    exact ⟨o, es, ep, t, ho, hex, hd, L, hn⟩
  | none =>
    have new : S k = false := by
      cases e : S k with
      | false => rfl
      | true =>
        obtain ⟨r, hr, yes⟩ := (L.mem k).mp e
        have no := List.findIdx?_eq_none_iff.mp there r hr
        rw [yes] at no
        cases no
    have q := hQ
    rw [new] at q
    have quiet : ∀ (b : Bool) (s₁ : Shared) (F : Unit → Shared → Prop), F () s₁ → wpAny (model P w) A (match b with | true => rule "set.scan.the-table-gave-way" | false => pure ()) F E s₁ := fun b s₁ F z => by
      cases b
      · exact wpAny_pure z
      · exact wpAny_rule z
    have len := (layNew_perm t es (knd.hash k) x).length_eq
    have pm := layNew_perm t es (knd.hash k) x
    rw [Array.toList_push] at pm
    rw [Array.length_toList, Array.length_toList, Array.size_push] at len
    have fit := layNew_fits t es (knd.hash k) x
    have mk : ∀ {t1 : SetTable}, t1.fits (layNew t es (knd.hash k) x).1.size = true → Ris t1.place.toList → t1.led = t.led → Lot knd (fun j => S j || decide (j = k)) (layNew t es (knd.hash k) x).1 t1 := fun f r l => L.more hk hx new (by omega) pm f r l
    have ris := layNew_ris t es (knd.hash k) x L.ris
    have led := layNew_led t es (knd.hash k) x
    dsimp only
    generalize layNew t es (knd.hash k) x = Z at mk ris led fit len pm ⊢
    obtain ⟨es1, t1, was, gave⟩ := Z
    dsimp only at mk ris led fit len pm ⊢
    have fin : ∀ h', Heap.SameBut a s.heap h' → SetG knd h' a (fun j => S j || decide (j = k)) es1.size → Q true { s with heap := h' } := fun h' b r => by
      refine q h' b ?_
      rw [if_neg Bool.false_ne_true]
      have e : es1.size = n + 1 := by omega
      rw [← e]
      exact r
    refine wpAny_bind (quiet _ _ _ ?_)
    split
    · rw [hashByValue_scannable 8 hx]
      refine wpAny_bind (wpAny_pure (setG_tail quiet ho hex hd (mk ?_ ?_ ?_) fun h' b r => ?_))
      · split
        · exact fit
        · exact SetTable.fits_plain_off fit
      · split <;> exact ris
      · split <;> exact led
      · exact wpAny_pure (fin h' b r)
    · refine wpAny_bind (wpAny_pure ?_)
      rw [if_pos rfl]
      exact setG_tail quiet ho hex hd (mk fit ris led) fun h' b r => wpAny_pure (fin h' b r)
end

/-! ### texts -/
abbrev txtKind (P : Program) (w : World) : PySem.KeyKind P w Str := PySem.strKind P w
section
variable {P : Program} {w : World} {A : Around} {E : Value → Shared → Prop} {s : Shared} {a : Addr}
/-- s.add(x) -/
theorem setS_add {S : Str → Bool} {n : Nat} {x : Str} {t0 : Tok} {Q : Value → Shared → Prop} (R : SetG (txtKind P w) s.heap a S n) (room : n + 1 < scanBound)
    (hQ : ∀ h', Heap.SameBut a s.heap h' → SetG (txtKind P w) h' a (fun j => S j || decide (j = x)) (if S x = true then n else n + 1) → Q .none { s with heap := h', toks := s.toks + 1 }) : wpAny (model P w) A (call (.builtin "set.add") [.ref a, .str x t0]) Q E s := by
  have hk : (txtKind P w).is x (.str x t0) = true := strKind_is P w x t0
  refine wpAny_call_entry F.slot_set_add R.setOf.typeIs F.entry_set_add ?_ (F.args_set_add_2 _ _)
  unfold Builtin.«set.add» Builtin.Frozenset.oneOther Builtin.Frozenset.addrOf setAdd
  refine wpAny_bind (wpAny_pure ?_)
  refine wpAny_bind (wpAny_holding (wpAny_bind ((txtKind P w).pyHash hk ?_)))
  refine setG_addH (s := { s with toks := s.toks + 1 }) hk rfl R room fun h' b r => ?_
  show wpAny _ _ (ret Value.none) _ _ _
  exact wpAny_pure ⟨_, rfl, hQ h' b r⟩
theorem lot_nil : Lot (txtKind P w) (fun _ => false) #[] (.fresh 0 0 (!w.params.followText "set-order")) where
  el := fun e he => nomatch he
  dis := .nil
  mem := fun k => ⟨(fun z => nomatch z), fun ⟨e, he, _⟩ => nomatch he⟩
  few := by decide
  fit := by rfl
  ris := .nil
  led := by
    show _ ∨ (!w.params.followText "set-order") = true
    cases w.params.followText "set-order"
    · exact .inr rfl
    · exact .inl rfl
theorem setS_fresh (P : Program) {h : Heap} (w : World) : SetG (txtKind P w) (h.push { cls := .type "set", dict := none, data := .set #[] 0 (.fresh 0 0 (!w.params.followText "set-order")) }) h.objs.size (fun _ => false) 0 :=
  ⟨_, #[], 0, _, Heap.get?_push_size _ rfl, ⟨rfl, rfl, rfl⟩, rfl, lot_nil, rfl⟩
def txtOf : Value → Str
  | .str x _ => x
  | _ => Str.empty
theorem strs_raw : ∀ vs : List Value, (∀ v ∈ vs, ∃ x t, v = Value.str x t) → StrsAre vs (vs.map txtOf)
  | [], _ => .nil
  | v :: vs, h => by
    obtain ⟨x, t, rfl⟩ := h v List.mem_cons_self
    exact .cons x t (strs_raw vs fun u hu => h u (List.mem_cons_of_mem _ hu))
/-- sorted(s) -/
theorem sorted_setS {S : Str → Bool} {n : Nat} {Q : Value → Shared → Prop} (R : SetG (txtKind P w) s.heap a S n) (hh : A.handled = none) (h64 : n < 64)
    (hQ : ∀ s' p (out : Array Value) (c : Nat) (ys : List Str), (∀ b o, s.heap.get? b = some o → s'.heap.get? b = some o) → s'.gens = s.gens → s'.os = s.os → s.heap.objs.size ≤ p →
      s'.heap.get? p = some (seqObj "list" out c) → StrsAre out.toList ys → sortedS ys = true → ys.Nodup → (∀ x, x ∈ ys ↔ S x = true) → ys.length = n → Q (.ref p) s') : wpAny (model P w) A (call (.builtin "sorted") [.ref a]) Q E s := by
  obtain ⟨o, es, ep, t, ho, hex, hd, L, hn⟩ := R
  refine Calls.call_function_entry kind_sorted plain_sorted entry_sorted (args_sorted1 _) ?_
  unfold Builtin.«sorted»
  refine wpAny_bind (m := checkCount "sorted" 1 1 _) (wpAny_pure (wpAny_bind (collect_set (A := A.in1) hh ⟨o, ho, hex.1, hd⟩ L.fit L.few L.ris L.led fun s1 vs keeps room gens1 os1 pm => ?_)))
  have len : vs.length = n := by rw [pm.length_eq, List.length_map, Array.length_toList]; exact hn
  have good : ∀ e ∈ es.toList, ∃ x t, e.2 = Value.str x t ∧ (txtKind P w).is x e.2 = true := fun e he => by
    obtain ⟨⟨k, hk, _⟩, _⟩ := L.el e he
    obtain ⟨t, e2⟩ := Value.isStrOf_shape hk
    exact ⟨k, t, e2, hk⟩
  have texts := strs_raw vs fun v hv => by
    obtain ⟨e, he, e2⟩ := List.mem_map.mp (pm.mem_iff.mp hv)
    obtain ⟨x, t, q, _⟩ := good e he
    exact ⟨x, t, by rw [← e2]; exact q⟩
  have pk : (vs.map txtOf).Perm (es.toList.map fun e => txtOf e.2) := by
    have q := pm.map txtOf
    rw [List.map_map] at q
    exact q
  have is_txt : ∀ e ∈ es.toList, ∀ x, (txtKind P w).is x e.2 = true ↔ txtOf e.2 = x := fun e he x => by
    obtain ⟨y, t, q, hy⟩ := good e he
    have z := KeyKind.is_eq_decide hy x
    rw [z, q]
    show decide (x = y) = true ↔ y = x
    rw [decide_eq_true_eq]
    exact ⟨Eq.symm, Eq.symm⟩
  have nd : (es.toList.map fun e => txtOf e.2).Nodup := by
    refine List.pairwise_map.mpr (List.Pairwise.imp_of_mem (fun {e f} he hf h z => ?_) L.dis)
    exact h _ ((is_txt e he _).mpr rfl) ((is_txt f hf _).mpr z.symm)
  have mem : ∀ x, x ∈ (es.toList.map fun e => txtOf e.2) ↔ S x = true := fun x => by
    rw [L.mem x, List.mem_map]
    exact ⟨fun ⟨e, he, z⟩ => ⟨e, he, (is_txt e he x).mpr z⟩, fun ⟨e, he, z⟩ => ⟨e, he, (is_txt e he x).mp z⟩⟩
  refine wpAny_bind (wpAny_newList ?_ (by rw [len, sizeLine_eq]; omega))
  have lies : (s1.heap.push (seqObj "list" vs.toArray 0)).get? s1.heap.objs.size = some (seqObj "list" vs.toArray 0) := Heap.get?_push_size _ rfl
  refine wpAny_bind (wpAny_holding (wpAny_call_entry slot_list_sort ⟨_, lies, rfl⟩ entry_list_sort (list_sort_treeK PyProof.Rows.strKind_oneLt lies texts.keysOf (fun v₁ v₂ rest e => keyKind_strs (by rw [← e]; exact texts)) (by rw [len]; exact h64) fun st' hp hs => ?_) (args_list_sort _)))
  obtain ⟨ys, g1, g2, g3⟩ := sorted_out_str texts hp hs
  obtain ⟨c, hc⟩ := sortedHeap_at (vs := vs) (out := (arrOf st').map (·.2)) lies
  have pn := g2.trans pk
  refine ⟨_, rfl, wpAny_pure ⟨_, rfl, hQ _ s1.heap.objs.size _ c ys (fun b u e => ?_) gens1 os1 room hc g1 g3 (pn.nodup_iff.mpr nd) (fun x => by rw [pn.mem_iff, mem x]) ?_⟩⟩
  · have q := keeps b u e
    have lt := Heap.lt_size q
    show (sortedHeap (s1.heap.push (seqObj "list" vs.toArray 0)) s1.heap.objs.size vs ((arrOf st').map (·.2))).get? b = some u
    rw [sortedHeap_old (Nat.ne_of_lt lt) (by rw [size_push']; exact Nat.lt_succ_of_lt lt)]
    exact Heap.get?_push_of_some _ q
  · rw [pn.length_eq, List.length_map, Array.length_toList]
    exact hn
end
/-! ### as tracked things -/
def SetSO (P : Program) (w : World) (a : Addr) (S : Str → Bool) (n : Nat) : HO := .ext fun h => SetG (txtKind P w) h a S n
theorem setSO_new {w : World} {P : Program} {H : Hp} {h : Heap} {a : Addr} {S : Str → Bool} {n : Nat} (R : SetG (txtKind P w) h a S n) : ObjOk P w H h a (SetSO P w a S n) := by
  have ⟨o, _, _, _, ho, _⟩ := R
  exact ⟨R, ⟨o, ho⟩, fun h1 h2 p k => SetG.keep p k⟩
section
variable {X : Cx} {pins : List (Addr × Obj)} {σ : L2.St} {H : Hp} {s : Shared} {S : Str → Bool} {n : Nat}
theorem setSO_get {a : Addr} (I : Inv X pins σ H s) (ha : H a = some (SetSO X.prog X.w a S n)) : SetG (txtKind X.prog X.w) s.heap a S n := (I.hok a _ ha).1
theorem addS_ok {E : Value → Shared → Prop} {D : Addr} {y : Str} {t0 : Tok} {Q : Value → Shared → Prop} (I : Inv X pins σ H s) (hD : H D = some (SetSO X.prog X.w D S n)) (room : n + 1 < scanBound)
    (h : ∀ s', Inv X pins σ (upd H D (SetSO X.prog X.w D (fun j => S j || decide (j = y)) (if S y = true then n else n + 1))) s' → Q .none s') : wpAny (model X.prog X.w) X.A (call (.builtin "set.add") [.ref D, .str y t0]) Q E s := by
  refine setS_add (setSO_get I hD) room fun h' but new => ?_
  have ⟨o, _, _, _, ho, _⟩ := new
  exact h _ (I.write (e := D) (t' := s.toks + 1) (by rw [hD]; trivial) (.inl rfl) (fun b u hb hu => (but.2 b hb).trans hu) ⟨o, ho⟩ (setSO_new new))
end
/-- sorted(a set of texts) -/
def rSortedTS (P : Program) (w : World) : List V → Hp → VK → Prop := fun vs H Q => ∃ (a : Addr) (S : Str → Bool) (n : Nat), vs = [V.ref a] ∧ H a = some (SetSO P w a S n) ∧ n < 64 ∧
  ∀ (ys : List Str) (p : Addr), sortedS ys = true → ys.Nodup → (∀ x, x ∈ ys ↔ S x = true) → ys.length = n → H p = none → Q (.ref p) (upd H p (.lst (ys.map V.str)))
theorem cr_sortedTS {X : Cx} (hc : X.calm = true) : CallR X (.builtin "sorted") (rSortedTS X.prog X.w) := by
  intro pins s σ H vs us Q I r h
  obtain ⟨a, S, n, rfl, ha, h64, q⟩ := h
  rw [Vals.ref1 r]
  refine sorted_setS (setSO_get I ha) (I.ok.hd hc) h64 fun s' p out c ys keeps gens os hp at_ texts srt nd mem len => ?_
  have few : (ys.map V.str).length ≤ sizeLine := by rw [List.length_map, len, sizeLine_eq]; omega
  have hn : H p = none := I.hok.fresh hp
  have J : Inv X pins σ (upd H p (.lst (ys.map V.str))) { s with heap := s'.heap, gens := s'.gens, drawn := s'.drawn, toks := s'.toks } :=
    I.call (ch := []) (Un.laid keeps hp hn) (I.hok.laid keeps hp ⟨few, out.toList, c, vals_of_strs texts, at_⟩) (by rw [gens]; exact I.bare) (fun _ z => nomatch z)
  have e : s' = { s with heap := s'.heap, gens := s'.gens, drawn := s'.drawn, toks := s'.toks } := by
    cases s'
    cases s
    cases os
    rfl
  rw [e]
  exact ⟨.ref p, _, J, rfl, q ys p srt nd mem len hn⟩
end PX
/-! {x for .. in .. for x in ..}: the members are texts. -/
namespace PX
open PySem PySem.Spec PyProof.Rows L2
/-- a set comprehension with two sources -/
abbrev two (e a0 b0 : Expr) (c0 : List Expr) (a1 b1 : Expr) (c1 : List Expr) (sc : Scope) (ps : Pos) : Expr := .SetComp e [⟨a0, b0, c0, 0⟩, ⟨a1, b1, c1, 0⟩] sc ps
section
variable {e a0 b0 a1 b1 : Expr} {c0 c1 : List Expr} {sc : Scope} {ps : Pos} {it acc : Value} {v : Env}
theorem two_outer : compTurn (two e a0 b0 c0 a1 b1 c1 sc ps) 0 it acc v = (do
      standAt b0.pos
      match ← pyNext it with
      | none => pure (.done .next)
      | some y =>
        letOwnedTupleGo a0 it y
        assign a0 v y
        let mut yes := true
        for q in c0 do
          if yes then yes ← isTrue q v (eval q v)
        if yes then
          let y ← eval b1 v
          standAt b1.pos
          let y ← foldedSetIterable b1 v y
          let _ ← runOwn (.compStart (two e a0 b0 c0 a1 b1 c1 sc ps) 1 (← holding [y] (pyIter y)) acc v) v
        again (.compLoop (two e a0 b0 c0 a1 b1 c1 sc ps) 0 it acc v)) := by rfl
theorem two_inner : compTurn (two e a0 b0 c0 a1 b1 c1 sc ps) 1 it acc v = (do
      standAt b1.pos
      match ← pyNext it with
      | none => pure (.done .next)
      | some y =>
        letOwnedTupleGo a1 it y
        assign a1 v y
        let mut yes := true
        for q in c1 do
          if yes then yes ← isTrue q v (eval q v)
        if yes then
          (do let y ← eval e v; standAt e.pos; let _ ← call (.builtin "set.add") [acc, y])
        again (.compLoop (two e a0 b0 c0 a1 b1 c1 sc ps) 1 it acc v)) := by rfl
end

section
variable {prog : Program} {w : World} {A : Around} {R : Result → Shared → Prop} {s : Shared} {e a0 b0 a1 b1 : Expr} {c0 c1 : List Expr} {sc : Scope} {ps : Pos} {it acc : Value} {v : Env}
/-- how a loop is left by an error -/
abbrev Out (prog : Program) (w : World) (A : Around) (v : Env) (R : Result → Shared → Prop) : Value → Shared → Prop := notedBy (model prog w) A v fun x s' => R (.error x) s'
/-- the tests of one source -/
abbrev tests (c : List Expr) (v : Env) : Sem Bool := forIn c true fun q r => if r = true then do let yes ← isTrue q v (eval q v); pure (ForInStep.yield yes) else pure (ForInStep.yield r)
theorem loop_outer (plain : ∀ y, foldedSetIterable b1 v y = pure y) (J : Nat → Shared → Prop)
    (turn : ∀ m s, J m s → wpAny (model prog w) A (pyNext it) (fun r s1 => match r with
      | none => R (.ok .next) s1
      | some y => wpAny (model prog w) A (letOwnedTupleGo a0 it y) (fun _ s2 => wpAny (model prog w) A (assign a0 v y) (fun _ s3 => wpAny (model prog w) A (tests c0 v) (fun yes s4 =>
            if yes = true then wpAny (model prog w) A (eval b1 v) (fun z s5 => wpAny (model prog w) A (pyIter z) (fun i1 s6 =>
              codeAny (model prog w) A (.compStart (two e a0 b0 c0 a1 b1 c1 sc ps) 1 i1 acc v) (fun r s' => match r with
                | .ok _ => ∃ k, k < m ∧ J k s'
                | .error _ => False) s6) (Out prog w A v R) s5) (Out prog w A v R) s4
            else ∃ k, k < m ∧ J k s4) (Out prog w A v R) s3) (Out prog w A v R) s2) (Out prog w A v R) s1) (Out prog w A v R) s)
    (m : Nat) (h : J m s) : codeAny (model prog w) A (.compLoop (two e a0 b0 c0 a1 b1 c1 sc ps) 0 it acc v) R s := by
  refine codeAny_loop rfl J (fun m s hJ => ?_) m h
  show wpAny _ A ((compTurn (two e a0 b0 c0 a1 b1 c1 sc ps) 0 it acc v).onRaise (fun x => do noteFrame x v; theTreesLotGoes x)) _ _ s
  rw [two_outer]
  refine wpAny_noted (wpAny_bind (wpAny_standAt (wpAny_bind (wpAny_mono (turn m s hJ) (fun r s1 h1 => ?_) fun _ _ z => z))))
  cases r with
  | none => exact wpAny_pure h1
  | some y =>
    refine wpAny_bind (wpAny_mono h1 (fun _ s2 h2 => wpAny_bind (wpAny_mono h2 (fun _ s3 h3 => wpAny_bind (wpAny_mono h3 (fun yes s4 h4 => ?_) fun _ _ z => z)) fun _ _ z => z)) fun _ _ z => z)
    cases yes with
    | false => exact wpAny_pure ⟨rfl, h4⟩
    | true =>
      refine wpAny_bind (wpAny_mono h4 (fun z s5 h5 => wpAny_bind (wpAny_standAt (wpAny_bind (wpAny_of_eq (plain z) (wpAny_bind (wpAny_holding (wpAny_mono h5 (fun i1 s6 h6 => ?_) fun _ _ z => z))))))) fun _ _ z => z)
      refine wpAny_bind (wpAny_runOwn ?_)
      rw [Around.mark_none]
      refine codeAny_mono h6 fun r s' hr => ?_
      cases r with
      | error x => exact hr.elim
      | ok f =>
        first
          | exact wpAny_pure ⟨rfl, hr⟩
          | exact wpAny_bind (wpAny_pure (wpAny_pure ⟨rfl, hr⟩))
theorem loop_inner (J : Nat → Shared → Prop)
    (turn : ∀ m s, J m s → wpAny (model prog w) A (pyNext it) (fun r s1 => match r with
      | none => R (.ok .next) s1
      | some y => wpAny (model prog w) A (letOwnedTupleGo a1 it y) (fun _ s2 => wpAny (model prog w) A (assign a1 v y) (fun _ s3 => wpAny (model prog w) A (tests c1 v) (fun yes s4 =>
            if yes = true then wpAny (model prog w) A (eval e v) (fun z s5 => wpAny (model prog w) A (call (.builtin "set.add") [acc, z]) (fun _ s6 => ∃ k, k < m ∧ J k s6) (Out prog w A v R) s5) (Out prog w A v R) s4
            else ∃ k, k < m ∧ J k s4) (Out prog w A v R) s3) (Out prog w A v R) s2) (Out prog w A v R) s1) (Out prog w A v R) s)
    (m : Nat) (h : J m s) : codeAny (model prog w) A (.compLoop (two e a0 b0 c0 a1 b1 c1 sc ps) 1 it acc v) R s := by
  refine codeAny_loop rfl J (fun m s hJ => ?_) m h
  show wpAny _ A ((compTurn (two e a0 b0 c0 a1 b1 c1 sc ps) 1 it acc v).onRaise (fun x => do noteFrame x v; theTreesLotGoes x)) _ _ s
  rw [two_inner]
  refine wpAny_noted (wpAny_bind (wpAny_standAt (wpAny_bind (wpAny_mono (turn m s hJ) (fun r s1 h1 => ?_) fun _ _ z => z))))
  cases r with
  | none => exact wpAny_pure h1
  | some y =>
    refine wpAny_bind (wpAny_mono h1 (fun _ s2 h2 => wpAny_bind (wpAny_mono h2 (fun _ s3 h3 => wpAny_bind (wpAny_mono h3 (fun yes s4 h4 => ?_) fun _ _ z => z)) fun _ _ z => z)) fun _ _ z => z)
    cases yes with
    | false => exact wpAny_pure ⟨rfl, h4⟩
    | true => exact wpAny_bind (wpAny_bind (wpAny_mono h4 (fun z s5 h5 => wpAny_bind (wpAny_standAt (wpAny_bind (wpAny_mono h5 (fun _ s6 h6 => wpAny_pure (wpAny_pure ⟨rfl, h6⟩)) fun _ _ z => z)))) fun _ _ z => z))
theorem start_inner (h0 : codeAny (model prog w) A (.compLoop (two e a0 b0 c0 a1 b1 c1 sc ps) 1 it acc v) R s)
    (h : wpAny (model prog w) A (pyIter it) (fun it' s' => codeAny (model prog w) A (.compLoop (two e a0 b0 c0 a1 b1 c1 sc ps) 1 it' acc v) R s') (Out prog w A v R) s) :
    codeAny (model prog w) A (.compStart (two e a0 b0 c0 a1 b1 c1 sc ps) 1 it acc v) R s := by
  refine codeAny_of_tree ?_
  show wpAny _ _ ((compStart (two e a0 b0 c0 a1 b1 c1 sc ps) 1 it acc v).onRaise (fun x => do noteFrame x v; standAt theWindowsPlace)) _ _ s
  refine wpAny_notedAt ?_
  unfold compStart
  show wpAny _ _ (ask >>= _) _ _ s
  refine wpAny_bind (wpAny_askSetting (wpAny_ite ?_))
  split
  · first
      | exact wpAny_bind (wpAny_pure (wpAny_pure (And.intro rfl h0)))
      | exact wpAny_pure (And.intro rfl h0)
  · refine wpAny_bind (wpAny_rule ?_)
    show wpAny _ _ (standAt b1.pos >>= _) _ _ s
    exact wpAny_bind (wpAny_standAt (wpAny_bind (wpAny_mono h (fun it' s' h' => wpAny_pure (And.intro rfl h')) fun _ _ z => z)))
end

section
variable {X : Cx}
/-- {x for .. in .. if .. for x in .. if ..}: D the new set; behind the first source's store and tests the second source's own loop, from which Nx is reached -/
def tSc2 (P : Program) (w : World) (wi : TI) (g : TG) (tt : TT) (wi1 : TI) (g1 : TG) (tt1 : TT) (te : TE) (vs vs1 : List Nat) : TE := fun σ H Q => wi σ H fun J H1 => ∀ D, H1 D = none → ∃ W : Nat → Nat → Hp → Prop, (∃ m, W 0 m (upd H1 D (SetSO P w D (fun _ => false) 0))) ∧ ∀ i m H, W i m H →
  (J.stop i H ∧ Q (.ref D) H) ∨ (J.go i H ∧ ∃ Nx : Hp → Prop, (∀ H', Nx H' → ∃ m', m' < m ∧ W (i + 1) m' H') ∧ ∀ x H', J.yld i H x H' → g x (wipe σ vs) H' fun σ2 H2 => wipe σ2 vs = wipe σ vs ∧ tt σ2 H2 fun b H3 =>
    if b = true then wi1 σ2 H3 fun J1 H4 => ∃ W1 : Nat → Nat → Hp → Prop, (∃ m, W1 0 m H4) ∧ ∀ j k H, W1 j k H →
      (J1.stop j H ∧ Nx H) ∨ (J1.go j H ∧ ∃ Nx1 : Hp → Prop, (∀ H', Nx1 H' → ∃ k', k' < k ∧ W1 (j + 1) k' H') ∧ ∀ x H', J1.yld j H x H' → g1 x (wipe σ2 vs1) H' fun σ3 H5 => wipe σ3 vs1 = wipe σ2 vs1 ∧ tt1 σ3 H5 fun b H6 =>
        if b = true then te σ3 H6 fun y H7 => ∃ (z : Str) (S : Str → Bool) (n : Nat), y = .str z ∧ H7 D = some (SetSO P w D S n) ∧ n + 1 < scanBound ∧ Nx1 (upd H7 D (SetSO P w D (fun j => S j || decide (j = z)) (if S z = true then n else n + 1))) else Nx1 H6)
    else Nx H3)
theorem pe_sc2 {e a0 b0 a1 b1 : Expr} {c0 c1 : List Expr} {sc : Scope} {own : List (Str × Nat)} {vs1 : List Nat} {ps : Pos} {wi wi1 : TI} {g g1 : TG} {tt tt1 : TT} {te : TE} (hc : X.calm = true) (hN : X.N.Nodup) (hi : PI X a0 b0 wi) (ok : BlkOk X.N X.env.scope sc own) (hv : ∀ i ∈ vs1, i ∈ own.map (·.2))
    (hg : ∀ (s : Shared) (H : Hp) (C : Addr) (cl : List (Str × Addr)) (fp : List Addr), PG (X.blk s H sc (compEnvC sc cl C X.env) fp) a0 g) (ht : ∀ (s : Shared) (H : Hp) (C : Addr) (cl : List (Str × Addr)) (fp : List Addr), PTs (X.blk s H sc (compEnvC sc cl C X.env) fp) c0 tt) (hi1 : ∀ (s : Shared) (H : Hp) (C : Addr) (cl : List (Str × Addr)) (fp : List Addr), PI (X.blk s H sc (compEnvC sc cl C X.env) fp) a1 b1 wi1) (hg1 : ∀ (s : Shared) (H : Hp) (C : Addr) (cl : List (Str × Addr)) (fp : List Addr), PG (X.blk s H sc (compEnvC sc cl C X.env) fp) a1 g1) (ht1 : ∀ (s : Shared) (H : Hp) (C : Addr) (cl : List (Str × Addr)) (fp : List Addr), PTs (X.blk s H sc (compEnvC sc cl C X.env) fp) c1 tt1) (he : ∀ (s : Shared) (H : Hp) (C : Addr) (cl : List (Str × Addr)) (fp : List Addr), PE (X.blk s H sc (compEnvC sc cl C X.env) fp) e te)
    (plain : ∀ x, foldedSetIterable b0 X.env x = pure x := by intro _; rfl) (plain1 : ∀ env x, foldedSetIterable b1 env x = pure x := by intro _ _; rfl) : PE X (.SetComp e [⟨a0, b0, c0, 0⟩, ⟨a1, b1, c1, 0⟩] sc ps) (tSc2 X.prog X.w wi g tt wi1 g1 tt1 te (own.map (·.2)) vs1) := by
  refine ⟨fun pins s σ H Q I h => ?_⟩
  rw [PpSet.eval_SetComp]
  have cells : ∀ y ∈ sc.names, y.2 = .free → ∃ c, X.env.cells.lookup y.1 = some c := fun y hy z => (ok.free y hy z).elim (fun k => I.ok.has _ (.inl k)) fun k => I.ok.has _ (.inr k)
  refine wpAny_comprehension_free (use := none) rfl plain (closure_ok cells) ok.kind (fun y hy z => by rw [ok.uniq y hy, z]) (thn (hi.run pins s σ H _ I h) fun xv s1 hx => thn hx fun itv s2 got => ?_)
  obtain ⟨it, fp, tn, J, H2, rfl, I2, T, st2, f2, q⟩ := got
  refine PpSet.newSet_ok (newEnv_comp ?_)
  generalize hD : s2.heap.objs.size = D
  obtain ⟨W, ⟨m0, w0⟩, turn⟩ := q D (I2.hok.fresh (Nat.le_of_eq hD))
  -- the new set
  generalize hs3 : ({ s2 with heap := s2.heap.push { cls := .type "set", dict := none, data := .set #[] 0 (.fresh 0 0 (!X.w.params.followText "set-order")) } } : Shared) = s3
  generalize hH3 : upd H2 D (SetSO X.prog X.w D (fun _ => false) 0) = H3 at w0
  have I3 : Inv X pins σ H3 s3 := by
    rw [← hs3, ← hH3]
    refine I2.laid (t' := s2.toks) (fun b o z => Heap.get?_push_of_some _ z) (Nat.le_of_eq hD) ?_
    rw [← hD]
    exact setSO_new (setS_fresh X.prog X.w)
  have heap3 : s3.heap = s2.heap.push { cls := .type "set", dict := none, data := .set #[] 0 (.fresh 0 0 (!X.w.params.followText "set-order")) } := by rw [← hs3]
  have f3 : ∀ b ∈ fp, FpOk X pins H3 b ∧ b < s3.heap.objs.size := fun b hb => by
    obtain ⟨o, lies, _⟩ := T.obj _ _ st2 b hb
    have lt := Heap.lt_size lies
    refine ⟨⟨?_, (f2 b hb).2⟩, by rw [heap3, Heap.size_push]; exact Nat.lt_succ_of_lt lt⟩
    rw [← hH3, upd_ne (by rw [← hD]; exact Nat.ne_of_lt lt)]
    exact (f2 b hb).1
  have st3 : tn 0 s3.heap := T.keep _ _ _ st2 fun b _ o z => by rw [heap3]; exact Heap.get?_push_of_some _ z
  have I4 := block_start I3 ok hN f3
  show codeAny _ _ (.compStart (two e a0 b0 c0 a1 b1 c1 sc ps) 0 (.ref it) (.ref D) (compEnvC sc (cellsFrom (s3.heap.objs.size + 1) sc.names (cloFrom X.env.cells sc.names [])) s3.heap.objs.size X.env)) (compPost (model X.prog X.w) X.A X.xe none (EP X pins σ Q) (.ref D) s3.heap.objs.size) { s3 with heap := pushCells (s3.heap.push { cls := .type "dict", data := .dict #[] }) sc.names }
  generalize hcl : cellsFrom (s3.heap.objs.size + 1) sc.names (cloFrom X.env.cells sc.names []) = cl at I4 ⊢
  have pg := hg s3 H3 s3.heap.objs.size cl fp
  have pt := ht s3 H3 s3.heap.objs.size cl fp
  have pi1 := hi1 s3 H3 s3.heap.objs.size cl fp
  have pg1 := hg1 s3 H3 s3.heap.objs.size cl fp
  have pt1 := ht1 s3 H3 s3.heap.objs.size cl fp
  have pe := he s3 H3 s3.heap.objs.size cl fp
  generalize hce : compEnvC sc cl s3.heap.objs.size X.env = ce at I4 pg pt pi1 pg1 pt1 pe ⊢
  have cL : ce.locals = s3.heap.objs.size := by subst hce; rfl
  generalize hs4 : ({ s3 with heap := pushCells (s3.heap.push { cls := .type "dict", data := .dict #[] }) sc.names } : Shared) = s4 at I4 ⊢
  have st4 : tn 0 s4.heap := T.keep _ _ _ st3 fun b _ o z => by rw [← hs4]; exact pushCells_keeps _ _ _ _ (Heap.get?_push_of_some _ z)
  have steady : ∀ {τ : L2.St} {K' : Hp} {r : Shared}, Inv (X.blk s3 H3 sc ce fp) [] τ K' r → (∀ b ∈ fp, K' b = none) → ∀ b ∈ fp, FpOk (X.blk s3 H3 sc ce fp) [] K' b := fun {τ K' r} J' hn b hb =>
    ⟨hn b hb, (J'.ok.exf b hb).1, J'.ok.exfs b hb, .inl hb, fun x c z => (J'.ok.exf b hb).2 x c z, fun p hp => absurd (show p ∈ ([] : List (Addr × Obj)) ++ [] from hp) (by simp)⟩
  have loop : codeAny (model X.prog X.w) X.A (.compLoop (two e a0 b0 c0 a1 b1 c1 sc ps) 0 (.ref it) (.ref D) ce) (compPost (model X.prog X.w) X.A X.xe none (EP X pins σ Q) (.ref D) s3.heap.objs.size) s4 := by
    refine loop_outer (plain1 ce) (fun n r => ∃ i K', Inv (X.blk s3 H3 sc ce fp) [] (wipe σ (own.map (·.2))) K' r ∧ tn i r.heap ∧ (∀ b ∈ fp, K' b = none) ∧ W i n K') ?_ m0 ⟨0, H3, I4, st4, fun b hb => (f3 b hb).1.1, w0⟩
    rintro n s5 ⟨i, H5, I5, st5, n5, w5⟩
    rcases turn i n H5 w5 with ⟨stop, last⟩ | ⟨go, Nx, hNx, step⟩
    · refine thnF (T.done (X.blk s3 H3 sc ce fp) rfl rfl rfl hc i [] s5 _ H5 (fun _ _ => False) I5 (steady I5 n5) st5 stop) fun r s6 ⟨hr, I6⟩ => ?_
      subst hr
      have I7 : Inv X pins σ H5 s6 := I3.call' (ch := fp) I6.os I6.base I6.hok I6.bare fun b hb => ⟨(f3 b hb).1.2.2.2.1, (f3 b hb).1.2.1, (f3 b hb).1.2.2.2.2.1, (f3 b hb).1.2.2.2.2.2⟩
      have noC : H5 s3.heap.objs.size = none := by
        rw [← cL]
        exact I6.free
      obtain ⟨m, hn, _⟩ := I6.loc
      have hn : s6.heap.Ns ce.locals m := hn
      rw [cL] at hn
      obtain ⟨k0, k1, k2, k3, k4, k5⟩ := I3.fpOk (Nat.le_refl _) noC
      exact ⟨m, hn, fun h2 but => ⟨.ref D, H5, I7.turned (t' := s6.toks) (fun b o hb z => (but.2 b hb).trans z) k0 k1 k3 k4 k5, rfl, last⟩⟩
    · refine thnF (T.item (X.blk s3 H3 sc ce fp) rfl rfl rfl hc i [] s5 _ H5 (fun _ _ => False) I5 (steady I5 n5) st5 go) fun r s6 ⟨u, hr, h6⟩ => ?_
      subst hr
      refine thnF h6 fun _ s7 ⟨x, H7, I7, r7, y7, st7, n7⟩ => ?_
      have I7' := I7.pinned (steady I7 n7) (T.obj _ _ st7)
      refine thnF (pg.run _ s7 _ H7 x u _ I7' r7 (step x H7 y7)) fun _ s8 ⟨τ, H8, I8, w8, q8⟩ => ?_
      refine thnF (pt.run _ s8 τ H8 _ I8 q8) fun yes s9 ⟨H9, I9, q9⟩ => ?_
      -- how a turn of the outer loop ends
      have ends : ∀ {ρ : L2.St} {r : Shared} {K' : Hp}, Inv (X.blk s3 H3 sc ce fp) ([] ++ pinsAt fp s7.heap) ρ K' r → (wipe σ (own.map (·.2))).length = ρ.length → (∀ (j : Nat) z, (wipe σ (own.map (·.2)))[j]? = some (some z) → ρ[j]? = some (some z)) → Nx K' →
          ∃ m, m < n ∧ ∃ i K', Inv (X.blk s3 H3 sc ce fp) [] (wipe σ (own.map (·.2))) K' r ∧ tn i r.heap ∧ (∀ b ∈ fp, K' b = none) ∧ W i m K' := fun {ρ r K'} J' len know nx => by
        obtain ⟨m', lt, w'⟩ := hNx K' nx
        have held : ∀ b ∈ fp, ∀ o, s7.heap.get? b = some o → r.heap.get? b = some o ∧ K' b = none := fun b hb o z => by
          have q := J'.pin (b, o) (List.mem_append_right _ (List.mem_append_right _ (mem_pinsAt hb z)))
          exact ⟨q.1, q.2.1⟩
        refine ⟨m', lt, i + 1, K', (J'.unpinned (pins := [])).weak len know, T.keep _ _ _ st7 fun b hb o z => (held b hb o z).1, fun b hb => ?_, w'⟩
        obtain ⟨o, z, _⟩ := T.obj _ _ st7 b hb
        exact (held b hb o z).2
      have len8 : (wipe σ (own.map (·.2))).length = τ.length := by rw [← w8, wipe_length]
      have know8 : ∀ (j : Nat) z, (wipe σ (own.map (·.2)))[j]? = some (some z) → τ[j]? = some (some z) := fun j z q => by
        rw [← w8] at q
        exact (wipe_some q).1
      have know9 : ∀ (j : Nat) z, (wipe σ (own.map (·.2)))[j]? = some (some z) → (wipe τ vs1)[j]? = some (some z) := fun j z q => by
        rw [← w8] at q
        rw [wipe_out fun m => (wipe_some q).2 (hv j m)]
        exact (wipe_some q).1
      cases yes with
      | false => exact ends I9 len8 know8 q9
      | true =>
        rw [if_pos rfl] at q9 ⊢
        refine thnF (pi1.run _ s9 τ H9 _ I9 q9) fun xv s10 hx => thnF hx fun itv s11 h11 => ?_
        obtain ⟨it1, fp1, tn1, J1, H11, rfl, I11, T1, st11, f11, W1, ⟨m1, w1⟩, turn1⟩ := h11
        have steady1 : ∀ {K' : Hp}, (∀ b ∈ fp1, K' b = none) → ∀ b ∈ fp1, FpOk (X.blk s3 H3 sc ce fp) ([] ++ pinsAt fp s7.heap) K' b := fun hn b hb => ⟨hn b hb, (f11 b hb).2⟩
        have loop1 : codeAny (model X.prog X.w) X.A (.compLoop (two e a0 b0 c0 a1 b1 c1 sc ps) 1 (.ref it1) (.ref D) ce)
            (fun r s' => match r with
              | .ok _ => ∃ m, m < n ∧ ∃ i K', Inv (X.blk s3 H3 sc ce fp) [] (wipe σ (own.map (·.2))) K' s' ∧ tn i s'.heap ∧ (∀ b ∈ fp, K' b = none) ∧ W i m K'
              | .error _ => False) s11 := by
          refine loop_inner (fun k r => ∃ j K', Inv (X.blk s3 H3 sc ce fp) ([] ++ pinsAt fp s7.heap) (wipe τ vs1) K' r ∧ tn1 j r.heap ∧ (∀ b ∈ fp1, K' b = none) ∧ W1 j k K') ?_ m1 ⟨0, H11, I11.weak (wipe_length _ _) (fun j z q => (wipe_some q).1), st11, fun b hb => (f11 b hb).1, w1⟩
          rintro k s12 ⟨j, H12, I12, st12, n12, w12⟩
          rcases turn1 j k H12 w12 with ⟨stop1, nx1⟩ | ⟨go1, Nx1, hNx1, step1⟩
          · refine thnF (T1.done (X.blk s3 H3 sc ce fp) rfl rfl rfl hc j _ s12 (wipe τ vs1) H12 (fun _ _ => False) I12 (steady1 n12) st12 stop1) fun r s13 ⟨hr, I13⟩ => ?_
            subst hr
            exact ends I13 (len8.trans (wipe_length τ vs1).symm) know9 nx1
          · refine thnF (T1.item (X.blk s3 H3 sc ce fp) rfl rfl rfl hc j _ s12 (wipe τ vs1) H12 (fun _ _ => False) I12 (steady1 n12) st12 go1) fun r s13 ⟨u1, hr, h13⟩ => ?_
            subst hr
            refine thnF h13 fun _ s14 ⟨x1, H14, I14, r14, y14, st14, n14⟩ => ?_
            have I14' := I14.pinned (steady1 n14) (T1.obj _ _ st14)
            refine thnF (pg1.run _ s14 (wipe τ vs1) H14 x1 u1 _ I14' r14 (step1 x1 H14 y14)) fun _ s15 ⟨ρ, H15, I15, w15, q15⟩ => ?_
            refine thnF (pt1.run _ s15 ρ H15 _ I15 q15) fun yes1 s16 ⟨H16, I16, q16⟩ => ?_
            have ends1 : ∀ {r : Shared} {K' : Hp}, Inv (X.blk s3 H3 sc ce fp) (([] ++ pinsAt fp s7.heap) ++ pinsAt fp1 s14.heap) ρ K' r → Nx1 K' → ∃ m, m < k ∧ ∃ j K', Inv (X.blk s3 H3 sc ce fp) ([] ++ pinsAt fp s7.heap) (wipe τ vs1) K' r ∧ tn1 j r.heap ∧ (∀ b ∈ fp1, K' b = none) ∧ W1 j m K' := fun {r K'} J' nx => by
              obtain ⟨m', lt, w'⟩ := hNx1 K' nx
              have held : ∀ b ∈ fp1, ∀ o, s14.heap.get? b = some o → r.heap.get? b = some o ∧ K' b = none := fun b hb o z => by
                have q := J'.pin (b, o) (List.mem_append_right _ (List.mem_append_right _ (mem_pinsAt hb z)))
                exact ⟨q.1, q.2.1⟩
              refine ⟨m', lt, j + 1, K', J'.unpinned.weak (by rw [← w15, wipe_length]) (fun j z q => by rw [← w15] at q; exact (wipe_some q).1), T1.keep _ _ _ st14 fun b hb o z => (held b hb o z).1, fun b hb => ?_, w'⟩
              obtain ⟨o, z, _⟩ := T1.obj _ _ st14 b hb
              exact (held b hb o z).2
            cases yes1 with
            | false => exact ends1 I16 q16
            | true =>
              rw [if_pos rfl] at q16 ⊢
              refine thnF (pe.run _ s16 ρ H16 _ I16 q16) fun z s17 ⟨y, H17, I17, r17, x, S, c, hy, lies, room, nx⟩ => ?_
              subst hy
              obtain ⟨t0, rfl⟩ := (show ∃ t, z = Value.str x t from r17)
              exact addS_ok (X := X.blk s3 H3 sc ce fp) I17 lies room fun s18 I18 => ends1 I18 nx
        exact start_inner loop1 (T1.self X.A 0 _ _ _ st11 loop1)
  exact PpSet.codeAny_compStart_set loop (T.self X.A 0 _ _ _ st4 loop)
end
/-- any loop of a comprehension by an invariant -/
theorem it_walk {J : It} {n : Nat} {G : Hp → Prop} {Y : Nat → Hp → V → Hp → Prop} (w : Walk J n G Y) {H0 : Hp} {Fin : Hp → Prop} {Step : (Hp → Prop) → V → Hp → Prop} (Pv : Nat → Hp → Prop) (h0 : Pv 0 H0) (hG : ∀ i H, i ≤ n → Pv i H → G H)
    (hs : ∀ i x H H', i < n → Pv i H → Y i H x H' → Step (Pv (i + 1)) x H') (hd : ∀ H, Pv n H → Fin H) :
    ∃ W : Nat → Nat → Hp → Prop, (∃ m, W 0 m H0) ∧ ∀ i m H, W i m H → (J.stop i H ∧ Fin H) ∨ (J.go i H ∧ ∃ Nx : Hp → Prop, (∀ H', Nx H' → ∃ m', m' < m ∧ W (i + 1) m' H') ∧ ∀ x H', J.yld i H x H' → Step Nx x H') := by
  refine ⟨fun i m H => m = n - i ∧ i ≤ n ∧ Pv i H, ⟨n, (Nat.sub_zero n).symm, Nat.zero_le _, h0⟩, ?_⟩
  rintro i m H ⟨hm, hi, p⟩
  subst hm
  have q := hG i H hi p
  cases Nat.lt_or_ge i n with
  | inl lt => exact .inr ⟨w.goes i H lt q, Pv (i + 1), (fun H' p' => ⟨n - (i + 1), by omega, rfl, lt, p'⟩), fun x H' y => hs i x H H' lt p (w.yields i H x H' lt q y)⟩
  | inr ge =>
    have e : i = n := Nat.le_antisymm hi ge
    subst e
    exact .inl ⟨w.stops H q, hd H p⟩
end PX
/-! xs != []; xs.extend(a tuple); d.update(another dict). -/
namespace PX
open PySem PySem.Spec PyProof.Rows L2
/-! ### xs != [] -/
section
open PySem.SeqAt AutoSeq1 MeetsSeq MeetsSeq2 MeetsSeq3 SeqRoads2
theorem ne_apart {prog : Program} {w : World} (l b : Addr) (items items2 : Array Value) (n n2 : Nat) (apart : (items.size != items2.size) = true) :
    MeetsIn prog w (Builtin.«list.__ne__» ⟨[.ref l, .ref b], []⟩)
      (fun _ R s => s.heap.get? l = some { cls := .type "list", dict := none, data := .seq items n, slots := #[] } ∧ s.heap.get? b = some { cls := .type "list", dict := none, data := .seq items2 n2, slots := #[] } ∧ R (.ok (.ret (.bool true))) s) := by
  intro A R s h
  obtain ⟨hp, g, d, tk, os⟩ := s
  obtain ⟨hl, hb, h⟩ := h
  have f3 := AutoSeq1.sub_list_list
  wp_walk using wpAny_loadPart' hl, wpAny_loadPart' hb
  exact h
end
def rNeNil : R2 := fun x y H Q => ∃ (a b : Addr) (xs : List V), x = .ref a ∧ y = .ref b ∧ H a = some (.lst xs) ∧ H b = some (.lst []) ∧ Q (.bl (!xs.isEmpty)) H
theorem op_neNil {X : Cx} (hu : X.A.units + 64 < cLine) : OpR X (compareOp .NotEq) rNeNil := by
  intro pins s σ H x y v u Q I rx ry h
  obtain ⟨a, b, xs, rfl, rfl, ha, hb, q⟩ := h
  cases xs with
  | nil => exact op_neD hu pins s σ H (.ref a) (.ref b) v u Q I rx ry ⟨.list [], .list [], .lst (SqL.of ha) .nil, .lst (SqL.of hb) .nil, by rfl, by rfl, q⟩
  | cons x r =>
    obtain rfl : v = Value.ref a := rx
    obtain rfl : u = Value.ref b := ry
    obtain ⟨z, its, n, r1, l1, e1⟩ := I.lstM ha
    obtain ⟨z2, its2, n2, r2, l2, e2⟩ := I.lstM hb
    have ta : s.TypeIs (.ref a) "list" := ⟨_, e1, rfl⟩
    have tb : s.TypeIs (.ref b) "list" := ⟨_, e2, rfl⟩
    have apart : (its.toArray.size != its2.toArray.size) = true := by
      cases r1
      cases r2
      rfl
    show wpAny _ _ (richCompare .NotEq (.ref a) (.ref b)) _ _ s
    exact wpAny_richCompare_same_room (op := .NotEq) ta tb F.slot_list_ne (call_meetsIn F.slot_list_ne ta F.entry_list_ne (F.args_list_ne_2 _ _) (ne_apart a b its.toArray its2.toArray n n2 apart)
      ⟨e1, e2, show Value.bool true ≠ Value.notImplemented ∧ EP X pins σ Q (.bool true) s from ⟨(fun x => nomatch x), ⟨.bl true, H, I, rfl, q⟩⟩⟩) (by omega)
/-! ### xs.extend(ys), ys a list or a tuple -/
def rExtendA (K : PySem.W.Frag) : V → List V → Hp → VK → Prop := fun x vs H Q => ∃ (l b : Addr) (xs zs : List V), x = .ref l ∧ vs = [.ref b] ∧ H l = some (.lst xs) ∧ SqT K H b zs ∧ xs.length + zs.length ≤ sizeLine ∧ Q .non (upd H l (.lst (xs ++ zs)))
theorem extend_tup {prog : Program} {w : World} {A : Around} {E : Value → Shared → Prop} {s : Shared} {l b : Addr} {old new : Array Value} {n : Nat} {Q : Value → Shared → Prop} (atL : s.heap.get? l = some { cls := .type "list", data := .seq old n }) (atB : IsTup s.heap b new)
    (few : old.size + new.size ≤ sizeLine) (h : Q .none { s with heap := s.heap.update l (Obj.mapSeq fun x => x ++ new) }) : wpAny (model prog w) A (call (.builtin "list.extend") [.ref l, .ref b]) Q E s := by
  have isL := PySem.IsL.isList atL
  obtain ⟨ob, hob, cb, nb, db⟩ := atB
  refine wpAny_call_entry F.slot_list_extend isL.typeIs F.entry_list_extend ?_ (F.args_list_extend_2 _ _)
  unfold Builtin.«list.extend»
  refine wpAny_bind (wpAny_pure ?_)
  unfold Builtin.List.listExtendWith
  refine wpAny_bind (wpAny_typeOf (T := "tuple") ⟨ob, hob, cb⟩ ?_)
  rw [if_pos (show (Builtin.List.listSameRef (.ref l) (.ref b) || Value.type "tuple" == Value.type "list" || Value.type "tuple" == Value.type "tuple") = true by
    rw [show (Value.type "tuple" == Value.type "tuple") = true by decide, Bool.or_true])]
  refine wpAny_bind (listItems_at hob db (wpAny_bind (listItems_at atL rfl ?_)))
  rw [if_neg (show ¬ (!old.isEmpty && Builtin.List.listTooLong (old.size + new.size)) = true by rw [notLongL few, Bool.and_false]; exact Bool.false_ne_true)]
  refine wpAny_bind (wpAny_updateSeq (hz := Nat.le_trans (Nat.le_add_right _ _) few) (_hz' := by show (old ++ new).size ≤ _; rw [Array.size_append]; omega) atL rfl ?_)
  exact wpAny_pure ⟨_, rfl, h⟩
theorem mt_extendA {X : Cx} : MtM X "list.extend" (rExtendA X.K) := by
  intro pins s σ H x vs v us Q I rx rv h
  obtain ⟨l, b, xs, zs, rfl, rfl, hH, hB, hz, q⟩ := h
  obtain rfl : v = Value.ref l := rx
  obtain ⟨u, rfl, ru⟩ := rv.one
  obtain rfl : u = Value.ref b := ru
  obtain ⟨z, its, n, r, hl, e⟩ := I.lstM hH
  obtain ⟨its2, r2, e2, z2⟩ := I.tuple hB
  have len2 := r2.length
  refine extend_tup e e2 (by rw [List.size_toArray, List.size_toArray]; omega) ?_
  refine ⟨.non, _, I.lset (its' := its ++ its2) (t' := s.toks) hH e (by simp) (r.append r2) ?_, rfl, q⟩
  rw [List.length_append]
  omega
/-! ### d.update(e) -/
def rDUpd : V → List V → Hp → VK → Prop := fun x vs H Q => ∃ (d o : Addr) (ks ls : List (Key × V)), x = .ref d ∧ vs = [.ref o] ∧ d ≠ o ∧ H d = some (.dK ks) ∧ H o = some (.dK ls) ∧ ks.length + ls.length ≤ sizeLine ∧ Q .non (upd H d (.dK (mergeK ks ls)))
theorem mt_dupdate {X : Cx} : MtR X "dict.update" rDUpd := by
  intro pins s σ H x vs v us Q I rx rv h
  obtain ⟨d, o, ks, ls, rfl, rfl, apart, hd, ho, few, q⟩ := h
  obtain rfl : v = Value.ref d := rx
  obtain ⟨u, rfl, ru⟩ := rv.one
  obtain rfl : u = Value.ref o := ru
  obtain ⟨z1, s1, vs1, rel1, dd1⟩ := dk_of I.hok hd
  obtain ⟨z2, s2, vs2, rel2, dd2⟩ := dk_of I.hok ho
  have len1 := rel1.length
  have len2 := rel2.length
  refine call_meetsIn F.slot_dict_update dd1.typeIs F.entry_dict_update (F.args_dict_update_2 _ _) (meets_dict_update (mixKind X.prog X.w) d o apart s2) ⟨vs1, vs2, dd1, dd2, by omega, fun h' dd' _ but => ?_⟩
  have there : ∃ q, h'.get? d = some q := let ⟨q, _, _, hq, _⟩ := dd'; ⟨q, hq⟩
  have small : (mergeK ks ls).length ≤ sizeLine := Nat.le_trans (length_mergeK ls ks) few
  exact ⟨.non, _, d_write (t' := s.toks) I (by rw [hd]; exact True.intro) but there (dk_new small s1 (KV.merge rel2 rel1) dd'), rfl, q⟩
end PX
/-! defs with *args alone, called with plain arguments. -/
namespace PX
open PySem PySem.Spec PyProof.Rows L2
section
variable {X : Cx} {CX : CXT} {k : Nat} {f : Addr} {sp : Sp} {E : XK} {x : Str} {p pos : Pos} {e : Expr} {es : List Expr} {t : TA}
/-- f(e, ..) by a promise about all arguments -/
def tCallR (sp : Sp) (E : XK) (t : TA) : TE := fun σ H Q => t σ H fun vs H1 => sp vs H1 Q E
theorem pe_callR (F : FnR X.prog X.w X.K X.mg X.base CX k f sp) (hr : Room k X.A) (hg : Gl X x) (hm : X.mg x = some (.ref f)) (hk : PySem.W.keepIn X.K (.ref f) = true) (hx : Passes CX X E) (ha : PA X (e :: es) t)
    (hdb : (x == ("__debug__" : Str)) = false := by decide) (he : starEach (e :: es) X.env = (false, eval e X.env) :: starEach es X.env := by rfl) (hpl : (backTo pos (starEach es X.env)).any (·.1) = false := by rfl) :
    PE X (.Call (.Name x p) (e :: es) [] pos) (tCallR sp E t) := by
  refine ⟨fun pins s σ H Q I h => wpAny_Call_Name_kw (ld_glob I hg hm ?_ hdb)⟩
  exact PySem.W.callWith_K (h₀ := X.base) I.ok.mod.kin hk (thn (ha.run pos pins s σ H _ I h) fun us s1 ⟨vs, H1, I1, r, q⟩ => ⟨I1.kIn, wpAny_call (run_fnR F hr hx I1 r q)⟩) he hpl
theorem pe_callR0 (F : FnR X.prog X.w X.K X.mg X.base CX k f sp) (hr : Room k X.A) (hg : Gl X x) (hm : X.mg x = some (.ref f)) (hk : PySem.W.keepIn X.K (.ref f) = true) (hx : Passes CX X E) (hdb : (x == ("__debug__" : Str)) = false := by decide) :
    PE X (.Call (.Name x p) [] [] pos) (tCallR sp E tNil) := by
  refine ⟨fun pins s σ H Q I h => wpAny_Call_Name_kw (ld_glob I hg hm ?_ hdb)⟩
  exact PySem.W.callWith_K0 I.kIn hk (wpAny_call (run_fnR (us := []) F hr hx I .nil h))
end
section
variable {P : Program} {w : World} {K : PySem.W.Frag} {mg : Str → Option Value} {base : Heap}
/-- a def f(*v) by its body -/
theorem okStar {x qual pv : Str} {st : Stmt} {f : Addr} {fd : FuncData} {N : List Str} {k : Nat} {sp : Sp} (F : Fun K x qual st f fd) (S : FnScope N [pv] (defScope st))
    (hb0 : ∀ (kV doc pm : Value) (an : Option Addr) (cdv ct : Value), bindArgs (PySem.W.fnOf x qual (defArgs st) (defBody st) (defScope st) .none kV doc pm an cdv ct) ⟨[], []⟩ = (newTuple [] >>= fun t => pure [(pv, t)]))
    (hb1 : ∀ (kV doc pm : Value) (an : Option Addr) (cdv ct u : Value) (us : List Value), bindArgs (PySem.W.fnOf x qual (defArgs st) (defBody st) (defScope st) .none kV doc pm an cdv ct) ⟨u :: us, []⟩ = (newTuple (u :: us) >>= fun t => pure [(pv, t)]))
    (hbody : ∀ (cdv : Value) (A : Around) (outer : List Env) (s : Shared) (H : Hp) (vs : List V) (Q : VK) (E : XK), Room k (A.deeper (envOfC qual (defScope st) s.heap.objs.size f cdv)) → sp vs H Q E →
      ∃ t, PSs (cxOf CX0 P w K mg base N qual (defScope st) f cdv A outer s H E).nox (defBody st) t ∧ t { nx := fun _ H' => Q .non H', rt := Q } (start N vs) H) :
    FnR P w K mg base CX0 (k + 1) f (fun vs H Q E => vs.length ≤ sizeLine ∧ ∀ p, H p = none → sp [V.ref p] (upd H p (.tup vs)) Q E) := by
  obtain ⟨oc, od, kV, doc, pm, an, cdv, ct, osl, rfl, lk, hcd⟩ := F.ex
  have G := StX.fn_star (P := P) (w := w) (mg := mg) (base := base) (CX := CX0) (k := k) (sp := sp) (ps := []) (pv := pv) lk hcd S StX.cxUp_none (fun us rest h => by
    obtain rfl : us = [] := List.length_eq_zero_iff.mp h
    cases rest with
    | nil => exact hb0 kV doc pm an cdv ct
    | cons u r => exact hb1 kV doc pm an cdv ct u r) fun A outer s H vs Q E hr hs => by
      obtain ⟨t, h, q⟩ := hbody cdv A outer s H vs Q E hr hs
      exact ⟨t, h.nox, q⟩
  exact G.imp fun vs H Q E h => ⟨[], vs, rfl, rfl, h.1, h.2⟩
end
end PX
/-! enumerate(a tuple). -/
namespace PX
open PySem PySem.Spec PyProof.Rows L2
theorem meets_enum1 {v : Value} {o : Obj} {H : Heap → Prop} (B : Begins v o H) : Meets (Builtin.«enumerate.__new__» ⟨[.type "enumerate", v], []⟩) (fun _ R s => H s.heap ∧
      R (.ok (.ret (.ref (s.heap.push o).objs.size))) { s with heap := (s.heap.push o).push { cls := .type "enumerate", data := .fields #[.none, .bool false, .ref s.heap.objs.size, rawInt 0, .none, .none] } }) :=
  .of_wp fun prog w A R s h => by
    obtain ⟨hp, g, d, tk, os⟩ := s
    obtain ⟨h1, h⟩ := h
    have hsub := sub_enumerate
    have go : ∀ {A' : Around} {E : Value → Shared → Prop} {Q : Value → Shared → Prop}, Q (.ref hp.objs.size) ⟨hp.push o, g, d, tk, os⟩ → wpAny (model prog w) A' (pyIter v) Q E ⟨hp, g, d, tk, os⟩ := fun q => B.iter prog w _ _ ⟨hp, g, d, tk, os⟩ _ h1 q
    wp_walk using go
    refine wpAny_stack_any fun st => wpAny_pure ?_
    split
    · rename_i c _ _ _ _ _
      cases (c == Value.type "enumerate") <;> (wp_walk using go; exact ⟨_, rfl, h⟩)
    · wp_walk using go
      exact ⟨_, rfl, h⟩
theorem enum_tup {prog : Program} {w : World} {A : Around} {E : Value → Shared → Prop} {s : Shared} {t : Addr} {items : Array Value} {Q : Value → Shared → Prop} (hT : s.heap.IsTuple t items)
    (h : ∀ h', IsEnum h' (s.heap.objs.size + 1) s.heap.objs.size 0 .none → h'.IsTupleIter s.heap.objs.size t 0 → (∀ b o, s.heap.get? b = some o → h'.get? b = some o) → Q (.ref (s.heap.objs.size + 1)) { s with heap := h' }) :
    wpAny (model prog w) A (call (.type "enumerate") [.ref t]) Q E s := by
  refine callType_new F.called_enumerate (by decide) (F.typeCall_enumerate_1 _) (F.newCall_enumerate_1 _) (fun obj => F.args_object_init_2 obj _) F.entry_enumerate_new (meets_enum1 (begins_tuple t items)) ⟨hT, ?_⟩
  have hz : (s.heap.push { cls := .type "tuple_iterator", data := .fields #[.ref t, .int 0 0] }).objs.size = s.heap.objs.size + 1 := Heap.size_push ..
  show _ ∧ _
  rw [hz]
  have lies := Heap.get?_push_size (s.heap.push { cls := .type "tuple_iterator", data := .fields #[.ref t, .int 0 0] }) (o := { cls := .type "enumerate", data := .fields #[.none, .bool false, .ref s.heap.objs.size, rawInt 0, .none, .none] }) rfl
  rw [hz] at lies
  exact ⟨⟨_, lies, rfl⟩, h _ lies ⟨_, Heap.get?_push_of_some _ (Heap.get?_push_size _ rfl), rfl, rfl⟩ fun b o x => Heap.get?_push_of_some _ (Heap.get?_push_of_some _ x)⟩

/-- the tuple at a, each item in a new pair -/
def IteT (K : PySem.W.Frag) (a : Addr) : It :=
  ⟨fun i H => ∃ (xs : List V) (x : V), SqT K H a xs ∧ xs[i]? = some x, fun i H v H' => ∃ T x, v = .ref T ∧ H T = none ∧ H' = upd H T (.tup [.int (i : Nat), x]) ∧ ∀ xs, SqT K H a xs → xs[i]? = some x, fun i H => ∃ xs : List V, SqT K H a xs ∧ xs.length ≤ i⟩
theorem turn_enumT {P : Program} {w : World} {K : PySem.W.Frag} {elts : List Expr} {kk : Nat} {tpos : Pos} (a e it : Addr) :
    Turn P w K (.Tuple elts kk tpos) (IteT K a) [e, it] e (fun i h => (∃ old, IsEnum h e it ((i : Nat) : Int) old) ∧ h.IsTupleIter it a i ∧ e ≠ it) where
  mem := by simp
  obj := fun i h st b hb => by
    obtain ⟨⟨old, lies⟩, ⟨o, ho, hc, hd⟩, _⟩ := st
    rcases (by simpa using hb : b = e ∨ b = it) with z | z
    · rw [z]
      exact ⟨_, lies, fun v q => nomatch q⟩
    · rw [z]
      exact ⟨o, ho, fun v q => by rw [hd] at q; cases q⟩
  keep := fun i h h' st k => by
    obtain ⟨⟨old, lies⟩, hi, apart⟩ := st
    exact ⟨⟨old, k e (by simp) _ lies⟩, hi.at fun o q => k it (by simp) o q, apart⟩
  item := by
    intro X hP hw hK hc i pins s σ H E I hf st hg
    subst hP hw hK
    obtain ⟨⟨old, lies⟩, iter, apart⟩ := st
    obtain ⟨xs, x, hq, hx⟩ := hg
    obtain ⟨its, rv, tp, hz⟩ := I.tuple hq
    obtain ⟨u, hu, ru⟩ := rv.get hx
    have lo := Heap.lt_size lies
    have lt : it < s.heap.objs.size := by
      obtain ⟨_, q, _⟩ := iter
      exact Heap.lt_size q
    have hae : a ≠ e := fun z => by
      obtain ⟨o, ho, hcl, _⟩ := tp
      rw [z, lies] at ho
      cases ho
      exact absurd (Value.type.inj hcl) (by decide)
    have hai : a ≠ it := fun z => by
      obtain ⟨o, ho, hcl, _⟩ := tp
      obtain ⟨o', ho', hcl', _⟩ := iter
      rw [z, ho'] at ho
      cases ho
      rw [hcl'] at hcl
      exact absurd (Value.type.inj hcl) (by decide)
    have size : i < its.toArray.size := by
      have := (List.getElem?_eq_some_iff.mp hu).1
      simpa using this
    refine wpAny_pyNext_enum_itemC (Draws.tuple (A := X.A.in1) (I.ok.hd hc) it a hai its.toArray) lies ⟨iter, tp⟩ size apart (by simp [apart, hae.symm]) fun y h' tk hy ho st' hT hsz hk => ?_
    obtain rfl : y = u := by
      have := hy.symm.trans (by simpa using hu : its.toArray[i]? = some u)
      exact Option.some.inj this
    refine ⟨_, rfl, wpAny_letOwnedTupleGo_enum (s := { s with heap := h', toks := tk + 1 }) ho fun h2 he2 but => ?_⟩
    have new2 : h2.get? s.heap.objs.size = some { cls := .type "tuple", data := .seq #[.int i tk, y] } := (but.2 _ (Nat.ne_of_gt lo)).trans hT
    have new : ObjOk X.prog X.w (upd H s.heap.objs.size (.tup [.int (i : Nat), x])) h2 s.heap.objs.size (.tup [.int (i : Nat), x]) := ⟨by show 2 ≤ sizeLine; decide, [.int i tk, y], .cons ⟨_, rfl⟩ (.cons ru .nil), ⟨_, new2, rfl, _, rfl⟩⟩
    have I1 : Inv X pins σ (upd H s.heap.objs.size (.tup [.int (i : Nat), x])) { s with heap := h2, toks := tk + 1 } :=
      I.turnedNew (ch := [e, it]) (fun b ob hb q => (but.2 b (fun z => hb (by simp [z]))).trans (hk b ob (fun z => hb (by simp [z])) (fun z => hb (by simp [z])) q)) hf (Nat.le_refl _) new
    refine ⟨.ref s.heap.objs.size, _, I1, rfl, ⟨_, x, rfl, I.hok.fresh (Nat.le_refl _), rfl, fun ys hy2 => by rw [I.tuple_inj hy2 hq]; exact hx⟩, ⟨⟨y, ?_⟩, st'.1.at fun o q => (but.2 it apart.symm).trans q, apart⟩, fun b hb => ?_⟩
    · have z : ((i + 1 : Nat) : Int) = (i : Int) + 1 := by omega
      rw [z]
      exact he2
    · have less : b < s.heap.objs.size := by
        rcases (by simpa using hb : b = e ∨ b = it) with z | z
        · rw [z]; exact lo
        · rw [z]; exact lt
      rw [upd_ne (Nat.ne_of_lt less)]
      exact (hf b hb).1
  done := by
    intro X hP hw hK hc i pins s σ H E I hf st hg
    subst hP hw hK
    obtain ⟨⟨old, lies⟩, iter, apart⟩ := st
    obtain ⟨xs, hq, hx⟩ := hg
    obtain ⟨its, rv, tp, hz⟩ := I.tuple hq
    obtain ⟨k0, k1, k2, k3, k4, k5⟩ := hf it (by simp)
    have len := rv.length
    have none_at : its.toArray[i]? = none := by
      have : its.length ≤ i := by omega
      simpa using this
    unfold pyNext
    have ty : s.TypeIs (.ref e) "enumerate" := ⟨_, lies, rfl⟩
    refine wpAny_bind (wpAny_attempt (wpAny_callSpecial?_slot (name := Str.ofString "__next__") ty F.slot_enumerate_next (wpAny_call_entry F.slot_enumerate_next ty F.entry_enumerate_next ?_ (F.args_enumerate_next_1 _))))
    show wpAny _ _ (field (.ref e) 2 >>= _) _ _ _
    refine wpAny_bind (wpAny_field lies rfl (x := .ref it) rfl (wpAny_bind (wpAny_nextOf_tuple_end (I.ok.hd hc) iter tp none_at fun h' x ext stop => ?_)))
    obtain ⟨o, ho, hcl⟩ := stop
    refine wpAny_bind (wpAny_isInstance (T := "StopIteration") (b := true) ⟨o, ho, hcl⟩ isSubtype_stop ?_)
    exact wpAny_pure ⟨rfl, I.turned (t' := s.toks) (fun b o hb q => ext b o hb q) k0 k1 k3 k4 k5⟩
  self := fun A i s Q E st h => by
    obtain ⟨⟨_, lies⟩, _⟩ := st
    exact wpAny_pyIter_enum lies h
def iEnumT (K : PySem.W.Frag) (ta : TA) : TI := fun σ H R => ta σ H fun vs H1 => ∃ a xs, vs = [.ref a] ∧ SqT K H1 a xs ∧ R (IteT K a) H1
theorem pi_enumT {X : Cx} {e : Expr} {ta : TA} {p pos tpos : Pos} {elts : List Expr} {kk : Nat} (hg : Gl X "enumerate") (hm : X.mg "enumerate" = none) (ha : PA X [e] ta) (hs : starEach [e] X.env = [(false, eval e X.env)] := by rfl) :
    PI X (.Tuple elts kk tpos) (.Call (.Name "enumerate" p) [e] [] pos) (iEnumT X.K ta) := by
  refine ⟨fun pins s σ H R I h => Call_ (ld_blt I hg hm boot_enumerate (PyProof.Rows.callWith_type1 (thn (ha.run pos pins s σ H _ I h) fun us s1 ⟨vs, H1, I1, r1, a, xs, ex, hq, q⟩ => ?_) hs rfl))⟩
  subst ex
  obtain ⟨u, rfl, ru⟩ := vals1 r1
  obtain rfl : u = Value.ref a := ru
  obtain ⟨its, rv, tp, hz⟩ := I1.tuple hq
  refine enum_tup tp fun h' lies iter hk => wpAny_pyIter_enum lies ?_
  have I2 : Inv X pins σ H1 { s1 with heap := h' } := I1.kept (t' := s1.toks) hk
  refine ⟨s1.heap.objs.size + 1, [s1.heap.objs.size + 1, s1.heap.objs.size], _, _, H1, rfl, I2, turn_enumT a (s1.heap.objs.size + 1) s1.heap.objs.size, ⟨⟨.none, lies⟩, iter, Nat.succ_ne_self _⟩, fun b hb => ?_, q⟩
  have above : s1.heap.objs.size ≤ b := by
    rcases (by simpa using hb : b = s1.heap.objs.size + 1 ∨ b = s1.heap.objs.size) with z | z
    · rw [z]; exact Nat.le_add_right _ _
    · rw [z]; exact Nat.le_refl _
  exact I1.fpOk above (I1.hok.fresh above)
theorem walk_enumT {K : PySem.W.Frag} {a : Addr} {xs : List V} : Walk (IteT K a) xs.length (fun H => SqT K H a xs) (YPair (fun i => some (.int (i : Nat))) (fun i => xs[i]?)) := by
  refine ⟨fun i _ hi q => ⟨xs, xs[i], q, by simp [hi]⟩, fun _ q => ⟨xs, q, Nat.le_refl _⟩, fun i H v H' _ q y => ?_⟩
  obtain ⟨T, x, h1, h2, h3, h4⟩ := y
  exact ⟨T, .int (i : Nat), x, h1, h2, h3, rfl, h4 xs q⟩
end PX
/-! sorted(d.items()), d a dict of ints. -/
namespace PX
open PySem PySem.Spec PyProof.Rows L2
def rItemsK : V → List V → Hp → VK → Prop := fun x xs H Q => ∃ (a : Addr) (kvs : List (Key × V)), x = .ref a ∧ xs = [] ∧ H a = some (.dK kvs) ∧ ∀ p, H p = none → Q (.ref p) (upd H p (DX.itemsO p a))
theorem mt_itemsK {X : Cx} : MtR X "dict.items" rItemsK := by
  intro pins s σ H x xs v us Q I rx rxs h
  obtain ⟨a, kvs, rfl, rfl, ha, q⟩ := h
  obtain rfl : v = Value.ref a := rx
  cases rxs
  obtain ⟨z, hd, vs, kv, o, es, ep, ho, hx, hdat, _⟩ := dk_of I.hok ha
  refine DT.callItems (es := es) (ep := ep) hd ⟨o, ho, hx, hdat⟩ ?_
  have fresh : H s.heap.objs.size = none := I.hok.fresh (Nat.le_refl _)
  exact ⟨.ref s.heap.objs.size, _, I.laid (t' := s.toks) (o := DX.itemsO s.heap.objs.size a) (fun b u e => Heap.get?_push_of_some _ e) (Nat.le_refl _) (DX.itemsO_ok (Heap.get?_push_size _ rfl)), rfl, q _ fresh⟩
def addrOf : Value → Addr
  | .ref b => b
  | _ => 0
theorem tab_get {l : Tab} {vs : List (Key × Value)} (kv : KV (tab l) vs) {j : Nat} {p : Key × Value} (h : vs[j]? = some p) : ∃ z, l[j]? = some z ∧ p.1 = Sum.inl z.1 ∧ ∃ t, p.2 = Value.int z.2 t := by
  unfold KV at kv
  have len : (tab l).length = vs.length := Paired.length kv
  have lt := (List.getElem?_eq_some_iff.mp h).1
  rw [tab_len] at len
  obtain ⟨z, hz⟩ : ∃ z, l[j]? = some z := ⟨l[j], List.getElem?_eq_getElem (by omega)⟩
  have hz2 : (tab l)[j]? = some (kI z) := by rw [show tab l = l.map kI from rfl, List.getElem?_map, hz] <;> rfl
  obtain ⟨q, hq, r1, r2⟩ := LiI.paired_get kv hz2
  rw [h] at hq
  cases hq
  exact ⟨z, hz, r1.symm, r2⟩
theorem pairs_get {P : Program} {w : World} : ∀ {es : List DictEntry} {vs : List (Key × Value)}, Pairs (mixKind P w) es vs → es.length = vs.length ∧ ∀ {j : Nat} {e : DictEntry}, es[j]? = some e → ∃ p, vs[j]? = some p ∧ (mixKind P w).is p.1 e.key = true ∧ e.val = p.2
  | _, _, .nil => ⟨rfl, fun h => nomatch h⟩
  | _, _, .cons h1 h2 r => by
    obtain ⟨len, get⟩ := pairs_get r
    refine ⟨congrArg (· + 1) len, fun {j e} h => ?_⟩
    cases j with
    | zero =>
      have z := Option.some.inj h
      subst z
      exact ⟨_, rfl, h1, h2⟩
    | succ j => exact get h
/-- sorted(a view of the items) -/
def rSortIt : List V → Hp → VK → Prop := fun vs H Q => ∃ (p a : Addr) (l : Tab), vs = [.ref p] ∧ H p = some (DX.itemsO p a) ∧ H a = some (.dK (tab l)) ∧ l.length ≤ 1000 ∧
  ∀ (H' : Hp) (r : Addr) (ts : List Addr) (l' : Tab), (∀ b o, H b = some o → H' b = some o) → H r = none → H' r = some (.lst (ts.map V.ref)) → ts.length = l'.length →
    (∀ (j : Nat) (t : Addr) (z : Int × Int), ts[j]? = some t → l'[j]? = some z → H' t = some (.tup [.int z.1, .int z.2])) → l'.Perm l → l'.Pairwise (fun x y => x.1 ≤ y.1) → Q (.ref r) H'
theorem cr_sortIt {X : Cx} (hc : X.calm = true) : CallR X (.builtin "sorted") rSortIt := by
  intro pins s σ H xs us Q I r h
  obtain ⟨p, a, l, rfl, hp, ha, few, q⟩ := h
  obtain rfl := Vals.ref1 r
  have view : s.heap.IsItemsView p a := (I.hok p _ hp).1
  obtain ⟨z, hd, vs, kv, o, es, ep, ho, hx, hdat, keys, pairs, nd0⟩ := dk_of I.hok ha
  have hh : X.A.handled = none := I.ok.hd hc
  obtain ⟨len1, get1⟩ := pairs_get pairs
  have len2 : (tab l).length = vs.length := Paired.length kv
  rw [tab_len] at len2
  rw [Array.length_toList] at len1
  refine DT.sortedI (es := es) (ep := ep) hh view ⟨o, ho, hx, hdat⟩ (by rw [sizeLine_eq]; omega) fun h1 tk as hk lt lenA made => ?_
  have lak : as.length = l.length := by omega
  have nd : as.Nodup := List.Pairwise.imp (fun h => Nat.ne_of_lt h) made.rise
  -- the pairs that were made
  have pr : ∀ (j : Nat) (b : Addr), as[j]? = some b → ∃ (z : Int × Int) (t u : Tok), l[j]? = some z ∧ h1.get? b = some { cls := .type "tuple", data := .seq #[.int z.1 t, .int z.2 u] } := by
    intro j b hj
    obtain ⟨en, he, hg⟩ := made.pairs j b hj
    obtain ⟨pq, hpq, is, val⟩ := get1 (j := j) (e := en) (by rw [Array.getElem?_toList]; exact he)
    obtain ⟨z, hz, k1, u, k2⟩ := tab_get kv hpq
    rw [k1] at is
    obtain ⟨t, hkey⟩ : ∃ t, en.key = Value.int z.1 t := by
      rcases keyIs_shape (show keyIs (Sum.inl z.1 : Key) en.key = true from is) with ⟨i, t, e1, e2⟩ | ⟨x, t, e1, e2⟩
      · cases e1
        exact ⟨t, e2⟩
      · cases e1
    exact ⟨z, t, u, hz, by rw [hg, hkey, val, k2]⟩
  have ndz : ((as.zip l).map (·.1)).Nodup := by
    rw [List.map_fst_zip (by omega)]
    exact nd
  let kz : Addr → Int × Int := fun b => (getL (as.zip l) b).getD (0, 0)
  have kzAt : ∀ (j : Nat) (b : Addr) (z : Int × Int), as[j]? = some b → l[j]? = some z → kz b = z := fun j b z hb hz => by
    have m : (b, z) ∈ as.zip l := List.mem_of_getElem? (List.getElem?_zip_eq_some.mpr ⟨hb, hz⟩)
    show (getL (as.zip l) b).getD (0, 0) = z
    rw [getL_of_mem ndz m] <;> rfl
  have mapKz : as.map kz = l := by
    refine List.ext_getElem? fun j => ?_
    rw [List.getElem?_map]
    cases hb : as[j]? with
    | none =>
      have := List.getElem?_eq_none_iff.mp hb
      exact (List.getElem?_eq_none_iff.mpr (by omega)).symm
    | some b =>
      obtain ⟨z, _, _, hz, _⟩ := pr j b hb
      rw [hz]
      exact congrArg some (kzAt j b z hb hz)
  -- the heap of the sort
  have atL : (h1.push { cls := .type "list", data := .seq (as.map Value.ref).toArray }).get? h1.objs.size = some (seqObj "list" (as.map Value.ref).toArray 0) := Heap.get?_push_size _ rfl
  have up : ∀ b o, h1.get? b = some o → (h1.push { cls := .type "list", data := .seq (as.map Value.ref).toArray }).get? b = some o := fun b o e => Heap.get?_push_of_some _ e
  have ne1 : ∀ b o, h1.get? b = some o → b ≠ h1.objs.size := fun b o e => Nat.ne_of_lt (Heap.lt_size e)
  generalize h1.push { cls := .type "list", data := .seq (as.map Value.ref).toArray } = h2 at atL up ⊢
  have isPair : ∀ v ∈ as.map Value.ref, Srt.IsPair h2 v (kz (addrOf v)).1 (kz (addrOf v)).2 := fun v hv => by
    obtain ⟨b, hb, rfl⟩ := List.mem_map.mp hv
    obtain ⟨j, hj⟩ := List.mem_iff_getElem?.mp hb
    obtain ⟨z, t, u, hz, hg⟩ := pr j b hj
    rw [show kz (addrOf (.ref b)) = z from kzAt j b z hj hz]
    exact ⟨b, _, t, u, 0, rfl, up _ _ hg, rfl, rfl⟩
  refine wpAny_call_entry PyProof.Rows.slot_list_sort ⟨_, atL, rfl⟩ PyProof.Rows.entry_list_sort (SrtO.list_sort_ord (s := { s with heap := h2, toks := tk }) (SrtO.swo_lex fun v => kz (addrOf v)) atL (by rw [List.length_map, sizeLine_eq]; omega) (fun two => ?_) fun out srt stb => ⟨.none, rfl, ?_⟩) (PyProof.Rows.args_list_sort _)
  · refine SrtO.pairs_sortableO (s := { s with heap := h2, toks := tk }) (by omega) isPair fun o e => ?_
    have e2 := e.symm.trans atL
    cases e2
    exact fun c => absurd (Value.type.inj c) (by decide)
  · show EP X pins σ Q (.ref h1.objs.size) { s with heap := sortedHeap h2 h1.objs.size (as.map Value.ref) out.toArray, toks := tk }
    have isRef : ∀ v ∈ out, v = Value.ref (addrOf v) := fun v hv => by
      obtain ⟨b, _, rfl⟩ := List.mem_map.mp (stb.perm.mem_iff.mp hv)
      rfl
    have outs : (out.map addrOf).map Value.ref = out := by
      rw [List.map_map]
      exact (List.map_congr_left fun v hv => (isRef v hv).symm).trans (List.map_id _)
    have permA : (out.map addrOf).Perm as := by
      have e := stb.perm.map addrOf
      rw [List.map_map] at e
      exact e.trans (by rw [show (as.map (addrOf ∘ Value.ref)) = as from List.map_id _])
    have permL : ((out.map addrOf).map kz).Perm l := by
      have e := permA.map kz
      rw [mapKz] at e
      exact e
    have rises : ((out.map addrOf).map kz).Pairwise (fun x y => x.1 ≤ y.1) := by
      rw [List.map_map, List.pairwise_map]
      refine List.Pairwise.imp (fun {v u} h => ?_) srt
      have no := SrtO.lexB_no.mp h
      show (kz (addrOf v)).1 ≤ (kz (addrOf u)).1
      omega
    have keepF : ∀ b o, b ≠ h1.objs.size → h2.get? b = some o → (sortedHeap h2 h1.objs.size (as.map Value.ref) out.toArray).get? b = some o := fun b o hb e => (PyProof.Rows.sortedHeap_old hb (Heap.lt_size e)).trans e
    have keepS : ∀ b o, s.heap.get? b = some o → (sortedHeap h2 h1.objs.size (as.map Value.ref) out.toArray).get? b = some o := fun b o e => keepF b o (ne1 _ _ (hk b o e)) (up _ _ (hk b o e))
    obtain ⟨eF, atF⟩ := PyProof.Rows.sortedHeap_at (vs := as.map Value.ref) (out := out.toArray) atL
    have I1 : Inv X pins σ H { s with heap := sortedHeap h2 h1.objs.size (as.map Value.ref) out.toArray, toks := tk } := I.kept (t' := tk) keepS
    have fresh : H h1.objs.size = none := I.hok.fresh (Nat.le_of_lt lt)
    have lenT : (out.map addrOf).length = l.length := by
      rw [permA.length_eq]
      exact lak
    have rv : Vals ((out.map addrOf).map V.ref) out := by
      have e := LiI.vals_refs (out.map addrOf)
      rw [outs] at e
      exact e
    have I2 : Inv X pins σ (upd H h1.objs.size (.lst ((out.map addrOf).map V.ref))) { s with heap := sortedHeap h2 h1.objs.size (as.map Value.ref) out.toArray, toks := tk } :=
      I1.take (h' := sortedHeap h2 h1.objs.size (as.map Value.ref) out.toArray) (t' := tk) (fun b ob _ e => e) (I.fpOk (Nat.le_of_lt lt) fresh) ⟨by rw [List.length_map, lenT, sizeLine_eq]; omega, out, eF, rv, atF⟩
    obtain ⟨H2, I3, g, qt⟩ := DX.takeT (P := fun b ws => ∃ (j : Nat) (z : Int × Int), as[j]? = some b ∧ l[j]? = some z ∧ ws = [.int z.1, .int z.2]) I as _ I2 nd fun b hb => by
      obtain ⟨j, hj⟩ := List.mem_iff_getElem?.mp hb
      obtain ⟨z, t, u, hz, hg⟩ := pr j b hj
      have above : s.heap.objs.size ≤ b := Nat.le_of_lt (made.above b hb)
      refine ⟨above, ?_, [.int z.1, .int z.2], ⟨j, z, hj, hz, rfl⟩, fun H3 => ⟨by show 2 ≤ sizeLine; decide, [.int z.1 t, .int z.2 u], .cons ⟨_, rfl⟩ (.cons ⟨_, rfl⟩ .nil), ⟨_, keepF _ _ (ne1 _ _ hg) (up _ _ hg), rfl, 0, rfl⟩⟩⟩
      rw [upd_ne (ne1 _ _ hg)]
      exact I.hok.fresh above
    have gr : ∀ b o, H b = some o → H2 b = some o := fun b o e => g b o (by rw [upd_ne (ne_of_none e fresh)]; exact e)
    refine ⟨.ref h1.objs.size, H2, I3, rfl, q H2 h1.objs.size (out.map addrOf) ((out.map addrOf).map kz) gr fresh (g _ _ upd_same) (List.length_map ..).symm (fun j t z ht hz => ?_) permL rises⟩
    rw [List.getElem?_map, ht] at hz
    cases hz
    obtain ⟨ws, ⟨i, z, i1, i2, rfl⟩, hH⟩ := qt t (permA.mem_iff.mp (List.mem_of_getElem? ht))
    rw [show kz t = z from kzAt i t z i1 i2]
    exact hH
end PX
/-! Rules: trees over names, and how one stands in a heap. -/
namespace PX
open PySem PySem.Spec PyProof.Rows L2
inductive RT where
  | base (n : Str)
  | op (w : Str) (ps : List RT)
mutual
def RT.flat : RT → List Str
  | .base n => [n]
  | .op w ps => w :: flats ps
def flats : List RT → List Str
  | [] => []
  | p :: r => p.flat ++ flats r
end
mutual
def RT.text : RT → Str
  | .base n => n
  | .op w ps => w ++ "(" ++ PySem.Txt.join ", " (texts ps) ++ ")"
def texts : List RT → List Str
  | [] => []
  | p :: r => p.text :: texts r
end
mutual
def RT.bases : RT → List Str
  | .base n => [n]
  | .op _ ps => basesL ps
def basesL : List RT → List Str
  | [] => []
  | p :: r => p.bases ++ basesL r
end
mutual
/-- no less than the text's length and the number of nodes -/
def RT.wt : RT → Nat
  | .base n => n.length + 1
  | .op w ps => w.length + 3 + wts ps
def wts : List RT → Nat
  | [] => 0
  | p :: r => p.wt + 2 + wts r
end
theorem texts_len : ∀ ps : List RT, (texts ps).length = ps.length
  | [] => rfl
  | p :: r => congrArg (· + 1) (texts_len r)
mutual
theorem RT.text_le : ∀ r : RT, r.text.length ≤ r.wt
  | .base n => by
    simp only [RT.text, RT.wt]
    omega
  | .op w ps => by
    have h := texts_le ps
    have j : (PySem.Txt.join ", " (texts ps)).length ≤ wts ps := by
      show (Builtin.Str.glued ", " (texts ps)).length ≤ _
      rw [StrLaws.glued_eq_join]
      have z := StrLaws.join_length_le ", " (texts ps)
      have e2 : ((", " : String) : Str).length = 2 := rfl
      rw [e2] at z
      omega
    simp only [RT.text, RT.wt, strLen_append]
    have e1 : (("(" : String) : Str).length = 1 := rfl
    have e3 : ((")" : String) : Str).length = 1 := rfl
    omega
theorem texts_le : ∀ ps : List RT, ((texts ps).map (·.length)).sum + (texts ps).length * 2 ≤ wts ps
  | [] => Nat.le_refl _
  | p :: r => by
    have h1 := RT.text_le p
    have h2 := texts_le r
    simp only [texts, wts, List.map_cons, List.sum_cons, List.length_cons, Nat.add_mul]
    omega
end
mutual
theorem RT.flat_le : ∀ r : RT, r.flat.length ≤ r.wt
  | .base n => by
    simp only [RT.flat, RT.wt, List.length_singleton]
    omega
  | .op w ps => by
    have h := flats_le ps
    simp only [RT.flat, RT.wt, List.length_cons]
    omega
theorem flats_le : ∀ ps : List RT, (flats ps).length ≤ wts ps
  | [] => Nat.le_refl _
  | p :: r => by
    have h1 := RT.flat_le p
    have h2 := flats_le r
    simp only [flats, wts, List.length_append]
    omega
end
theorem len_wts : ∀ ps : List RT, ps.length ≤ wts ps
  | [] => Nat.le_refl _
  | p :: r => by
    have h := len_wts r
    simp only [wts, List.length_cons]
    omega
/-- the fields of a rule -/
def fR (op : Str) (nm : V) (t f : Addr) (tx : Str) (b : Addr) : List (Str × V) := putF "base_names" (.ref b) (putF "written" (.str tx) (putF "flat" (.ref f) (putF "operands" (.ref t) (putF "name" nm (putF "operation" (.str op) [])))))
section
variable {op : Str} {nm : V} {t f : Addr} {tx : Str} {b : Addr}
theorem fR_operation : (fR op nm t f tx b).lookup ("operation" : Str) = some (.str op) := by rfl
theorem fR_name : (fR op nm t f tx b).lookup ("name" : Str) = some nm := by rfl
theorem fR_operands : (fR op nm t f tx b).lookup ("operands" : Str) = some (.ref t) := by rfl
theorem fR_flat : (fR op nm t f tx b).lookup ("flat" : Str) = some (.ref f) := by rfl
theorem fR_written : (fR op nm t f tx b).lookup ("written" : Str) = some (.str tx) := by rfl
theorem fR_base_names : (fR op nm t f tx b).lookup ("base_names" : Str) = some (.ref b) := by rfl
end
/-- the names of some rules: sorted, each once -/
structure NamesOk (ns all : List Str) : Prop where
  srt : sortedS ns = true
  nd : ns.Nodup
  mem : ∀ x, x ∈ ns ↔ x ∈ all
mutual
/-- at a stands the rule -/
def RuleAt (C : Addr) (H : Hp) : RT → Addr → Prop
  | .base n, a => ∃ dx t f b : Addr, H a = some (.ins C dx (fR "base" (.str n) t f n b)) ∧ H t = some (.tup []) ∧ H f = some (.tup [.str n]) ∧ H b = some (.tup [.str n])
  | .op w ps, a => ∃ (dx t f b : Addr) (ls : List Addr) (ns : List Str), H a = some (.ins C dx (fR w .non t f (RT.op w ps).text b)) ∧ H t = some (.tup (ls.map V.ref)) ∧ RulesAt C H ps ls ∧ H f = some (.tup ((w :: flats ps).map V.str)) ∧ H b = some (.tup (ns.map V.str)) ∧ NamesOk ns (basesL ps)
def RulesAt (C : Addr) (H : Hp) : List RT → List Addr → Prop
  | [], ls => ls = []
  | p :: ps, ls => ∃ (a : Addr) (r : List Addr), ls = a :: r ∧ RuleAt C H p a ∧ RulesAt C H ps r
end
mutual
theorem RuleAt.same {C : Addr} {H H' : Hp} (s : Same H H') : ∀ (r : RT) (a : Addr), RuleAt C H r a → RuleAt C H' r a
  | .base n, a, h => by
    obtain ⟨dx, t, f, b, h1, h2, h3, h4⟩ := h
    exact ⟨dx, t, f, b, s _ _ h1, s _ _ h2, s _ _ h3, s _ _ h4⟩
  | .op w ps, a, h => by
    obtain ⟨dx, t, f, b, ls, ns, h1, h2, h3, h4, h5, h6⟩ := h
    exact ⟨dx, t, f, b, ls, ns, s _ _ h1, s _ _ h2, RulesAt.same s ps ls h3, s _ _ h4, s _ _ h5, h6⟩
theorem RulesAt.same {C : Addr} {H H' : Hp} (s : Same H H') : ∀ (ps : List RT) (ls : List Addr), RulesAt C H ps ls → RulesAt C H' ps ls
  | [], _, h => h
  | p :: ps, _, h => by
    obtain ⟨a, r, e, h1, h2⟩ := h
    exact ⟨a, r, e, RuleAt.same s p a h1, RulesAt.same s ps r h2⟩
end
theorem RulesAt.len {C : Addr} {H : Hp} : ∀ {ps : List RT} {ls : List Addr}, RulesAt C H ps ls → ls.length = ps.length
  | [], _, h => by
    rw [show _ = [] from h] <;> rfl
  | p :: ps, _, h => by
    obtain ⟨a, r, rfl, h1, h2⟩ := h
    exact congrArg (· + 1) h2.len
theorem RulesAt.get {C : Addr} {H : Hp} : ∀ {ps : List RT} {ls : List Addr}, RulesAt C H ps ls → ∀ {i : Nat} {a : Addr}, ls[i]? = some a → ∃ r, ps[i]? = some r ∧ RuleAt C H r a
  | [], _, h, i, a, e => by
    rw [show _ = [] from h] at e
    cases e
  | p :: ps, _, h, i, a, e => by
    obtain ⟨a0, r, rfl, h1, h2⟩ := h
    cases i with
    | zero =>
      cases e
      exact ⟨p, rfl, h1⟩
    | succ i => exact h2.get e
/-- what every rule has -/
theorem RuleAt.fields {C : Addr} {H : Hp} {r : RT} {a : Addr} (h : RuleAt C H r a) : ∃ (op : Str) (nm : V) (dx t f b : Addr) (ns : List Str), H a = some (.ins C dx (fR op nm t f r.text b)) ∧ H f = some (.tup (r.flat.map V.str)) ∧ H b = some (.tup (ns.map V.str)) ∧ NamesOk ns r.bases := by
  cases r with
  | base n =>
    obtain ⟨dx, t, f, b, h1, h2, h3, h4⟩ := h
    exact ⟨_, _, dx, t, f, b, [n], h1, h3, h4, rfl, by simp, fun x => Iff.rfl⟩
  | op w ps =>
    obtain ⟨dx, t, f, b, ls, ns, h1, h2, h3, h4, h5, h6⟩ := h
    exact ⟨_, _, dx, t, f, b, ns, h1, h4, h5, h6⟩
theorem basesL_mem {x : Str} : ∀ {ps : List RT}, x ∈ basesL ps ↔ ∃ p ∈ ps, x ∈ p.bases
  | [] => by simp [basesL]
  | p :: r => by
    simp only [basesL, List.mem_append, List.mem_cons, basesL_mem (ps := r)]
    constructor
    · rintro (h | ⟨q, h1, h2⟩)
      · exact ⟨p, .inl rfl, h⟩
      · exact ⟨q, .inr h1, h2⟩
    · rintro ⟨q, rfl | h1, h2⟩
      · exact .inl h2
      · exact .inr ⟨q, h1, h2⟩
theorem flats_append : ∀ (l : List RT) (r : RT), flats (l ++ [r]) = flats l ++ r.flat
  | [], r => by simp [flats]
  | p :: l, r => by
    rw [List.cons_append]
    simp only [flats]
    rw [flats_append l r, List.append_assoc]
theorem texts_append : ∀ (l : List RT) (r : RT), texts (l ++ [r]) = texts l ++ [r.text]
  | [], r => by simp [texts]
  | p :: l, r => by
    rw [List.cons_append]
    simp only [texts]
    rw [texts_append l r, List.cons_append]
theorem wts_take : ∀ (ps : List RT) (i : Nat), wts (ps.take i) ≤ wts ps
  | [], _ => by simp [wts]
  | p :: r, 0 => Nat.zero_le _
  | p :: r, i + 1 => by
    have := wts_take r i
    rw [List.take_succ_cons]
    simp only [wts]
    omega
theorem join_le_wts (ps : List RT) : (PySem.Txt.join ", " (texts ps)).length ≤ wts ps := by
  have h := texts_le ps
  show (Builtin.Str.glued ", " (texts ps)).length ≤ _
  rw [StrLaws.glued_eq_join]
  have z := StrLaws.join_length_le ", " (texts ps)
  have e2 : ((", " : String) : Str).length = 2 := rfl
  rw [e2] at z
  omega
/-! ### the parts of a rule, each behind its own parts -/
def RT.kids : RT → List RT
  | .base _ => []
  | .op _ ps => ps
mutual
def RT.subs : RT → List RT
  | .base n => [.base n]
  | .op w ps => subsL ps ++ [.op w ps]
def subsL : List RT → List RT
  | [] => []
  | p :: r => p.subs ++ subsL r
end
theorem RT.subs_kids (r : RT) : r.subs = subsL r.kids ++ [r] := by
  cases r <;> rfl
theorem subsL_append : ∀ (l m : List RT), subsL (l ++ m) = subsL l ++ subsL m
  | [], m => rfl
  | p :: l, m => by
    rw [List.cons_append]
    simp only [subsL]
    rw [subsL_append l m, List.append_assoc]
theorem subsL_one (r : RT) : subsL [r] = r.subs := by simp [subsL]
theorem RulesAt.append {C : Addr} {H : Hp} : ∀ {ps qs : List RT} {ls ms : List Addr}, RulesAt C H ps ls → RulesAt C H qs ms → RulesAt C H (ps ++ qs) (ls ++ ms)
  | [], _, _, _, h, g => by
    rw [show _ = [] from h]
    exact g
  | p :: ps, _, _, _, h, g => by
    obtain ⟨a, r, rfl, h1, h2⟩ := h
    exact ⟨a, _, rfl, h1, h2.append g⟩
theorem RulesAt.one {C : Addr} {H : Hp} {r : RT} {a : Addr} (h : RuleAt C H r a) : RulesAt C H [r] [a] := ⟨a, [], rfl, h, rfl⟩
theorem RulesAt.snoc {C : Addr} {H : Hp} : ∀ {ps : List RT} {ls : List Addr}, RulesAt C H ps ls → ps ≠ [] → ∃ ps' r ls' x, ps = ps' ++ [r] ∧ ls = ls' ++ [x] ∧ RulesAt C H ps' ls' ∧ RuleAt C H r x
  | [], _, _, n => absurd rfl n
  | [p], _, h, _ => by
    obtain ⟨a, r, rfl, h1, h2⟩ := h
    rw [show r = [] from h2]
    exact ⟨[], p, [], a, rfl, rfl, rfl, h1⟩
  | p :: q :: ps, _, h, _ => by
    obtain ⟨a, r, rfl, h1, h2⟩ := h
    obtain ⟨ps', r', ls', x, e1, e2, g1, g2⟩ := h2.snoc (by simp)
    exact ⟨p :: ps', r', a :: ls', x, by rw [e1] <;> rfl, by rw [e2] <;> rfl, ⟨a, ls', rfl, h1, g1⟩, g2⟩
theorem RulesAt.rev {C : Addr} {H : Hp} : ∀ {ps : List RT} {ls : List Addr}, RulesAt C H ps ls → RulesAt C H ps.reverse ls.reverse
  | [], _, h => by
    rw [show _ = [] from h]
    exact rfl
  | p :: ps, _, h => by
    obtain ⟨a, r, rfl, h1, h2⟩ := h
    rw [List.reverse_cons, List.reverse_cons]
    exact h2.rev.append (.one h1)
def RT.word : RT → Str
  | .base _ => "base"
  | .op w _ => w
/-- a rule's word and parts -/
theorem RuleAt.parts {C : Addr} {H : Hp} {r : RT} {a : Addr} (h : RuleAt C H r a) : ∃ (nm : V) (dx t f b : Addr) (ls : List Addr), H a = some (.ins C dx (fR r.word nm t f r.text b)) ∧ H t = some (.tup (ls.map V.ref)) ∧ RulesAt C H r.kids ls := by
  cases r with
  | base n =>
    obtain ⟨dx, t, f, b, h1, h2, h3, h4⟩ := h
    exact ⟨_, dx, t, f, b, [], h1, h2, rfl⟩
  | op w ps =>
    obtain ⟨dx, t, f, b, ls, ns, h1, h2, h3, h4, h5, h6⟩ := h
    exact ⟨_, dx, t, f, b, ls, h1, h2, h3⟩
theorem len_subsL : ∀ ps : List RT, ps.length ≤ (subsL ps).length
  | [] => Nat.le_refl _
  | p :: r => by
    have h := len_subsL r
    have h2 : 1 ≤ p.subs.length := by
      rw [RT.subs_kids, List.length_append, List.length_singleton]
      exact Nat.le_add_left _ _
    simp only [subsL, List.length_append, List.length_cons]
    omega
end PX
/-! What the words do to tables, in plain lists. -/
namespace PX
open PySem PySem.Spec PyProof.Rows L2
def mergeT (l m : Tab) : Tab := m.foldl (fun acc p => putL acc p.1 p.2) l
def fillT (l m : Tab) : Tab := m.foldl (fun acc p => if hasL acc p.1 = true then acc else acc ++ [p]) l
def moveT (l m : Tab) : Tab := m.foldl (fun acc p => match getL acc p.1 with | some v => dropL acc p.1 ++ [(p.1, v)] | none => acc) l
theorem mergeK_tab : ∀ (m l : Tab), mergeK (tab l) (tab m) = tab (mergeT l m)
  | [], l => rfl
  | p :: m, l => by
    show mergeK (putK (tab l) (Sum.inl p.1 : Key) (.int p.2)) (tab m) = _
    rw [putK_tab, mergeK_tab m]
    rfl
theorem dropK_tab (l : Tab) (k : Int) : dropK (tab l) (Sum.inl k : Key) = tab (dropL l k) := by
  unfold dropK dropL tab
  rw [List.filter_map]
  congr 1
  refine List.filter_congr fun p _ => ?_
  by_cases e : p.1 = k
  · simp [Function.comp, kI, e]
  · simp [Function.comp, kI, e]
theorem mergeT_len (m : Tab) : ∀ l : Tab, (mergeT l m).length ≤ l.length + m.length := by
  induction m with
  | nil => intro l; exact Nat.le_refl _
  | cons p m ih =>
    intro l
    have h := ih (putL l p.1 p.2)
    have h2 := putL_length l p.1 p.2
    show (mergeT (putL l p.1 p.2) m).length ≤ _
    rw [List.length_cons]
    omega
theorem TabOk.merge {l m : Tab} (h : TabOk l) (g : TabOk m) : TabOk (mergeT l m) := by
  have sm := g.sm
  clear g
  induction m generalizing l with
  | nil => exact h
  | cons p m ih => exact ih (h.put (sm p List.mem_cons_self).1 (sm p List.mem_cons_self).2) fun q hq => sm q (List.mem_cons_of_mem _ hq)
theorem fillT_len (m : Tab) : ∀ l : Tab, (fillT l m).length ≤ l.length + m.length := by
  induction m with
  | nil => intro l; exact Nat.le_refl _
  | cons p m ih =>
    intro l
    show (fillT (if hasL l p.1 = true then l else l ++ [p]) m).length ≤ _
    have h := ih (if hasL l p.1 = true then l else l ++ [p])
    have h2 : (if hasL l p.1 = true then l else l ++ [p]).length ≤ l.length + 1 := by
      split
      · omega
      · rw [List.length_append]; exact Nat.le_refl _
    rw [List.length_cons]
    omega
theorem TabOk.snoc {l : Tab} (h : TabOk l) {p : Int × Int} (n : p.1 ∉ l.map (·.1)) (g : Num p.1 ∧ Num p.2) : TabOk (l ++ [p]) := by
  rw [show l ++ [p] = putL l p.1 p.2 from (putL_new p.2 n).symm]
  exact h.put g.1 g.2
theorem TabOk.fill {l m : Tab} (h : TabOk l) (g : TabOk m) : TabOk (fillT l m) := by
  have sm := g.sm
  clear g
  induction m generalizing l with
  | nil => exact h
  | cons p m ih =>
    refine ih ?_ fun q hq => sm q (List.mem_cons_of_mem _ hq)
    show TabOk (if hasL l p.1 = true then l else l ++ [p])
    by_cases e : hasL l p.1 = true
    · rw [if_pos e]
      exact h
    · rw [if_neg e]
      exact h.snoc (fun z => e (hasL_iff.mpr z)) (sm p List.mem_cons_self)
theorem dropL_keys {l : Tab} {k : Int} : k ∉ (dropL l k).map (·.1) := fun z => by
  obtain ⟨p, hp, e⟩ := List.mem_map.mp z
  have := (List.mem_filter.mp hp).2
  exact (of_decide_eq_true this) e
theorem TabOk.drop {l : Tab} (h : TabOk l) (k : Int) : TabOk (dropL l k) := ⟨h.nd.sublist (List.filter_sublist.map _), fun p hp => h.sm p (List.mem_filter.mp hp).1⟩
theorem moveT_ok {l : Tab} (h : TabOk l) (p : Int × Int) : TabOk (match getL l p.1 with | some v => dropL l p.1 ++ [(p.1, v)] | none => l) := by
  cases e : getL l p.1 with
  | none => exact h
  | some v => exact (h.drop p.1).snoc dropL_keys (h.sm (p.1, v) (mem_of_getL e))
theorem TabOk.move {l m : Tab} (h : TabOk l) : TabOk (moveT l m) := by
  induction m generalizing l with
  | nil => exact h
  | cons p m ih => exact ih (moveT_ok h p)
theorem drop_len {l : Tab} {k v : Int} (nd : (l.map (·.1)).Nodup) (e : getL l k = some v) : (dropL l k).length + 1 ≤ l.length := by
  have hm := mem_of_getL e
  have : (dropL l k).length < l.length := by
    unfold dropL
    rw [← List.countP_eq_length_filter]
    exact Nat.lt_of_le_of_ne (List.countP_le_length) fun z => by
      have all := List.countP_eq_length.mp z (k, v) hm
      exact (of_decide_eq_true all) rfl
  omega
theorem moveT_len {m : Tab} : ∀ {l : Tab}, TabOk l → (moveT l m).length ≤ l.length := by
  induction m with
  | nil => intro l _; exact Nat.le_refl _
  | cons p m ih =>
    intro l h
    refine Nat.le_trans (ih (moveT_ok h p)) ?_
    show List.length (match getL l p.1 with | some v => dropL l p.1 ++ [(p.1, v)] | none => l) ≤ _
    cases e : getL l p.1 with
    | none => exact Nat.le_refl _
    | some v =>
      show (dropL l p.1 ++ [(p.1, v)]).length ≤ _
      rw [List.length_append]
      exact drop_len h.nd e
theorem mergeT_take {l m : Tab} {i : Nat} {p : Int × Int} (h : m[i]? = some p) : mergeT l (m.take (i + 1)) = putL (mergeT l (m.take i)) p.1 p.2 := by
  unfold mergeT
  rw [take_next h, List.foldl_append]
  rfl
theorem fillT_take {l m : Tab} {i : Nat} {p : Int × Int} (h : m[i]? = some p) : fillT l (m.take (i + 1)) = if hasL (fillT l (m.take i)) p.1 = true then fillT l (m.take i) else fillT l (m.take i) ++ [p] := by
  unfold fillT
  rw [take_next h, List.foldl_append]
  rfl
theorem moveT_take {l m : Tab} {i : Nat} {p : Int × Int} (h : m[i]? = some p) : moveT l (m.take (i + 1)) = match getL (moveT l (m.take i)) p.1 with | some v => dropL (moveT l (m.take i)) p.1 ++ [(p.1, v)] | none => moveT l (m.take i) := by
  unfold moveT
  rw [take_next h, List.foldl_append]
  rfl
end PX
/-! Lists of tables, and the result of one word for them. -/
namespace PX
open PySem PySem.Spec PyProof.Rows L2
theorem upd_two {H : Hp} {a b : Addr} {o u : HO} (n : a ≠ b) : upd (upd H a o) b u = upd (upd H b u) a o := by
  funext c
  by_cases e : c = a
  · rw [e, upd_same, upd_ne n, upd_same]
  · rw [upd_ne e]
    by_cases z : c = b
    · rw [z, upd_same, upd_same]
    · rw [upd_ne z, upd_ne z, upd_ne e]
/-- dicts at addresses -/
structure DsAt (H : Hp) (ds : List Addr) (ls : List Tab) : Prop where
  len : ds.length = ls.length
  at_ : ∀ (i : Nat) (d : Addr) (l : Tab), ds[i]? = some d → ls[i]? = some l → H d = some (.dK (tab l))
theorem DsAt.same {H H' : Hp} {ds : List Addr} {ls : List Tab} (h : DsAt H ds ls) (s : Same H H') : DsAt H' ds ls := ⟨h.len, fun i d l a b => s _ _ (h.at_ i d l a b)⟩
theorem DsAt.get {H : Hp} {ds : List Addr} {ls : List Tab} (h : DsAt H ds ls) {i : Nat} {d : Addr} (e : ds[i]? = some d) : ∃ l, ls[i]? = some l ∧ H d = some (.dK (tab l)) := by
  have hi := (List.getElem?_eq_some_iff.mp e).1
  rw [h.len] at hi
  exact ⟨ls[i], List.getElem?_eq_getElem hi, h.at_ i d _ e (List.getElem?_eq_getElem hi)⟩
def mergeAll (ls : List Tab) : Tab := ls.foldl mergeT []
def sumLen : List Tab → Nat
  | [] => 0
  | l :: r => l.length + sumLen r
theorem sumLen_append : ∀ a b : List Tab, sumLen (a ++ b) = sumLen a + sumLen b
  | [], b => by simp [sumLen]
  | l :: a, b => by
    have := sumLen_append a b
    simp only [List.cons_append, sumLen]
    omega
theorem sumLen_take (ls : List Tab) (i : Nat) : sumLen (ls.take i) ≤ sumLen ls := by
  have := sumLen_append (ls.take i) (ls.drop i)
  rw [List.take_append_drop] at this
  omega
theorem mergeAll_take {ls : List Tab} {i : Nat} {l : Tab} (h : ls[i]? = some l) : mergeAll (ls.take (i + 1)) = mergeT (mergeAll (ls.take i)) l := by
  unfold mergeAll
  rw [take_next h, List.foldl_append]
  rfl
theorem mergeAll_len (ls : List Tab) (i : Nat) : (mergeAll (ls.take i)).length ≤ sumLen (ls.take i) := by
  induction i with
  | zero => exact Nat.le_refl _
  | succ i ih =>
    cases e : ls[i]? with
    | none =>
      have z : ls.length ≤ i := by
        rcases Nat.lt_or_ge i ls.length with q | q
        · rw [List.getElem?_eq_getElem q] at e
          cases e
        · exact q
      rw [List.take_of_length_le z] at ih
      rw [List.take_of_length_le (Nat.le_succ_of_le z)]
      exact ih
    | some l =>
      rw [mergeAll_take e, take_next e, sumLen_append]
      have := mergeT_len l (mergeAll (ls.take i))
      show _ ≤ sumLen (ls.take i) + (l.length + 0)
      omega

/-! ### the result of one word -/
def sortT (l : Tab) : Tab := l.mergeSort fun x y => decide (x.1 ≤ y.1)
theorem sortT_perm (l : Tab) : (sortT l).Perm l := List.mergeSort_perm _ _
theorem sortT_sorted (l : Tab) : (sortT l).Pairwise fun x y => x.1 ≤ y.1 := by
  have h := List.pairwise_mergeSort (le := fun x y : Int × Int => decide (x.1 ≤ y.1)) (fun a b c h1 h2 => decide_eq_true (Int.le_trans (of_decide_eq_true h1) (of_decide_eq_true h2)))
    (fun a b => by
      rcases Int.le_total a.1 b.1 with z | z
      · rw [decide_eq_true z]; rfl
      · rw [decide_eq_true z, Bool.or_true]) l
  exact h.imp fun z => of_decide_eq_true z
theorem nodup_keys_eq {l : Tab} (nd : (l.map (·.1)).Nodup) {a b : Int × Int} (ha : a ∈ l) (hb : b ∈ l) (e : a.1 = b.1) : a = b := by
  have h1 := getL_of_mem nd ha
  have h2 := getL_of_mem nd hb
  rw [e, h2] at h1
  exact Prod.ext e (Option.some.inj h1).symm
theorem sort_eq {l m : Tab} (nd : (l.map (·.1)).Nodup) (p : m.Perm l) (s : m.Pairwise fun x y => x.1 ≤ y.1) : m = sortT l :=
  List.Perm.eq_of_pairwise (le := fun x y : Int × Int => x.1 ≤ y.1) (fun a b ha hb h1 h2 => nodup_keys_eq nd (p.mem_iff.mp ha) ((sortT_perm l).mem_iff.mp hb) (Int.le_antisymm h1 h2)) s (sortT_sorted l) (p.trans (sortT_perm l).symm)
def hd0 (ls : List Tab) : Tab := ls.headD []
def hd1 (ls : List Tab) : Tab := ls.tail.headD []
def combT (w : Str) (ls : List Tab) : Tab :=
  if w = "merged" then mergeAll ls
  else if w = "chained" then mergeAll ls.reverse
  else if w = "turned" then (hd0 ls).reverse
  else if w = "by_keys" then sortT (hd0 ls)
  else if w = "without" then (hd0 ls).filter fun p => !hasL (hd1 ls) p.1
  else if w = "kept" then (hd0 ls).filter fun p => hasL (hd1 ls) p.1
  else if w = "filled" then fillT (hd0 ls) (hd1 ls)
  else moveT (hd0 ls) (hd1 ls)
theorem sumLen_reverse (ls : List Tab) : sumLen ls.reverse = sumLen ls := by
  induction ls with
  | nil => rfl
  | cons l r ih =>
    rw [List.reverse_cons, sumLen_append, ih]
    simp only [sumLen]
    omega
theorem mergeAll_le (ls : List Tab) : (mergeAll ls).length ≤ sumLen ls := by
  have := mergeAll_len ls ls.length
  rw [List.take_length] at this
  exact this
theorem hd_len (ls : List Tab) : (hd0 ls).length + (hd1 ls).length ≤ sumLen ls := by
  match ls with
  | [] => exact Nat.le_refl _
  | [a] => exact Nat.le_refl _
  | a :: b :: r =>
    show a.length + b.length ≤ a.length + (b.length + sumLen r)
    omega
theorem hd0_ok {ls : List Tab} (h : ∀ l ∈ ls, TabOk l) : TabOk (hd0 ls) := by
  cases ls with
  | nil => exact ⟨List.nodup_nil, fun _ z => nomatch z⟩
  | cons a r => exact h a List.mem_cons_self
theorem hd1_ok {ls : List Tab} (h : ∀ l ∈ ls, TabOk l) : TabOk (hd1 ls) := by
  cases ls with
  | nil => exact ⟨List.nodup_nil, fun _ z => nomatch z⟩
  | cons a r => exact hd0_ok fun l hl => h l (List.mem_cons_of_mem _ hl)
theorem TabOk.perm {l m : Tab} (h : TabOk l) (p : m.Perm l) : TabOk m := ⟨(p.map _).nodup_iff.mpr h.nd, fun q hq => h.sm q (p.mem_iff.mp hq)⟩
theorem TabOk.filter {l : Tab} (h : TabOk l) (f : Int × Int → Bool) : TabOk (l.filter f) := ⟨h.nd.sublist (List.filter_sublist.map _), fun p hp => h.sm p (List.mem_filter.mp hp).1⟩
theorem mergeAll_ok {ls : List Tab} (h : ∀ l ∈ ls, TabOk l) : TabOk (mergeAll ls) := by
  unfold mergeAll
  have : ∀ (ls : List Tab) (acc : Tab), (∀ l ∈ ls, TabOk l) → TabOk acc → TabOk (ls.foldl mergeT acc) := by
    intro ls
    induction ls with
    | nil => intro acc _ g; exact g
    | cons a r ih => intro acc h g; exact ih _ (fun l hl => h l (List.mem_cons_of_mem _ hl)) (g.merge (h a List.mem_cons_self))
  exact this ls [] h ⟨List.nodup_nil, fun _ z => nomatch z⟩
theorem combT_ok (w : Str) {ls : List Tab} (h : ∀ l ∈ ls, TabOk l) : TabOk (combT w ls) := by
  have a := hd0_ok h
  have b := hd1_ok h
  unfold combT
  repeat' split
  · exact mergeAll_ok h
  · exact mergeAll_ok fun l hl => h l (List.mem_reverse.mp hl)
  · exact a.perm (List.reverse_perm _)
  · exact a.perm (sortT_perm _)
  · exact a.filter _
  · exact a.filter _
  · exact a.fill b
  · exact a.move
theorem combT_len (w : Str) {ls : List Tab} (h : ∀ l ∈ ls, TabOk l) : (combT w ls).length ≤ sumLen ls := by
  have a := hd0_ok h
  have e := hd_len ls
  unfold combT
  repeat' split
  · exact mergeAll_le ls
  · rw [← sumLen_reverse]
    exact mergeAll_le _
  · rw [List.length_reverse]
    omega
  · rw [(sortT_perm _).length_eq]
    omega
  · refine Nat.le_trans (List.length_filter_le ..) ?_
    omega
  · refine Nat.le_trans (List.length_filter_le ..) ?_
    omega
  · exact Nat.le_trans (fillT_len _ _) e
  · refine Nat.le_trans (moveT_len a) ?_
    omega
end PX
/-! What a rule's tree answers for tables, and the stack that walks through it. -/
namespace PX
open PySem PySem.Spec PyProof.Rows L2
mutual
/-- a rule stays where all but lists stays -/
theorem RuleAt.keep {C : Addr} {H H' : Hp} (s : ∀ b o, H b = some o → (∀ xs, o ≠ .lst xs) → H' b = some o) : ∀ (r : RT) (a : Addr), RuleAt C H r a → RuleAt C H' r a
  | .base n, a, h => by
    obtain ⟨dx, t, f, b, h1, h2, h3, h4⟩ := h
    exact ⟨dx, t, f, b, s _ _ h1 (fun _ z => nomatch z), s _ _ h2 (fun _ z => nomatch z), s _ _ h3 (fun _ z => nomatch z), s _ _ h4 (fun _ z => nomatch z)⟩
  | .op w ps, a, h => by
    obtain ⟨dx, t, f, b, ls, ns, h1, h2, h3, h4, h5, h6⟩ := h
    exact ⟨dx, t, f, b, ls, ns, s _ _ h1 (fun _ z => nomatch z), s _ _ h2 (fun _ z => nomatch z), RulesAt.keep s ps ls h3, s _ _ h4 (fun _ z => nomatch z), s _ _ h5 (fun _ z => nomatch z), h6⟩
theorem RulesAt.keep {C : Addr} {H H' : Hp} (s : ∀ b o, H b = some o → (∀ xs, o ≠ .lst xs) → H' b = some o) : ∀ (ps : List RT) (ls : List Addr), RulesAt C H ps ls → RulesAt C H' ps ls
  | [], _, h => h
  | p :: ps, _, h => by
    obtain ⟨a, r, e, h1, h2⟩ := h
    exact ⟨a, r, e, RuleAt.keep s p a h1, RulesAt.keep s ps r h2⟩
end
/-- the table of a name -/
def tabOf (sh : Sheets) (x : Str) : Tab := ((sh.find? fun s : Str × Addr × Tab => decide (s.1 = x)).map fun s => s.2.2).getD []
theorem sheet_there {sh : Sheets} {x : Str} (h : x ∈ sh.map (·.1)) : ∃ s ∈ sh, s.1 = x ∧ tabOf sh x = s.2.2 ∧ valV (sh.map kS) (Sum.inr x : Key) = some (.ref s.2.1) := by
  rw [valV_sheets]
  unfold tabOf
  cases e : sh.find? fun s : Str × Addr × Tab => decide (s.1 = x) with
  | some s => exact ⟨s, List.mem_of_find?_eq_some e, of_decide_eq_true (List.find?_some (p := fun s : Str × Addr × Tab => decide (s.1 = x)) e), rfl, rfl⟩
  | none =>
    obtain ⟨s, hs, rfl⟩ := List.mem_map.mp h
    exact absurd (decide_eq_true rfl) (List.find?_eq_none.mp e s hs)
mutual
def evalT (tb : Str → Tab) : RT → Tab
  | .base n => tb n
  | .op w ps => combT w (evalTs tb ps)
def evalTs (tb : Str → Tab) : List RT → List Tab
  | [] => []
  | p :: r => evalT tb p :: evalTs tb r
end
theorem evalTs_len (tb : Str → Tab) : ∀ ps : List RT, (evalTs tb ps).length = ps.length
  | [] => rfl
  | p :: r => congrArg (· + 1) (evalTs_len tb r)
def stepT (tb : Str → Tab) (stk : List Tab) : RT → List Tab
  | .base n => stk ++ [tb n]
  | .op w ps => stk.take (stk.length - ps.length) ++ [combT w (stk.drop (stk.length - ps.length))]
theorem step_on (tb : Str → Tab) (w : Str) (ps : List RT) (st ts : List Tab) (h : ts.length = ps.length) : stepT tb (st ++ ts) (.op w ps) = st ++ [combT w ts] := by
  have e : (st ++ ts).length - ps.length = st.length := by rw [List.length_append]; omega
  show (st ++ ts).take ((st ++ ts).length - ps.length) ++ [combT w ((st ++ ts).drop ((st ++ ts).length - ps.length))] = _
  rw [e, List.take_left, List.drop_left]
mutual
theorem run_subs (tb : Str → Tab) : ∀ (r : RT) (stk : List Tab), r.subs.foldl (stepT tb) stk = stk ++ [evalT tb r]
  | .base n, stk => rfl
  | .op w ps, stk => by
    rw [RT.subs_kids, List.foldl_append]
    show stepT tb ((subsL ps).foldl (stepT tb) stk) (.op w ps) = _
    rw [run_subsL tb ps stk, step_on _ _ _ _ _ (evalTs_len tb ps)]
    rfl
theorem run_subsL (tb : Str → Tab) : ∀ (ps : List RT) (stk : List Tab), (subsL ps).foldl (stepT tb) stk = stk ++ evalTs tb ps
  | [], stk => (List.append_nil stk).symm
  | p :: r, stk => by
    show (p.subs ++ subsL r).foldl (stepT tb) stk = _
    rw [List.foldl_append, run_subs tb p stk, run_subsL tb r, List.append_assoc]
    rfl
end
mutual
/-- where a node's turn comes, the stack ends with its parts' answers -/
theorem at_subs (tb : Str → Tab) : ∀ (r : RT) (pre : List RT) (x : RT) (post : List RT) (stk : List Tab), r.subs = pre ++ x :: post → ∃ st, pre.foldl (stepT tb) stk = st ++ evalTs tb x.kids
  | .base n, pre, x, post, stk, h => by
    have h : [RT.base n] = pre ++ x :: post := h
    cases pre with
    | nil =>
      obtain rfl : RT.base n = x := (List.cons.inj h).1
      exact ⟨stk, (List.append_nil stk).symm⟩
    | cons a q =>
      have := congrArg List.length h
      simp at this
  | .op w ps, pre, x, post, stk, h => by
    rw [RT.subs_kids] at h
    have h : subsL ps ++ [RT.op w ps] = pre ++ x :: post := h
    rcases List.append_eq_append_iff.mp h with ⟨q, e1, e2⟩ | ⟨q, e1, e2⟩
    · cases q with
      | nil =>
        rw [List.append_nil] at e1
        obtain rfl : RT.op w ps = x := (List.cons.inj e2).1
        rw [e1]
        exact ⟨stk, run_subsL tb ps stk⟩
      | cons a q =>
        have := congrArg List.length e2
        simp at this
    · cases q with
      | nil =>
        rw [List.append_nil] at e1
        obtain rfl : x = RT.op w ps := (List.cons.inj e2).1
        rw [← e1]
        exact ⟨stk, run_subsL tb ps stk⟩
      | cons a q =>
        obtain rfl : x = a := (List.cons.inj e2).1
        exact at_subsL tb ps pre x q stk e1
theorem at_subsL (tb : Str → Tab) : ∀ (ps : List RT) (pre : List RT) (x : RT) (post : List RT) (stk : List Tab), subsL ps = pre ++ x :: post → ∃ st, pre.foldl (stepT tb) stk = st ++ evalTs tb x.kids
  | [], pre, x, post, stk, h => by
    have := congrArg List.length h
    simp [subsL] at this
  | p :: r, pre, x, post, stk, h => by
    have h : p.subs ++ subsL r = pre ++ x :: post := h
    rcases List.append_eq_append_iff.mp h with ⟨q, e1, e2⟩ | ⟨q, e1, e2⟩
    · rw [e1, List.foldl_append]
      exact at_subsL tb r q x post _ e2
    · cases q with
      | nil =>
        rw [List.append_nil] at e1
        have e3 : subsL r = [] ++ x :: post := e2.symm
        obtain ⟨st, e⟩ := at_subsL tb r [] x post (pre.foldl (stepT tb) stk) e3
        exact ⟨st, e⟩
      | cons a q =>
        obtain rfl : x = a := (List.cons.inj e2).1
        exact at_subs tb p pre x q stk e1
end
/-! ### sizes -/
def leafs (tb : Str → Tab) : List RT → Nat
  | [] => 0
  | .base n :: r => (tb n).length + leafs tb r
  | .op _ _ :: r => leafs tb r
theorem leafs_append (tb : Str → Tab) : ∀ a b : List RT, leafs tb (a ++ b) = leafs tb a + leafs tb b
  | [], b => by simp [leafs]
  | .base n :: a, b => by
    have := leafs_append tb a b
    simp only [List.cons_append, leafs]
    omega
  | .op _ _ :: a, b => by
    have := leafs_append tb a b
    simp only [List.cons_append, leafs]
    omega
theorem step_ok {tb : Str → Tab} {stk : List Tab} {r : RT} (h : ∀ l ∈ stk, TabOk l) (b : ∀ n, r = .base n → TabOk (tb n)) : (∀ l ∈ stepT tb stk r, TabOk l) ∧ sumLen (stepT tb stk r) ≤ sumLen stk + leafs tb [r] := by
  cases r with
  | base n =>
    refine ⟨fun l hl => ?_, ?_⟩
    · rcases List.mem_append.mp hl with z | z
      · exact h l z
      · rw [List.mem_singleton.mp z]
        exact b n rfl
    · show sumLen (stk ++ [tb n]) ≤ _
      rw [sumLen_append]
      exact Nat.le_refl _
  | op w ps =>
    have hd : ∀ l ∈ stk.drop (stk.length - ps.length), TabOk l := fun l hl => h l (List.mem_of_mem_drop hl)
    refine ⟨fun l hl => ?_, ?_⟩
    · rcases List.mem_append.mp hl with z | z
      · exact h l (List.mem_of_mem_take z)
      · rw [List.mem_singleton.mp z]
        exact combT_ok w hd
    · show sumLen (stk.take (stk.length - ps.length) ++ [combT w (stk.drop (stk.length - ps.length))]) ≤ _
      have e := sumLen_append (stk.take (stk.length - ps.length)) (stk.drop (stk.length - ps.length))
      rw [List.take_append_drop] at e
      have c := combT_len w hd
      rw [sumLen_append]
      show _ + ((combT w _).length + 0) ≤ sumLen stk + 0
      omega
theorem run_ok {tb : Str → Tab} : ∀ (l : List RT) (stk : List Tab), (∀ t ∈ stk, TabOk t) → (∀ n, RT.base n ∈ l → TabOk (tb n)) → (∀ t ∈ l.foldl (stepT tb) stk, TabOk t) ∧ sumLen (l.foldl (stepT tb) stk) ≤ sumLen stk + leafs tb l ∧ (l.foldl (stepT tb) stk).length ≤ stk.length + l.length
  | [], stk, h, _ => ⟨h, Nat.le_refl _, Nat.le_refl _⟩
  | r :: l, stk, h, b => by
    obtain ⟨h1, h2⟩ := step_ok (tb := tb) (r := r) h fun n e => b n (by rw [e]; exact List.mem_cons_self)
    obtain ⟨g1, g2, g3⟩ := run_ok l (stepT tb stk r) h1 fun n hn => b n (List.mem_cons_of_mem _ hn)
    have e := leafs_append tb [r] l
    have len : (stepT tb stk r).length ≤ stk.length + 1 := by
      cases r with
      | base n => exact Nat.le_of_eq (List.length_append ..)
      | op w ps =>
        show (stk.take (stk.length - ps.length) ++ [_]).length ≤ _
        rw [List.length_append, List.length_take, List.length_singleton]
        omega
    refine ⟨g1, ?_, ?_⟩
    · show sumLen (l.foldl (stepT tb) (stepT tb stk r)) ≤ sumLen stk + leafs tb ([r] ++ l)
      omega
    · show (l.foldl (stepT tb) (stepT tb stk r)).length ≤ _
      rw [List.length_cons]
      omega
end PX
/-! The trees that a law grows: tuples of a word and parts. -/
namespace PX
open PySem PySem.Spec PyProof.Rows L2
/-- how many tables a word takes -/
def fitsW (w : Str) (n : Nat) : Prop := w = "merged" ∨ w = "chained" ∨ ((w = "turned" ∨ w = "by_keys") ∧ n = 1) ∨ ((w = "without" ∨ w = "kept" ∨ w = "filled" ∨ w = "moved") ∧ n = 2)
mutual
/-- at a stands the tree -/
def TreeAt (H : Hp) : RT → Addr → Prop
  | .base n, a => H a = some (.tup [.str "base", .str n])
  | .op w ps, a => ∃ (t : Addr) (ls : List Addr), H a = some (.tup [.str w, .ref t]) ∧ H t = some (.tup (ls.map V.ref)) ∧ TreesAt H ps ls
def TreesAt (H : Hp) : List RT → List Addr → Prop
  | [], ls => ls = []
  | p :: ps, ls => ∃ (a : Addr) (r : List Addr), ls = a :: r ∧ TreeAt H p a ∧ TreesAt H ps r
end
mutual
theorem TreeAt.keep {H H' : Hp} (s : ∀ b o, H b = some o → (∀ xs, o ≠ .lst xs) → H' b = some o) : ∀ (r : RT) (a : Addr), TreeAt H r a → TreeAt H' r a
  | .base n, a, h => s _ _ h (fun _ z => nomatch z)
  | .op w ps, a, h => by
    obtain ⟨t, ls, h1, h2, h3⟩ := h
    exact ⟨t, ls, s _ _ h1 (fun _ z => nomatch z), s _ _ h2 (fun _ z => nomatch z), TreesAt.keep s ps ls h3⟩
theorem TreesAt.keep {H H' : Hp} (s : ∀ b o, H b = some o → (∀ xs, o ≠ .lst xs) → H' b = some o) : ∀ (ps : List RT) (ls : List Addr), TreesAt H ps ls → TreesAt H' ps ls
  | [], _, h => h
  | p :: ps, _, h => by
    obtain ⟨a, r, e, h1, h2⟩ := h
    exact ⟨a, r, e, TreeAt.keep s p a h1, TreesAt.keep s ps r h2⟩
end
theorem TreesAt.len {H : Hp} : ∀ {ps : List RT} {ls : List Addr}, TreesAt H ps ls → ls.length = ps.length
  | [], _, h => by
    rw [show _ = [] from h] <;> rfl
  | p :: ps, _, h => by
    obtain ⟨a, r, rfl, h1, h2⟩ := h
    exact congrArg (· + 1) h2.len
theorem TreesAt.get {H : Hp} : ∀ {ps : List RT} {ls : List Addr}, TreesAt H ps ls → ∀ {i : Nat} {a : Addr}, ls[i]? = some a → ∃ r, ps[i]? = some r ∧ TreeAt H r a
  | [], _, h, i, a, e => by
    rw [show _ = [] from h] at e
    cases e
  | p :: ps, _, h, i, a, e => by
    obtain ⟨a0, r, rfl, h1, h2⟩ := h
    cases i with
    | zero =>
      cases e
      exact ⟨p, rfl, h1⟩
    | succ i => exact h2.get e
theorem TreesAt.add {H : Hp} : ∀ {ps : List RT} {ls : List Addr} {r : RT} {a : Addr}, TreesAt H ps ls → TreeAt H r a → TreesAt H (ps ++ [r]) (ls ++ [a])
  | [], _, r, a, h, g => by
    rw [show _ = [] from h]
    exact ⟨a, [], rfl, g, rfl⟩
  | p :: ps, _, r, a, h, g => by
    obtain ⟨a0, q, rfl, h1, h2⟩ := h
    exact ⟨a0, q ++ [a], rfl, h1, h2.add g⟩
/-- how such trees look: names among ns, no deeper than d, at most three parts -/
def RT.good (ns : List Str) : Nat → RT → Prop
  | _, .base n => n ∈ ns
  | 0, .op _ _ => False
  | d + 1, .op w ps => fitsW w ps.length ∧ ps.length ≤ 3 ∧ ∀ p ∈ ps, RT.good ns d p
/-- draws that a tree takes -/
def costT : Nat → Nat
  | 0 => 2
  | d + 1 => 2 + 3 * costT d
def nodesT : Nat → Nat
  | 0 => 1
  | d + 1 => 1 + 3 * nodesT d
def leafsT : Nat → Nat
  | 0 => 1
  | d + 1 => 3 * leafsT d
theorem leafsT_pos : ∀ d, 1 ≤ leafsT d
  | 0 => Nat.le_refl _
  | d + 1 => by
    have := leafsT_pos d
    show 1 ≤ 3 * leafsT d
    omega
theorem nodesT_pos (d : Nat) : 1 ≤ nodesT d := by
  cases d with
  | zero => exact Nat.le_refl _
  | succ d => exact Nat.le_add_right _ _
theorem subsL_bound {k : Nat} : ∀ ps : List RT, (∀ p ∈ ps, p.subs.length ≤ k) → (subsL ps).length ≤ ps.length * k
  | [], _ => Nat.zero_le _
  | p :: r, h => by
    have h1 := h p List.mem_cons_self
    have h2 := subsL_bound r fun q hq => h q (List.mem_cons_of_mem _ hq)
    simp only [subsL, List.length_append, List.length_cons, Nat.succ_mul]
    omega
theorem leafsL_bound {tb : Str → Tab} {k : Nat} : ∀ ps : List RT, (∀ p ∈ ps, leafs tb p.subs ≤ k) → leafs tb (subsL ps) ≤ ps.length * k
  | [], _ => Nat.zero_le _
  | p :: r, h => by
    have h1 := h p List.mem_cons_self
    have h2 := leafsL_bound r fun q hq => h q (List.mem_cons_of_mem _ hq)
    simp only [subsL, leafs_append, List.length_cons, Nat.succ_mul]
    omega
theorem mem_subsL {x : RT} : ∀ {ps : List RT}, x ∈ subsL ps → ∃ p ∈ ps, x ∈ p.subs
  | [], h => nomatch h
  | p :: r, h => by
    rcases List.mem_append.mp (show x ∈ p.subs ++ subsL r from h) with z | z
    · exact ⟨p, List.mem_cons_self, z⟩
    · obtain ⟨q, hq, hx⟩ := mem_subsL z
      exact ⟨q, List.mem_cons_of_mem _ hq, hx⟩
/-- what evaluate asks of a rule -/
structure Fine (ns : List Str) (k l : Nat) (r : RT) : Prop where
  cnt : r.subs.length ≤ k
  base : ∀ n, RT.base n ∈ r.subs → n ∈ ns
  fits : ∀ w ps, RT.op w ps ∈ r.subs → fitsW w ps.length
  leaf : ∀ (tb : Str → Tab) (m : Nat), (∀ n, (tb n).length ≤ m) → leafs tb r.subs ≤ l * m
theorem RT.good.fine {ns : List Str} : ∀ {d : Nat} {r : RT}, RT.good ns d r → Fine ns (nodesT d) (leafsT d) r
  | d, .base n, h => by
    have h : n ∈ ns := by cases d <;> exact h
    refine ⟨nodesT_pos d, fun x hx => ?_, fun w ps hx => ?_, fun tb m hm => ?_⟩
    · cases List.mem_singleton.mp (show RT.base x ∈ [RT.base n] from hx)
      exact h
    · cases List.mem_singleton.mp (show RT.op w ps ∈ [RT.base n] from hx)
    · have := hm n
      have p := leafsT_pos d
      show (tb n).length + 0 ≤ leafsT d * m
      have : 1 * m ≤ leafsT d * m := Nat.mul_le_mul_right m p
      omega
  | 0, .op _ _, h => h.elim
  | d + 1, .op w ps, h => by
    obtain ⟨h1, h2, h3⟩ := h
    have all : ∀ p ∈ ps, Fine ns (nodesT d) (leafsT d) p := fun p hp => (h3 p hp).fine
    refine ⟨?_, fun x hx => ?_, fun v qs hx => ?_, fun tb m hm => ?_⟩
    · have b := subsL_bound ps fun p hp => (all p hp).cnt
      have z : ps.length * nodesT d ≤ 3 * nodesT d := Nat.mul_le_mul_right _ h2
      show (subsL ps ++ [RT.op w ps]).length ≤ 1 + 3 * nodesT d
      rw [List.length_append, List.length_singleton]
      omega
    · rcases List.mem_append.mp (show RT.base x ∈ subsL ps ++ [RT.op w ps] from hx) with z | z
      · obtain ⟨p, hp, q⟩ := mem_subsL z
        exact (all p hp).base x q
      · cases List.mem_singleton.mp z
    · rcases List.mem_append.mp (show RT.op v qs ∈ subsL ps ++ [RT.op w ps] from hx) with z | z
      · obtain ⟨p, hp, q⟩ := mem_subsL z
        exact (all p hp).fits v qs q
      · cases List.mem_singleton.mp z
        exact h1
    · have b := leafsL_bound (tb := tb) ps fun p hp => (all p hp).leaf tb m hm
      have z : ps.length * (leafsT d * m) ≤ 3 * (leafsT d * m) := Nat.mul_le_mul_right _ h2
      show leafs tb (subsL ps ++ [RT.op w ps]) ≤ 3 * leafsT d * m
      rw [leafs_append, Nat.mul_assoc]
      show leafs tb (subsL ps) + 0 ≤ _
      omega
end PX
/-! xs[::c] for lists, c a literal. -/
namespace PX
open PySem PySem.Spec PyProof.Rows L2
/-- the places that xs[::c] takes -/
def stepIx (n : Nat) (c : Int) : List Nat := sliceRange (sliceBounds none none (some c) n).1 (sliceBounds none none (some c) n).2.1 (sliceBounds none none (some c) n).2.2
def pickS {α : Type} (xs : List α) (c : Int) : List α := (stepIx xs.length c).filterMap (xs[·]?)
theorem vals_at : ∀ {xs : List V} {its : List Value}, Vals xs its → ∀ j : Nat, (xs[j]? = none ∧ its[j]? = none) ∨ ∃ x v, xs[j]? = some x ∧ its[j]? = some v ∧ RelV x v
  | _, _, .nil, j => .inl ⟨rfl, rfl⟩
  | _, _, .cons r t, 0 => .inr ⟨_, _, rfl, rfl, r⟩
  | _, _, .cons r t, j + 1 => vals_at t j
theorem vals_pick {xs : List V} {its : List Value} (h : Vals xs its) : ∀ J : List Nat, Vals (J.filterMap (xs[·]?)) (J.filterMap (its[·]?))
  | [] => .nil
  | j :: J => by
    rw [List.filterMap_cons, List.filterMap_cons]
    rcases vals_at h j with ⟨a, b⟩ | ⟨x, v, a, b, r⟩
    · rw [a, b]
      exact vals_pick h J
    · rw [a, b]
      exact .cons r (vals_pick h J)
def tStepL (K : PySem.W.Frag) (te : TE) (c : Int) : TE := fun σ H Q => te σ H fun x H1 => ∃ a xs, x = .ref a ∧ SqL K H1 a xs ∧ ∀ p, H1 p = none → Q (.ref p) (upd H1 p (.lst (pickS xs c)))
section
variable {X : Cx}
theorem pe_stepL {e : Expr} {te : TE} {k : Nat} {c : Int} {p1 p3 pos : Pos} (he : PE X e te) (hc : c ≠ 0) : PE X (.Subscript e (.Slice none none (some (.Constant (.int c) k p1)) p3) pos) (tStepL X.K te c) := by
  refine ⟨fun pins s σ H Q I h => ?_⟩
  refine Subscript_ (thn (he.run pins s σ H _ I h) fun v s1 ⟨x, H1, I1, r1, q1⟩ => ?_)
  obtain ⟨a, xs, ex, hx, q⟩ := q1
  subst ex
  cases r1
  have hst : PO X (some (.Constant (.int c) k p1)) (tPart (tC (.int c))) := po_some pe_int
  refine wpAny_Slice (thn (po_none.run pins s1 σ H1 (fun o H2 => o = none ∧ H2 = H1) I1 ⟨rfl, rfl⟩) fun vl s2 ⟨l, H2, I2, pl, el, e2⟩ => ?_)
  subst el e2
  refine thn (po_none.run pins s2 σ H2 (fun o H3 => o = none ∧ H3 = H2) I2 ⟨rfl, rfl⟩) fun vu s3 ⟨u, H3, I3, pu, eu, e3⟩ => ?_
  subst eu e3
  refine thn (hst.run pins s3 σ H3 (fun o H4 => o = some c ∧ H4 = H3) I3 ⟨c, rfl, rfl, rfl⟩) fun vs s4 ⟨o, H4, I4, ps, eo, e4⟩ => ?_
  subst eo e4
  have I5 : Inv X pins σ H4 { s4 with heap := s4.heap.push { cls := .type "slice", data := .fields #[vl, vu, vs] } } := I4.kept (t' := s4.toks) fun b ob q => Heap.get?_push_of_some _ q
  obtain ⟨its, r, ht, hz⟩ := I5.list hx
  have hlen := r.length
  show wpAny (model X.prog X.w) X.A (subscriptTail e (.Slice none none (some (.Constant (.int c) k p1)) p3) (.ref a) (.ref s4.heap.objs.size)) (EP X pins σ Q) X.xe { s4 with heap := s4.heap.push { cls := .type "slice", data := .fields #[vl, vu, vs] } }
  refine tail_any (ops := [.ref a, .ref s4.heap.objs.size]) ht.isList.typeIs (PySem.slot_list_getitem.lookup) ?_ (by with_unfolding_all rfl)
  refine wpAny_getItem_list_slice ht.isList (Heap.IsSliceOf.new _ vl vu vs) pl pu ps (fun z => hc (Option.some.inj z)) ?_ (by rw [List.size_toArray]; omega)
  have ep : slicePick its.toArray none none (some c) = ((stepIx xs.length c).filterMap (its[·]?)).toArray := by
    unfold slicePick stepIx
    rw [List.size_toArray, hlen]
    congr 2
    funext j
    exact List.getElem?_toArray
  have small : (pickS xs c).length ≤ xs.length := by
    have h1 := slicePick_size_le its.toArray none none (some c)
    rw [ep, List.size_toArray, List.size_toArray, ← (vals_pick r (stepIx xs.length c)).length, ← hlen] at h1
    exact h1
  rw [ep]
  refine ⟨.ref _, _, I5.laid (t' := s4.toks) (o := .lst (pickS xs c)) (fun b ob q => Heap.get?_push_of_some _ q) (Nat.le_refl _) ?_, rfl, q _ (I5.hok.fresh (Nat.le_refl _))⟩
  exact ⟨Nat.le_trans small hz, _, 0, vals_pick r _, Heap.get?_push_size _ rfl⟩
end
theorem pickS_map {α β : Type} (f : α → β) (xs : List α) (c : Int) : pickS (xs.map f) c = (pickS xs c).map f := by
  unfold pickS
  rw [List.length_map, List.map_filterMap]
  congr 1
  funext j
  exact List.getElem?_map ..
theorem pickS_mem {α : Type} {xs : List α} {c : Int} {x : α} (h : x ∈ pickS xs c) : x ∈ xs := by
  obtain ⟨j, _, e⟩ := List.mem_filterMap.mp h
  exact List.mem_of_getElem? e
end PX
/-! A cut to keys goes through every word. -/
namespace PX
open PySem PySem.Spec PyProof.Rows L2
/-- a table cut to keys -/
def cutI (ks : List Int) (l : Tab) : Tab := l.filter fun p => decide (p.1 ∈ ks)
theorem cutI_ok {ks : List Int} {l : Tab} (h : TabOk l) : TabOk (cutI ks l) :=
  ⟨(h.nd.sublist (List.filter_sublist.map _)), fun p hp => h.sm p (List.mem_filter.mp hp).1⟩
section
variable {ks : List Int}
theorem cutI_append (l m : Tab) : cutI ks (l ++ m) = cutI ks l ++ cutI ks m := List.filter_append ..
theorem cutI_one_in {p : Int × Int} (h : p.1 ∈ ks) : cutI ks [p] = [p] := by simp [cutI, h]
theorem cutI_one_out {p : Int × Int} (h : p.1 ∉ ks) : cutI ks [p] = [] := by simp [cutI, h]
theorem cutI_cons (p : Int × Int) (l : Tab) : cutI ks (p :: l) = if p.1 ∈ ks then p :: cutI ks l else cutI ks l := by
  unfold cutI
  rw [List.filter_cons]
  by_cases h : p.1 ∈ ks
  · rw [if_pos (decide_eq_true h), if_pos h]
  · rw [if_neg (by rw [decide_eq_false h]; exact Bool.false_ne_true), if_neg h]
theorem cutI_has (l : Tab) (k : Int) : hasL (cutI ks l) k = true ↔ hasL l k = true ∧ k ∈ ks := by
  rw [hasL_iff, hasL_iff, List.mem_map, List.mem_map]
  constructor
  · rintro ⟨p, hp, rfl⟩
    obtain ⟨h1, h2⟩ := List.mem_filter.mp hp
    exact ⟨⟨p, h1, rfl⟩, of_decide_eq_true h2⟩
  · rintro ⟨⟨p, hp, rfl⟩, h⟩
    exact ⟨p, List.mem_filter.mpr ⟨hp, decide_eq_true h⟩, rfl⟩
theorem cutI_get (l : Tab) {k : Int} (h : k ∈ ks) : getL (cutI ks l) k = getL l k := by
  induction l with
  | nil => rfl
  | cons p l ih =>
    rw [cutI_cons]
    by_cases e : p.1 = k
    · rw [if_pos (by rw [e]; exact h)]
      unfold getL
      rw [List.find?_cons, List.find?_cons, decide_eq_true e]
    · by_cases z : p.1 ∈ ks
      · rw [if_pos z]
        unfold getL at ih ⊢
        rw [List.find?_cons, List.find?_cons, decide_eq_false e]
        exact ih
      · rw [if_neg z, ih]
        unfold getL
        rw [List.find?_cons, decide_eq_false e]
theorem cutI_get_out (l : Tab) {k : Int} (h : k ∉ ks) : getL (cutI ks l) k = none := by
  rw [getL_none]
  intro z
  exact h ((cutI_has l k).mp (hasL_iff.mpr z)).2
theorem cutI_put_in (l : Tab) {k v : Int} (h : k ∈ ks) : cutI ks (putL l k v) = putL (cutI ks l) k v := by
  by_cases g : hasL l k = true
  · have g2 := (cutI_has (ks := ks) l k).mpr ⟨g, h⟩
    unfold putL
    rw [if_pos g, if_pos g2]
    unfold cutI
    rw [List.filter_map]
    congr 1
    refine List.filter_congr fun p _ => ?_
    show decide ((if p.1 = k then (p.1, v) else p).1 ∈ ks) = decide (p.1 ∈ ks)
    split <;> rfl
  · have g2 : ¬ hasL (cutI ks l) k = true := fun z => g ((cutI_has l k).mp z).1
    unfold putL
    rw [if_neg g, if_neg g2, cutI_append, cutI_one_in (p := (k, v)) h]
theorem cutI_put_out (l : Tab) {k v : Int} (h : k ∉ ks) : cutI ks (putL l k v) = cutI ks l := by
  by_cases g : hasL l k = true
  · unfold putL
    rw [if_pos g]
    unfold cutI
    clear g
    induction l with
    | nil => rfl
    | cons p l ih =>
      rw [List.map_cons, List.filter_cons, List.filter_cons, ih]
      by_cases e : p.1 = k
      · rw [if_pos e]
        have z : decide (p.1 ∈ ks) = false := decide_eq_false (by rw [e]; exact h)
        show (if decide (p.1 ∈ ks) = true then _ else _) = _
        rw [z]
        rfl
      · rw [if_neg e]
  · unfold putL
    rw [if_neg g, cutI_append, cutI_one_out (p := (k, v)) h, List.append_nil]
theorem cutI_merge (m : Tab) : ∀ l : Tab, cutI ks (mergeT l m) = mergeT (cutI ks l) (cutI ks m) := by
  induction m with
  | nil => intro l; rfl
  | cons p m ih =>
    intro l
    show cutI ks (mergeT (putL l p.1 p.2) m) = _
    rw [ih, cutI_cons]
    by_cases h : p.1 ∈ ks
    · rw [if_pos h, cutI_put_in l h]
      rfl
    · rw [if_neg h, cutI_put_out l h]
theorem cutI_fill (m : Tab) : ∀ l : Tab, cutI ks (fillT l m) = fillT (cutI ks l) (cutI ks m) := by
  induction m with
  | nil => intro l; rfl
  | cons p m ih =>
    intro l
    show cutI ks (fillT (if hasL l p.1 = true then l else l ++ [p]) m) = _
    rw [ih, cutI_cons]
    by_cases h : p.1 ∈ ks
    · rw [if_pos h]
      show _ = fillT (if hasL (cutI ks l) p.1 = true then cutI ks l else cutI ks l ++ [p]) (cutI ks m)
      by_cases g : hasL l p.1 = true
      · rw [if_pos g, if_pos ((cutI_has l p.1).mpr ⟨g, h⟩)]
      · rw [if_neg g, if_neg fun z => g ((cutI_has l p.1).mp z).1, cutI_append, cutI_one_in h]
    · rw [if_neg h]
      by_cases g : hasL l p.1 = true
      · rw [if_pos g]
      · rw [if_neg g, cutI_append, cutI_one_out h, List.append_nil]
theorem cutI_drop (l : Tab) (k : Int) : cutI ks (dropL l k) = dropL (cutI ks l) k := by
  unfold cutI dropL
  rw [List.filter_filter, List.filter_filter]
  refine List.filter_congr fun p _ => ?_
  exact Bool.and_comm _ _
theorem cutI_drop_out (l : Tab) {k : Int} (h : k ∉ ks) : dropL (cutI ks l) k = cutI ks l := by
  unfold dropL
  refine List.filter_eq_self.mpr fun p hp => decide_eq_true fun e => h ?_
  rw [← e]
  exact of_decide_eq_true (List.mem_filter.mp hp).2
theorem cutI_move (m : Tab) : ∀ l : Tab, cutI ks (moveT l m) = moveT (cutI ks l) (cutI ks m) := by
  induction m with
  | nil => intro l; rfl
  | cons p m ih =>
    intro l
    show cutI ks (moveT (match getL l p.1 with | some v => dropL l p.1 ++ [(p.1, v)] | none => l) m) = _
    rw [ih, cutI_cons]
    by_cases h : p.1 ∈ ks
    · rw [if_pos h]
      show _ = moveT (match getL (cutI ks l) p.1 with | some v => dropL (cutI ks l) p.1 ++ [(p.1, v)] | none => cutI ks l) (cutI ks m)
      rw [cutI_get l h]
      cases getL l p.1 with
      | none => rfl
      | some v =>
        show moveT (cutI ks (dropL l p.1 ++ [(p.1, v)])) _ = moveT (dropL (cutI ks l) p.1 ++ [(p.1, v)]) _
        rw [cutI_append, cutI_drop, cutI_one_in (p := (p.1, v)) h]
    · rw [if_neg h]
      congr 1
      cases getL l p.1 with
      | none => rfl
      | some v =>
        show cutI ks (dropL l p.1 ++ [(p.1, v)]) = _
        rw [cutI_append, cutI_drop, cutI_one_out (p := (p.1, v)) h, List.append_nil, cutI_drop_out l h]
theorem cutI_reverse (l : Tab) : cutI ks l.reverse = (cutI ks l).reverse := List.filter_reverse ..
theorem cutI_sort {l : Tab} (nd : (l.map (·.1)).Nodup) : cutI ks (sortT l) = sortT (cutI ks l) :=
  sort_eq (nd.sublist (List.filter_sublist.map _)) ((sortT_perm l).filter _) ((sortT_sorted l).sublist List.filter_sublist)
theorem cutI_sub (l m : Tab) (f : Bool → Bool) : cutI ks (l.filter fun p => f (hasL m p.1)) = (cutI ks l).filter fun p => f (hasL (cutI ks m) p.1) := by
  unfold cutI
  rw [List.filter_filter, List.filter_filter]
  refine List.filter_congr fun p _ => ?_
  by_cases h : p.1 ∈ ks
  · have e : hasL (List.filter (fun p => decide (p.1 ∈ ks)) m) p.1 = hasL m p.1 := by
      rw [Bool.eq_iff_iff]
      exact (cutI_has m p.1).trans ⟨fun z => z.1, fun z => ⟨z, h⟩⟩
    rw [e, Bool.and_comm]
  · rw [decide_eq_false h, Bool.false_and, Bool.and_false]
theorem cutI_mergeAll (ls : List Tab) : cutI ks (mergeAll ls) = mergeAll (ls.map (cutI ks)) := by
  have : ∀ (ls : List Tab) (acc : Tab), cutI ks (ls.foldl mergeT acc) = (ls.map (cutI ks)).foldl mergeT (cutI ks acc) := by
    intro ls
    induction ls with
    | nil => intro acc; rfl
    | cons l r ih =>
      intro acc
      show cutI ks (r.foldl mergeT (mergeT acc l)) = (r.map (cutI ks)).foldl mergeT (mergeT (cutI ks acc) (cutI ks l))
      rw [ih, cutI_merge]
  exact this ls []
theorem hd0_map (ls : List Tab) : hd0 (ls.map (cutI ks)) = cutI ks (hd0 ls) := by cases ls <;> rfl
theorem hd1_map (ls : List Tab) : hd1 (ls.map (cutI ks)) = cutI ks (hd1 ls) := by
  cases ls with
  | nil => rfl
  | cons a r => exact hd0_map r
theorem cutI_comb (w : Str) {ls : List Tab} (h : ∀ l ∈ ls, TabOk l) : cutI ks (combT w ls) = combT w (ls.map (cutI ks)) := by
  have a := hd0_ok h
  unfold combT
  rw [hd0_map, hd1_map]
  repeat' split
  · exact cutI_mergeAll ls
  · rw [cutI_mergeAll, List.map_reverse]
  · exact cutI_reverse _
  · exact cutI_sort a.nd
  · exact cutI_sub _ _ not
  · exact cutI_sub _ _ id
  · exact cutI_fill _ _
  · exact cutI_move _ _
mutual
theorem evalT_ok {tb : Str → Tab} (h : ∀ n, TabOk (tb n)) : ∀ r : RT, TabOk (evalT tb r)
  | .base n => h n
  | .op w ps => combT_ok w (evalTs_ok h ps)
theorem evalTs_ok {tb : Str → Tab} (h : ∀ n, TabOk (tb n)) : ∀ ps : List RT, ∀ l ∈ evalTs tb ps, TabOk l
  | [], l, hl => nomatch hl
  | p :: r, l, hl => by
    rcases List.mem_cons.mp hl with e | z
    · rw [e]
      exact evalT_ok h p
    · exact evalTs_ok h r l z
end
mutual
/-- a whole result, cut to keys: the result for the tables that are cut to them -/
theorem cutI_eval {tb : Str → Tab} (h : ∀ n, TabOk (tb n)) : ∀ r : RT, evalT (fun n => cutI ks (tb n)) r = cutI ks (evalT tb r)
  | .base n => rfl
  | .op w ps => by
    show combT w (evalTs (fun n => cutI ks (tb n)) ps) = cutI ks (combT w (evalTs tb ps))
    rw [cutI_evals h ps, cutI_comb w (evalTs_ok h ps)]
theorem cutI_evals {tb : Str → Tab} (h : ∀ n, TabOk (tb n)) : ∀ ps : List RT, evalTs (fun n => cutI ks (tb n)) ps = (evalTs tb ps).map (cutI ks)
  | [] => rfl
  | p :: r => by
    show evalT (fun n => cutI ks (tb n)) p :: evalTs (fun n => cutI ks (tb n)) r = cutI ks (evalT tb p) :: (evalTs tb r).map (cutI ks)
    rw [cutI_eval h p, cutI_evals h r]
end
end
theorem flatInts (ks : List Int) : (ks.map V.int).all flatV = true := by
  rw [List.all_eq_true]
  intro v hv
  obtain ⟨k, _, rfl⟩ := List.mem_map.mp hv
  rfl
theorem inV_ints (k : Int) (ks : List Int) : inV (.int k) (ks.map V.int) = decide (k ∈ ks) := by
  unfold inV
  rw [List.any_map]
  induction ks with
  | nil => rfl
  | cons a r ih =>
    rw [List.any_cons, ih]
    have e : (((fun y => eqV y (V.int k)) ∘ V.int) a) = decide (a = k) := by
      show eqV (.int a) (.int k) = decide (a = k)
      unfold eqV
      first | rfl | simp
    rw [e]
    by_cases z : a = k
    · subst z; simp
    · have z' : ¬ k = a := fun q => z q.symm
      simp [z, z']
end PX
namespace PX
open PySem PySem.Spec PyProof.Rows L2
/-! ### lists of pairs of ints at addresses -/
def PairsAt (H : Hp) : List Addr → Tab → Prop
  | [], [] => True
  | t :: ts, p :: l => H t = some (.tup [.int p.1, .int p.2]) ∧ PairsAt H ts l
  | _, _ => False
theorem PairsAt.of {H : Hp} : ∀ {ts : List Addr} {l : Tab}, Paired (fun (t : Addr) (q : Key × V) => H t = some (.tup [kV q.1, q.2])) ts (tab l) → PairsAt H ts l
  | [], [], _ => True.intro
  | t :: ts, p :: l, h => by
    cases h with
    | cons a b => exact ⟨a, PairsAt.of b⟩
  | [], _ :: _, h => nomatch h
  | _ :: _, [], h => nomatch h
theorem PairsAt.to {H : Hp} : ∀ {ts : List Addr} {l : Tab}, PairsAt H ts l → Paired (fun (t : Addr) (q : Key × V) => H t = some (.tup [kV q.1, q.2])) ts (tab l)
  | [], [], _ => .nil
  | t :: ts, p :: l, h => .cons h.1 (PairsAt.to h.2)
  | [], _ :: _, h => h.elim
  | _ :: _, [], h => h.elim
theorem PairsAt.keep {H H' : Hp} (s : ∀ b o, H b = some o → (∀ xs, o ≠ .lst xs) → H' b = some o) : ∀ {ts : List Addr} {l : Tab}, PairsAt H ts l → PairsAt H' ts l
  | [], [], _ => True.intro
  | t :: ts, p :: l, h => ⟨s _ _ h.1 (fun _ z => nomatch z), PairsAt.keep s h.2⟩
  | [], _ :: _, h => h.elim
  | _ :: _, [], h => h.elim
theorem PairsAt.same {H H' : Hp} (s : Same H H') {ts : List Addr} {l : Tab} (h : PairsAt H ts l) : PairsAt H' ts l := PairsAt.keep (fun b o e _ => s b o e) h
theorem PairsAt.put {H : Hp} {p : Addr} {xs : List V} {o : HO} {ts : List Addr} {l : Tab} (h : PairsAt H ts l) (e : H p = some (.lst xs)) : PairsAt (upd H p o) ts l := PairsAt.keep (fun b u eb n => by
  rw [upd_ne fun z => by rw [z, e] at eb; exact n _ (Option.some.inj eb).symm]
  exact eb) h
theorem PairsAt.putF {H : Hp} {a : Addr} {o : HO} (n : ∀ xs, H a ≠ some (.tup xs)) : ∀ {ts : List Addr} {l : Tab}, PairsAt H ts l → PairsAt (upd H a o) ts l
  | [], [], _ => True.intro
  | t :: ts, p :: l, h => ⟨(upd_ne fun z => n _ (z ▸ h.1)).trans h.1, PairsAt.putF n h.2⟩
  | [], _ :: _, h => h.elim
  | _ :: _, [], h => h.elim
theorem PairsAt.len {H : Hp} : ∀ {ts : List Addr} {l : Tab}, PairsAt H ts l → ts.length = l.length
  | [], [], _ => rfl
  | _ :: _, _ :: _, h => congrArg (· + 1) (PairsAt.len h.2)
  | [], _ :: _, h => h.elim
  | _ :: _, [], h => h.elim
theorem PairsAt.get {H : Hp} : ∀ {ts : List Addr} {l : Tab}, PairsAt H ts l → ∀ {i : Nat} {t : Addr}, ts[i]? = some t → ∃ p, l[i]? = some p ∧ H t = some (.tup [.int p.1, .int p.2])
  | t :: ts, p :: l, h, 0, x, e => by
    cases e
    exact ⟨p, rfl, h.1⟩
  | t :: ts, p :: l, h, i + 1, x, e => PairsAt.get h.2 e
  | [], [], _, _, _, e => nomatch e
  | [], _ :: _, h, _, _, _ => h.elim
  | _ :: _, [], h, _, _, _ => h.elim
theorem PairsAt.append {H : Hp} : ∀ {ts : List Addr} {l : Tab} {us : List Addr} {m : Tab}, PairsAt H ts l → PairsAt H us m → PairsAt H (ts ++ us) (l ++ m)
  | [], [], _, _, _, h => h
  | t :: ts, p :: l, _, _, h, g => ⟨h.1, PairsAt.append h.2 g⟩
  | [], _ :: _, _, _, h, _ => h.elim
  | _ :: _, [], _, _, h, _ => h.elim
theorem PairsAt.one {H : Hp} {t : Addr} {p : Int × Int} (h : H t = some (.tup [.int p.1, .int p.2])) : PairsAt H [t] [p] := ⟨h, True.intro⟩
def pairD (p : Int × Int) : PyData := .tuple [.int p.1, .int p.2]
def pairsD (l : Tab) : PyData := .list (l.map pairD)
theorem pairs_all {K : PySem.W.Frag} {H : Hp} : ∀ {ts : List Addr} {l : Tab}, PairsAt H ts l → DpAll K H (ts.map V.ref) (l.map pairD)
  | [], [], _ => .nil
  | t :: ts, p :: l, h => .cons (.tup (SqT.of h.1) (.cons (.int p.1) (.cons (.int p.2) .nil))) (pairs_all h.2)
  | [], _ :: _, h => h.elim
  | _ :: _, [], h => h.elim
theorem pairs_dp {K : PySem.W.Frag} {H : Hp} {a : Addr} {ts : List Addr} {l : Tab} (e : H a = some (.lst (ts.map V.ref))) (h : PairsAt H ts l) : Dp K H (.ref a) (pairsD l) := .lst (SqL.of e) (pairs_all h)
theorem pairD_eqv (p : Int × Int) : PyData.eqv (pairD p) (pairD p) = true := by
  simp [pairD, PyData.eqv, PyData.eqvAll]
theorem pairs_eqvAll : ∀ l : Tab, PyData.eqvAll (l.map pairD) (l.map pairD) = true
  | [] => rfl
  | p :: r => by
    rw [List.map_cons, PyData.eqvAll, pairs_eqvAll r, pairD_eqv]
    rfl
theorem pairsD_eqv (l : Tab) : PyData.eqv (pairsD l) (pairsD l) = true := by
  unfold pairsD
  rw [PyData.eqv]
  exact pairs_eqvAll l
theorem pairs_layAll : ∀ l : Tab, PyData.canLayAll0 (l.map pairD) = true
  | [] => rfl
  | p :: r => by
    rw [List.map_cons, PyData.canLayAll0, pairs_layAll r]
    simp [pairD, PyData.canLay0, PyData.canLayAll0]
theorem pairsD_shaped (l : Tab) : SeqAt.shaped (pairsD l) = true := by
  unfold SeqAt.shaped
  rw [Bool.and_eq_true]
  refine ⟨?_, ?_⟩
  · unfold pairsD
    rw [PyData.canLay0]
    exact pairs_layAll l
  · have := depth_map pairD 1 l fun p _ => by simp [pairD, PyData.depth, PyData.depthAll]
    refine decide_eq_true ?_
    show PyData.depthAll _ + 1 ≤ 64
    omega
/-! ### tables by names -/
def getS (l : List (Str × Tab)) (x : Str) : Tab := ((l.find? fun s => decide (s.1 = x)).map fun s => s.2).getD []
theorem tabOf_get (sh : Sheets) (x : Str) : tabOf sh x = getS (sh.map fun s => (s.1, s.2.2)) x := by
  unfold tabOf getS
  rw [List.find?_map, Option.map_map]
  rfl
theorem getS_map (f : Tab → Tab) (hf : f [] = []) (sh : Sheets) (x : Str) : getS (sh.map fun s => (s.1, f s.2.2)) x = f (tabOf sh x) := by
  unfold tabOf getS
  rw [List.find?_map, Option.map_map]
  show (Option.map _ (sh.find? fun s : Str × Addr × Tab => decide (s.1 = x))).getD [] = _
  cases sh.find? fun s : Str × Addr × Tab => decide (s.1 = x) with
  | none => exact hf.symm
  | some s => rfl
theorem tabOf_of {sh : Sheets} {P : Tab → Prop} (h : ∀ s ∈ sh, P s.2.2) (h0 : P []) (x : Str) : P (tabOf sh x) := by
  unfold tabOf
  cases e : sh.find? fun s : Str × Addr × Tab => decide (s.1 = x) with
  | none => exact h0
  | some s => exact h s (List.mem_of_find?_eq_some e)
theorem evalT_len {tb : Str → Tab} (h : ∀ n, TabOk (tb n)) (r : RT) : (evalT tb r).length ≤ leafs tb r.subs := by
  have g := (run_ok r.subs [] (fun _ z => nomatch z) fun n _ => h n).2.1
  rw [run_subs] at g
  have e : sumLen ([] ++ [evalT tb r]) = (evalT tb r).length + 0 := rfl
  rw [e] at g
  have e2 : sumLen [] = 0 := rfl
  omega
end PX
/-! A dict of the written part, from texts to ints: walked over, asked, read. -/
namespace PX
open PySem PySem.Spec PyProof.Rows L2
/-- its entries -/
def EntAt (l : List DictEntry) (ks : List (Str × Int)) : Prop := Paired (fun (e : DictEntry) (k : Str × Int) => (∃ t, e.key = .str k.1 t) ∧ ∃ u, e.val = .int k.2 u) l ks
structure Ari (K : PySem.W.Frag) (w : World) (d : Addr) (ks : List (Str × Int)) : Prop where
  ex : ∃ (es : Array DictEntry) (n : Nat), KDict K w d es n ∧ EntAt es.toList ks
def ariV (ks : List (Str × Int)) (z : Str) : Option Int := (ks.find? fun k => decide (k.1 = z)).map (·.2)
theorem isStr_eq (x z : Str) (t : Tok) : (Value.str x t).isStr z = decide (x = z) := by
  show (x == z) = _
  by_cases h : x = z
  · subst h
    simp
  · rw [decide_eq_false h]
    exact beq_eq_false_iff_ne.mpr h
theorem ent_find {z : Str} : ∀ {l : List DictEntry} {ks : List (Str × Int)}, EntAt l ks →
    (∀ i, ariV ks z = some i → ∃ e u, l.find? (·.key.isStr z) = some e ∧ e.val = .int i u) ∧ (ariV ks z = none → l.find? (·.key.isStr z) = none) ∧ l.any (·.refKey) = false := by
  intro l ks h
  induction h with
  | nil => exact ⟨(fun i e => nomatch e), (fun _ => rfl), rfl⟩
  | @cons e k l ks hk hr ih =>
    obtain ⟨⟨t, ek⟩, u, ev⟩ := hk
    obtain ⟨i1, i2, i3⟩ := ih
    have rk : e.refKey = false := by simp [DictEntry.refKey, ek]
    by_cases c : k.1 = z
    · have hd : (e.key.isStr z) = true := by rw [ek, isStr_eq, decide_eq_true c]
      have av : ariV (k :: ks) z = some k.2 := by
        unfold ariV
        rw [List.find?_cons_of_pos (by exact decide_eq_true c)]
        rfl
      refine ⟨fun i e2 => ⟨e, u, List.find?_cons_of_pos (by exact hd), ?_⟩, fun e2 => ?_, ?_⟩
      · rw [av] at e2
        cases e2
        exact ev
      · rw [av] at e2
        cases e2
      · rw [List.any_cons, rk, i3]
        rfl
    · have hd : ¬ (e.key.isStr z) = true := by
        rw [ek, isStr_eq, decide_eq_false c]
        exact Bool.false_ne_true
      have av : ariV (k :: ks) z = ariV ks z := by
        unfold ariV
        rw [List.find?_cons_of_neg (by rw [decide_eq_false c]; exact Bool.false_ne_true)]
      rw [av, List.find?_cons_of_neg (by exact hd)]
      exact ⟨i1, i2, by rw [List.any_cons, rk, i3]; rfl⟩
theorem ari_ns {K : PySem.W.Frag} {w : World} {d : Addr} {es : Array DictEntry} {n : Nat} {ks : List (Str × Int)} (D : KDict K w d es n) (E : EntAt es.toList ks) (z : Str) :
    (∀ i, ariV ks z = some i → ∃ u, PySem.W.nsIn K d z = some (some (.int i u))) ∧ (ariV ks z = none → PySem.W.nsIn K d z = some none) := by
  obtain ⟨h1, h2, h3⟩ := ent_find (z := z) E
  constructor
  · intro i e
    obtain ⟨en, u, f, ev⟩ := h1 i e
    refine ⟨u, ?_⟩
    unfold PySem.W.nsIn
    rw [D.at_]
    show (match es.toList.find? (·.key.isStr z) with | some e => some (some e.val) | none => _) = _
    rw [f, ← ev]
  · intro e
    unfold PySem.W.nsIn
    rw [D.at_]
    show (match es.toList.find? (·.key.isStr z) with | some e => some (some e.val) | none => if es.toList.any (·.refKey) then none else some none) = _
    rw [h2 e, h3]
    rfl
section
variable {X : Cx} {d : Addr} {ks : List (Str × Int)}
def rInA (d : Addr) (ks : List (Str × Int)) : R2 := fun x y H Q => ∃ z : Str, x = .str z ∧ y = .ref d ∧ Q (.bl (ariV ks z).isSome) H
theorem op_in_ari (R : Ari X.K X.w d ks) : OpR X (compareOp .In) (rInA d ks) := by
  intro pins s σ H x y v u Q I rx ry h
  obtain ⟨z, rfl, rfl, q⟩ := h
  obtain ⟨es, n, D, E⟩ := R.ex
  obtain ⟨h1, h2⟩ := ari_ns D E z
  cases e : ariV ks z with
  | none =>
    rw [e] at q
    exact op_in_kd D pins s σ H _ _ v u Q I rx ry ⟨z, none, rfl, rfl, h2 e, q⟩
  | some i =>
    rw [e] at q
    obtain ⟨t, hn⟩ := h1 i e
    exact op_in_kd D pins s σ H _ _ v u Q I rx ry ⟨z, _, rfl, rfl, hn, q⟩
def rIxA (d : Addr) (ks : List (Str × Int)) : R2 := fun x y H Q => ∃ (z : Str) (i : Int), x = .ref d ∧ y = .str z ∧ ariV ks z = some i ∧ Q (.int i) H
theorem ix_ari (R : Ari X.K X.w d ks) : IxR X (rIxA d ks) := by
  intro value slice pins s σ H x y v u Q I rx ry h hs
  obtain ⟨z, i, rfl, rfl, e, q⟩ := h
  obtain ⟨es, n, D, E⟩ := R.ex
  obtain ⟨t, hn⟩ := (ari_ns D E z).1 i e
  have g := op_item_kd D pins s σ H _ _ v u Q I rx ry ⟨z, _, .int i, rfl, rfl, hn, ⟨t, rfl⟩, q⟩
  cases rx
  refine tail_any (kd_type D I) F.slot_dict_getitem.lookup g hs
/-- for k in d -/
def Ita (d : Addr) (ks : List (Str × Int)) : It := ⟨fun i _ => i < ks.length, fun i H x H' => H' = H ∧ ∃ k, ks[i]? = some k ∧ x = .str k.1, fun i _ => ks.length ≤ i⟩
theorem walk_ari : Walk (Ita d ks) ks.length (fun _ => True) (fun i H x H' => H' = H ∧ ∃ k, ks[i]? = some k ∧ x = .str k.1) :=
  ⟨fun _ _ hi _ => hi, fun _ _ => Nat.le_refl _, fun _ _ _ _ _ _ y => y⟩
def iAri (d : Addr) (ks : List (Str × Int)) (td : TE) : TI := fun σ H R => td σ H fun x H1 => x = .ref d ∧ R (Ita d ks) H1
theorem turn_ari {P : Program} {w : World} {K : PySem.W.Frag} {tg : Expr} {es : Array DictEntry} {n : Nat} (D : KDict K w d es n) (E : EntAt es.toList ks) (it : Addr) : Turn P w K tg (Ita d ks) [it] it (fun i h => h.IsKeyIter it d i ks.length n) where
  mem := List.mem_singleton.mpr rfl
  obj := fun i h st b hb => by
    obtain rfl : b = it := List.mem_singleton.mp hb
    obtain ⟨oi, e, c, dd⟩ := st
    refine ⟨oi, e, fun v z => ?_⟩
    rw [dd] at z
    cases z
  keep := fun i h h' st k => st.at fun oi e => k it (List.mem_singleton.mpr rfl) oi e
  item := by
    intro X hP hw hK hc i pins s σ H E2 I hf st hi
    subst hP hw hK
    obtain ⟨f0, f1, f2, f3, f4, f5⟩ := hf it (List.mem_singleton.mpr rfl)
    have hl : es.size = ks.length := by rw [← Array.length_toList]; exact Paired.length E
    obtain ⟨k, hk⟩ : ∃ k, ks[i]? = some k := ⟨ks[i], List.getElem?_eq_getElem hi⟩
    obtain ⟨en, hen, ⟨t, ek⟩, _⟩ : ∃ en, es[i]? = some en ∧ (∃ t, en.key = .str k.1 t) ∧ ∃ u, en.val = .int k.2 u := by
      have hi2 : i < es.toList.length := by rw [Array.length_toList, hl]; exact hi
      have he := List.getElem?_eq_getElem hi2
      obtain ⟨b, hb, h2⟩ := paired_get E he
      rw [hk] at hb
      cases hb
      exact ⟨_, by rw [← Array.getElem?_toList]; exact he, h2⟩
    refine next_key_item st (I.kIn _ _ D.at_) rfl hl hen fun h' st' sb => ?_
    have I1 : Inv X pins σ H { s with heap := h' } := I.turned (t' := s.toks) (fun b ob hb e => (sb.2 b hb).trans e) f0 f1 f3 f4 f5
    obtain ⟨oi, e, c, dd⟩ := id st'
    exact ⟨en.key, rfl, go_of (s := { s with heap := h' }) e c dd (by decide) ⟨.str k.1, H, I1, ⟨t, ek⟩, ⟨rfl, k, hk, rfl⟩, st', fun b hb => (hf b hb).1⟩⟩
  done := by
    intro X hP hw hK hc i pins s σ H E2 I hf st hi
    subst hP hw hK
    obtain ⟨f0, f1, f2, f3, f4, f5⟩ := hf it (List.mem_singleton.mpr rfl)
    have hl : es.size = ks.length := by rw [← Array.length_toList]; exact Paired.length E
    exact next_key_end (I.ok.hd hc) st (I.kIn _ _ D.at_) rfl hl hi fun h' eb => ⟨rfl, I.turned (t' := s.toks) (fun b ob hb e => eb b ob hb e) f0 f1 f3 f4 f5⟩
  self := fun A i s Q E st h => wpAny_pyIter_keyiter st h
theorem pi_ari {tg e : Expr} {td : TE} (R : Ari X.K X.w d ks) (he : PE X e td) : PI X tg e (iAri d ks td) := by
  refine ⟨fun pins s σ H R' I h => ?_⟩
  refine thn (he.run pins s σ H _ I h) fun u s1 z => ?_
  obtain ⟨x, H1, I1, rx, rfl, q⟩ := z
  cases rx
  obtain ⟨es, n, D, E⟩ := R.ex
  have hl : es.size = ks.length := by rw [← Array.length_toList]; exact Paired.length E
  refine iter_keys D.low (I1.kIn _ _ D.at_) ⟨rfl, rfl, rfl⟩ rfl (pi_one (tk := s1.toks) I1 _ (turn_ari D E _) ⟨_, Heap.get?_push_size _ rfl, rfl, ?_⟩ q)
  rw [hl]
  rfl
end
/-! ### xs[k], to be changed in place -/
def rGetN (K : PySem.W.Frag) : V → V → Hp → VK → Prop := fun o i H Q => ∃ (p : Addr) (xs : List V) (k : Nat) (v : V), o = .ref p ∧ i = .int (k : Nat) ∧ SqL K H p xs ∧ xs[k]? = some v ∧ Q v H
theorem get_list {X : Cx} : PGet X (rGetN X.K) := by
  intro pins s σ H o i ov iv Q I ro ri h
  obtain ⟨p, xs, k, v, rfl, rfl, hq, hv, q⟩ := h
  cases ro
  obtain ⟨t, rfl⟩ := ri
  obtain ⟨its, r, pl, hz⟩ := I.list hq
  obtain ⟨u, hu, ru⟩ := r.get hv
  have hl := r.length
  have hn := line63
  have hk : k < xs.length := (List.getElem?_eq_some_iff.mp hv).1
  exact wpAny_getItem_list pl.isList (by omega) (by omega) (by rw [Int.toNat_natCast]; simpa using hu) ⟨v, H, I, ru, q⟩
theorem atI_last {α : Type} (l : List α) (x : α) : atI (l ++ [x]) (-(1 : Int)) = some x := by
  unfold atI ixN
  rw [if_neg (by omega), if_pos (by rw [List.length_append, List.length_singleton]; omega)]
  show (l ++ [x])[(-(1 : Int) + ((l ++ [x]).length : Nat)).toNat]? = some x
  rw [show (-(1 : Int) + ((l ++ [x]).length : Nat)).toNat = l.length by rw [List.length_append, List.length_singleton]; omega, List.getElem?_append_right (Nat.le_refl _), Nat.sub_self]
  rfl
/-- one of two readings -/
theorem pe_either {X : Cx} {e : Expr} {t1 t2 : TE} (h1 : PE X e t1) (h2 : PE X e t2) : PE X e (fun σ H Q => t1 σ H Q ∨ t2 σ H Q) :=
  ⟨fun pins s σ H Q I h => h.elim (fun z => h1.run pins s σ H Q I z) fun z => h2.run pins s σ H Q I z⟩
end PX
/-! C.m(e, ..), m a staticmethod of the class at C. -/
namespace PX
open PySem PySem.Spec PyProof.Rows L2
structure SMet (K : PySem.W.Frag) (C : Addr) (mc : Value) (m : Str) (p g : Addr) : Prop where
  at_ : PySem.W.findCls K (.ref C) mc m = some (.get (.builtin "staticmethod.__get__") (.ref p) .none (.ref C))
  rc : ∃ rest, PySem.W.recIn K p "staticmethod" = some (.ref g :: rest)
def tSMeth (C : Addr) (sp : Sp) (E : XK) (ta : TE) (t : TA) : TE := fun σ H Q => ta σ H fun x H1 => x = .ref C ∧ t σ H1 fun vs H2 => sp vs H2 Q E
section
variable {X : Cx} {CX : CXT} {k : Nat} {C p g : Addr} {fd : FuncData} {ps : List Str} {mc : Value} {sp : Sp} {E : XK} {o e : Expr} {es : List Expr} {m : Str} {pos apos : Pos} {ta : TE} {t : TA} {pl : Sem Bool}
theorem pe_smeth (he : PE X o ta) (r : ClX.CRead X.K C mc) (c : SMet X.K C mc m p g) (F : FnOk X.prog X.w X.K X.mg X.base CX k g fd ps sp) (hr : Room k X.A) (hk : PySem.W.keepIn X.K (.ref g) = true) (hb : Binds X.K fd ps []) (hx : Passes CX X E) (ha : PA X (e :: es) t)
    (hst : starEach (e :: es) X.env = (false, eval e X.env) :: starEach es X.env := by rfl) (hpl : (backTo pos (starEach es X.env)).any (·.1) = false := by rfl)
    (ht : eval (.Call (.Attribute o m apos) (e :: es) [] pos) X.env = (do
      let v ← eval o X.env
      standAt apos.atName
      let (f, first) ← holding [v] (getMethod v m pl)
      callWith pos f first (backTo pos (starEach (e :: es) X.env)) (backToKw pos (keywordEach [] X.env))) := by rfl) :
    PE X (.Call (.Attribute o m apos) (e :: es) [] pos) (tSMeth C sp E ta t) := by
  constructor
  intro pins s σ H Q I h
  refine PySem.W.methodCall_KW (pl := pl) (thn (he.run pins s σ H _ I h) fun u s1 z => ?_) ht
  obtain ⟨x, H1, I1, rx, rfl, q⟩ := z
  cases rx
  obtain ⟨rest, hp⟩ := c.rc
  refine PySem.W.method_cls I1.kIn r.ga ?_
  refine PySem.W.cls_bind I1.kIn r.rd c.at_ (wpAny_call (PySem.W.sm_get (s := { s1 with toks := s1.toks + 1 }) I1.kIn hp (PySem.W.handed_on rfl ?_)))
  have I2 : Inv X pins σ H1 { s1 with toks := s1.toks + 1 } := I1.tok _
  refine PySem.W.callWith_K (first := []) (h₀ := X.base) I2.ok.mod.kin hk (thn (ha.run pos pins _ σ H1 _ I2 q) fun us s3 z => ?_) hst hpl
  obtain ⟨vs, H2, I3, rv, q2⟩ := z
  refine ⟨I3.kIn, ?_⟩
  have hv : Vals (vs ++ []) us := by rw [List.append_nil]; exact rv
  exact run_fn F hr hb .nil hx I3 rv (by rw [List.append_nil]; exact q2)
end
end PX
/-! tuples of texts as data (==) -/
namespace PX
open PySem PySem.Spec PyProof.Rows L2
def strsT (l : List Str) : PyData := .tuple (l.map .str)
theorem strsT_dp {K : PySem.W.Frag} {H : Hp} {a : Addr} {l : List Str} (h : SqT K H a (l.map V.str)) : Dp K H (.ref a) (strsT l) := .tup h (dps_map V.str PyData.str l fun k _ => .str k)
theorem strsT_all : ∀ l : List Str, PyData.eqvAll (l.map .str) (l.map .str) = true
  | [] => rfl
  | k :: r => by
    rw [List.map_cons, PyData.eqvAll, strsT_all r]
    simp [PyData.eqv]
theorem strsT_eqv (l : List Str) : PyData.eqv (strsT l) (strsT l) = true := by
  unfold strsT
  rw [PyData.eqv]
  exact strsT_all l
theorem strsT_lay : ∀ l : List Str, (∀ x ∈ l, PyData.strOk x = true) → PyData.canLayAll0 (l.map .str) = true
  | [], _ => rfl
  | k :: r, h => by
    rw [List.map_cons, PyData.canLayAll0, strsT_lay r fun x hx => h x (List.mem_cons_of_mem _ hx)]
    simp [PyData.canLay0, h k List.mem_cons_self]
theorem strsT_shaped {l : List Str} (h : ∀ x ∈ l, PyData.strOk x = true) : SeqAt.shaped (strsT l) = true := by
  unfold SeqAt.shaped
  rw [Bool.and_eq_true]
  refine ⟨?_, ?_⟩
  · unfold strsT
    rw [PyData.canLay0]
    exact strsT_lay l h
  · have := depth_map PyData.str 0 l fun k _ => Nat.le_refl _
    refine decide_eq_true ?_
    show PyData.depthAll _ + 1 ≤ 64
    omega
def strsL (l : List Str) : PyData := .list (l.map .str)
theorem strsL_dp {K : PySem.W.Frag} {H : Hp} {a : Addr} {l : List Str} (h : SqL K H a (l.map V.str)) : Dp K H (.ref a) (strsL l) := .lst h (dps_map V.str PyData.str l fun k _ => .str k)
theorem strsL_eqv (l : List Str) : PyData.eqv (strsL l) (strsL l) = true := by
  unfold strsL
  rw [PyData.eqv]
  exact strsT_all l
theorem strsL_shaped {l : List Str} (h : ∀ x ∈ l, PyData.strOk x = true) : SeqAt.shaped (strsL l) = true := by
  unfold SeqAt.shaped
  rw [Bool.and_eq_true]
  refine ⟨?_, ?_⟩
  · unfold strsL
    rw [PyData.canLay0]
    exact strsT_lay l h
  · have := depth_map PyData.str 0 l fun k _ => Nat.le_refl _
    refine decide_eq_true ?_
    show PyData.depthAll _ + 1 ≤ 64
    omega
theorem strsL_nil (l : List Str) : PyData.eqv (strsL l) (strsL []) = decide (l = []) := by
  unfold strsL
  rw [PyData.eqv]
  cases l with
  | nil => rfl
  | cons x r =>
    rw [List.map_cons, List.map_nil, PyData.eqvAll, decide_eq_false (by simp)]
/-- texts of low signs -/
def lowS (x : Str) : Prop := ∀ c ∈ x.cps.toList, c ≤ 127
theorem lowS.ok {x : Str} (h : lowS x) : PyData.strOk x = true := by
  unfold PyData.strOk
  rw [← Array.all_toList, List.all_eq_true]
  intro c hc
  have := h c hc
  exact decide_eq_true (by omega)
end PX
/-! Calls of built-ins whose readings name K, for blocks of comprehensions. -/
namespace PX
open PySem PySem.Spec PyProof.Rows L2
def rLenK (K : PySem.W.Frag) : List V → Hp → VK → Prop := fun xs H Q => ∃ p ys, xs = [.ref p] ∧ (SqL K H p ys ∨ SqT K H p ys) ∧ Q (.int ys.length) H
def rListK (K : PySem.W.Frag) : List V → Hp → VK → Prop := fun xs H Q => ∃ p ys, xs = [.ref p] ∧ (SqL K H p ys ∨ SqT K H p ys) ∧ ∀ l, H l = none → Q (.ref l) (upd H l (.lst ys))
def rTupK (K : PySem.W.Frag) : List V → Hp → VK → Prop := fun xs H Q => ∃ p ys, xs = [.ref p] ∧ ((SqL K H p ys ∧ ∀ l, H l = none → Q (.ref l) (upd H l (.tup ys))) ∨ (SqT K H p ys ∧ Q (.ref p) H))
section
variable {X : Cx}
theorem call_lenK : CallR X (.builtin "len") (rLenK X.K) := call_len_seq
theorem call_listK : CallR X (.type "list") (rListK X.K) := call_list_of
theorem call_tupK : CallR X (.type "tuple") (rTupK X.K) := call_tuple_of
end
end PX
namespace PX
open PySem PySem.Spec PyProof.Rows L2
/-! ### how large a rule is: nodes, leaves, signs -/
structure Fit (ns : List Str) (k l z : Nat) (r : RT) : Prop where
  fine : Fine ns k l r
  wt : r.wt ≤ z
  bs : ∀ x ∈ r.bases, x ∈ ns
theorem good_up {ns : List Str} : ∀ {d : Nat} {r : RT}, RT.good ns d r → RT.good ns (d + 1) r
  | 0, .base n, h => h
  | d + 1, .base n, h => h
  | 0, .op _ _, h => h.elim
  | d + 1, .op w ps, h => ⟨h.1, h.2.1, fun p hp => good_up (h.2.2 p hp)⟩
theorem good_le {ns : List Str} {d e : Nat} {r : RT} (h : d ≤ e) (g : RT.good ns d r) : RT.good ns e r := by
  induction h with
  | refl => exact g
  | step _ ih => exact good_up ih
theorem Fit.op {ns : List Str} {w : Str} {ps : List RT} {k l z : Nat} (hw : fitsW w ps.length) (hl : w.length ≤ 7) (h : ∀ p ∈ ps, ∃ a b c, Fit ns a b c p) (hk : (subsL ps).length + 1 ≤ k) (hlf : ∀ (tb : Str → Tab) (m : Nat), (∀ n, (tb n).length ≤ m) → leafs tb (subsL ps) ≤ l * m) (hz : 10 + wts ps ≤ z) : Fit ns k l z (.op w ps) := by
  refine ⟨⟨?_, ?_, ?_, ?_⟩, ?_, ?_⟩
  · show (subsL ps ++ [RT.op w ps]).length ≤ k
    rw [List.length_append, List.length_singleton]
    exact hk
  · intro n hn
    rcases List.mem_append.mp (show RT.base n ∈ subsL ps ++ [RT.op w ps] from hn) with y | y
    · obtain ⟨p, hp, hx⟩ := mem_subsL y
      obtain ⟨_, _, _, f⟩ := h p hp
      exact f.fine.base n hx
    · cases List.mem_singleton.mp y
  · intro v qs hn
    rcases List.mem_append.mp (show RT.op v qs ∈ subsL ps ++ [RT.op w ps] from hn) with y | y
    · obtain ⟨p, hp, hx⟩ := mem_subsL y
      obtain ⟨_, _, _, f⟩ := h p hp
      exact f.fine.fits v qs hx
    · cases List.mem_singleton.mp y
      exact hw
  · intro tb m hm
    show leafs tb (subsL ps ++ [RT.op w ps]) ≤ l * m
    rw [leafs_append]
    exact hlf tb m hm
  · show w.length + 3 + wts ps ≤ z
    omega
  · intro x hx
    obtain ⟨p, hp, hb⟩ := basesL_mem.mp (show x ∈ basesL ps from hx)
    obtain ⟨_, _, _, f⟩ := h p hp
    exact f.bs x hb
theorem Fit.op2 {ns : List Str} {w : Str} {r1 r2 : RT} {k1 l1 z1 k2 l2 z2 : Nat} (f1 : Fit ns k1 l1 z1 r1) (f2 : Fit ns k2 l2 z2 r2) (hw : fitsW w 2) (hl : w.length ≤ 7) : Fit ns (k1 + k2 + 1) (l1 + l2) (z1 + z2 + 14) (.op w [r1, r2]) := by
  have e : subsL [r1, r2] = r1.subs ++ (r2.subs ++ []) := rfl
  refine Fit.op hw hl (fun p hp => ?_) ?_ (fun tb m hm => ?_) ?_
  · rcases List.mem_cons.mp hp with y | y
    · subst y
      exact ⟨_, _, _, f1⟩
    · rw [List.mem_singleton.mp y]
      exact ⟨_, _, _, f2⟩
  · have a := f1.fine.cnt
    have b := f2.fine.cnt
    rw [e, List.append_nil, List.length_append]
    omega
  · have a := f1.fine.leaf tb m hm
    have b := f2.fine.leaf tb m hm
    rw [e, List.append_nil, leafs_append, Nat.add_mul]
    omega
  · have a := f1.wt
    have b := f2.wt
    have c : wts [r1, r2] = (r1.wt + 2) + ((r2.wt + 2) + 0) := rfl
    omega
theorem Fit.op1 {ns : List Str} {w : Str} {r1 : RT} {k1 l1 z1 : Nat} (f1 : Fit ns k1 l1 z1 r1) (hw : fitsW w 1) (hl : w.length ≤ 7) : Fit ns (k1 + 1) l1 (z1 + 12) (.op w [r1]) := by
  have e : subsL [r1] = r1.subs ++ [] := rfl
  refine Fit.op hw hl (fun p hp => ?_) ?_ (fun tb m hm => ?_) ?_
  · rw [List.mem_singleton.mp hp]
    exact ⟨_, _, _, f1⟩
  · have a := f1.fine.cnt
    rw [e, List.append_nil]
    omega
  · rw [e, List.append_nil]
    exact f1.fine.leaf tb m hm
  · have a := f1.wt
    have c : wts [r1] = (r1.wt + 2) + 0 := rfl
    omega
theorem Fit.op3 {ns : List Str} {w : Str} {r1 r2 r3 : RT} {k1 l1 z1 k2 l2 z2 k3 l3 z3 : Nat} (f1 : Fit ns k1 l1 z1 r1) (f2 : Fit ns k2 l2 z2 r2) (f3 : Fit ns k3 l3 z3 r3) (hw : fitsW w 3) (hl : w.length ≤ 7) : Fit ns (k1 + k2 + k3 + 1) (l1 + l2 + l3) (z1 + z2 + z3 + 16) (.op w [r1, r2, r3]) := by
  have e : subsL [r1, r2, r3] = r1.subs ++ (r2.subs ++ (r3.subs ++ [])) := rfl
  refine Fit.op hw hl (fun p hp => ?_) ?_ (fun tb m hm => ?_) ?_
  · rcases List.mem_cons.mp hp with y | y
    · subst y
      exact ⟨_, _, _, f1⟩
    · rcases List.mem_cons.mp y with y | y
      · subst y
        exact ⟨_, _, _, f2⟩
      · rw [List.mem_singleton.mp y]
        exact ⟨_, _, _, f3⟩
  · have a := f1.fine.cnt
    have b := f2.fine.cnt
    have c := f3.fine.cnt
    rw [e, List.append_nil, List.length_append, List.length_append]
    omega
  · have a := f1.fine.leaf tb m hm
    have b := f2.fine.leaf tb m hm
    have c := f3.fine.leaf tb m hm
    rw [e, List.append_nil, leafs_append, leafs_append, Nat.add_mul, Nat.add_mul]
    omega
  · have a := f1.wt
    have b := f2.wt
    have c := f3.wt
    have g : wts [r1, r2, r3] = (r1.wt + 2) + ((r2.wt + 2) + ((r3.wt + 2) + 0)) := rfl
    omega
theorem Fit.op0 (ns : List Str) {w : Str} (hw : fitsW w 0) (hl : w.length ≤ 7) : Fit ns 1 0 10 (.op w []) :=
  Fit.op hw hl (fun p hp => nomatch hp) (Nat.le_refl _) (fun tb m _ => Nat.zero_le _) (Nat.le_refl _)
theorem Fit.mono {ns : List Str} {k l z k' l' z' : Nat} {r : RT} (f : Fit ns k l z r) (hk : k ≤ k') (hl : l ≤ l') (hz : z ≤ z') : Fit ns k' l' z' r :=
  ⟨⟨Nat.le_trans f.fine.cnt hk, f.fine.base, f.fine.fits, fun tb m hm => Nat.le_trans (f.fine.leaf tb m hm) (Nat.mul_le_mul_right m hl)⟩, Nat.le_trans f.wt hz, f.bs⟩
/-- the answer of an evaluation is in order -/
theorem Fit.ans {ns : List Str} {k l z : Nat} {r : RT} (f : Fit ns k l z r) {sh : Sheets} {m : Nat} (hok : ∀ s ∈ sh, TabOk s.2.2) (hlen : ∀ s ∈ sh, s.2.2.length ≤ m) : TabOk (evalT (tabOf sh) r) ∧ (evalT (tabOf sh) r).length ≤ l * m := by
  have ok : ∀ n, TabOk (tabOf sh n) := fun n => tabOf_of (P := TabOk) hok TabOk.nil n
  have few : ∀ n, (tabOf sh n).length ≤ m := fun n => tabOf_of (P := fun l => l.length ≤ m) hlen (Nat.zero_le _) n
  exact ⟨evalT_ok ok r, Nat.le_trans (evalT_len ok r) (f.fine.leaf _ _ few)⟩
end PX
/-! own special methods: len(x), str(x), by a def of the class -/
namespace PX
open PySem PySem.Spec PyProof.Rows L2
section
variable {X : Cx} {CX : CXT} {k : Nat} {C f : Addr} {fd : FuncData} {ps : List Str} {sp : Sp} {E : XK}
/-- the method runs, one builtin further in -/
theorem own_run {pins : List (Addr × Obj)} {σ : L2.St} {H : Hp} {s : Shared} {Q : VK} {us : List Value} {vs : List V} {Er : Value → Shared → Prop} {B : Around} (hB : Room k B) (eB : Env0 X.prog X.w X.K X.mg X.base B X.stack s H) (F : FnOk X.prog X.w X.K X.mg X.base CX k f fd ps sp) (hb : Binds X.K fd ps []) (hx : Passes CX X.nox E)
    (I : Inv X pins σ H s) (r : Vals vs us) (h : sp vs H Q E) : wpAny (model X.prog X.w) B (call (.ref f) us) (EP X pins σ Q) Er s := by
  have hl : us.length = ps.length := r.length.symm.trans (F.len _ _ _ _ h)
  have hz := hb s us I.kIn (by rw [List.append_nil]; exact hl)
  rw [List.append_nil] at hz
  refine wpAny_call (codeAny_mono (F.run B X.stack s H ⟨us, []⟩ us vs Q E hB eB hz r h) fun res s' hq => ?_)
  match res, hq with
  | .error er, hq => exact (hx pins σ H s er s' (I.wish _) hq).elim
  | .ok (.ret u), hq => exact I.after hq
  | .ok .next, hq => exact hq.elim
  | .ok .brk, hq => exact hq.elim
  | .ok .cont, hq => exact hq.elim
/-- the class's method, bound at the instance -/
structure OwnM (K : PySem.W.Frag) (C : Addr) (nm : Str) (f : Addr) : Prop where
  at_ : PySem.W.findIn K (.ref C) nm = some (some (.ref f))
  fn : PySem.W.isFn K (.ref f) = true
theorem own_special {pins : List (Addr × Obj)} {σ : L2.St} {H : Hp} {s : Shared} {Q : VK} {R : Option Value → Shared → Prop} {nm : Str} {a dx : Addr} {fs : List (Str × V)} {us : List Value} {vs : List V} {Er : Value → Shared → Prop} {B : Around} (hB : Room k B) (eB : Env0 X.prog X.w X.K X.mg X.base B X.stack s H)
    (M : OwnM X.K C nm f) (F : FnOk X.prog X.w X.K X.mg X.base CX k f fd ps sp) (hb : Binds X.K fd ps []) (hx : Passes CX X.nox E) (I : Inv X pins σ H s) (ea : H a = some (.ins C dx fs)) (r : Vals vs us) (h : sp (.ref a :: vs) H Q E)
    (back : ∀ u s', EP X pins σ Q u s' → R (some u) s') : wpAny (model X.prog X.w) B (callSpecial? (.ref a) nm us) R Er s := by
  obtain ⟨mA, O, _⟩ := ins_get I.hok ea
  obtain ⟨od, J, _⟩ := O.look
  exact PySem.W.special_fn I.kIn J M.at_ (beq_iff_eq.mp M.fn) (wpAny_mono (own_run (vs := .ref a :: vs) hB eB F hb hx I (.cons rfl r) h) (fun u s' z => back u s' z) fun _ _ z => z)
/-- len(x) -/
theorem call_lenC (M : OwnM X.K C "__len__" f) (F : FnOk X.prog X.w X.K X.mg X.base CX k f fd ps sp) (hr : Room (k + 1) X.A) (hb : Binds X.K fd ps []) (hx : Passes CX X.nox E) :
    CallR X (.builtin "len") (fun xs H Q => ∃ (a dx : Addr) (fs : List (Str × V)), xs = [.ref a] ∧ H a = some (.ins C dx fs) ∧ sp [.ref a] H (fun v H' => ∃ n : Int, v = .int n ∧ 0 ≤ n ∧ n < 2 ^ 63 ∧ Q (.int n) H') E) := by
  intro pins s σ H xs us Q I r h
  obtain ⟨a, dx, fs, rfl, ea, q⟩ := h
  obtain ⟨u0, rfl, rx⟩ := vals1 r
  cases rx
  refine Calls.call_function_entry PySem.kind_len PySem.plain_len PySem.entry_len (PySem.args_len1 _) ?_
  unfold Builtin.«len»
  refine wpAny_bind (m := oneArg "len" _) (wpAny_pure (wpAny_bind (m := callSpecial? (.ref a) (Str.ofString "__len__")) ?_))
  refine own_special hr.in1 I.env0.in1 M F hb hx I ea .nil q fun u s' ⟨v, H', I', rv, n, ev, n0, n1, qn⟩ => ?_
  subst ev
  obtain ⟨t, rfl⟩ := rv
  refine wpAny_bind (wpAny_holding (wpAny_pure (wpAny_bind (wpAny_letGo ?_))))
  show wpAny _ _ (if n < 0 then _ else _) _ _ _
  rw [if_neg (Int.not_lt.mpr n0)]
  show wpAny _ _ (if 2 ^ 63 ≤ n then _ else _) _ _ _
  rw [if_neg (Int.not_le.mpr n1)]
  exact wpAny_bind (wpAny_mkInt (wpAny_pure ⟨_, rfl, .int n, H', I'.tok _, ⟨_, rfl⟩, qn⟩))
end
end PX
/-! str(x) and x == y by own methods; != of two tuples whose items are equal by an own ==; t[::-1] of a tuple. -/
namespace PX
open PySem PySem.Spec PyProof.Rows L2
section
variable {X : Cx} {CX : CXT} {k : Nat} {C f : Addr} {fd : FuncData} {ps : List Str} {sp : Sp} {E : XK}
/-- str(x) -/
theorem call_strC (M : OwnM X.K C "__str__" f) (F : FnOk X.prog X.w X.K X.mg X.base CX k f fd ps sp) (hr : Room (k + 2) X.A) (hb : Binds X.K fd ps []) (hx : Passes CX X.nox E) :
    CallR X (.type "str") (fun xs H Q => ∃ (a dx : Addr) (fs : List (Str × V)), xs = [.ref a] ∧ H a = some (.ins C dx fs) ∧ sp [.ref a] H (fun v H' => ∃ z : Str, v = .str z ∧ Q (.str z) H') E) := by
  intro pins s σ H xs us Q I r h
  obtain ⟨a, dx, fs, rfl, ea, q⟩ := h
  obtain ⟨u0, rfl, rx⟩ := vals1 r
  cases rx
  obtain ⟨mA, O, _⟩ := ins_get I.hok ea
  obtain ⟨od, J, _⟩ := O.look
  refine PySem.W.kso_call (Nat.lt_of_le_of_lt (Nat.le_add_right _ 0) hr.in1.in1.units0) I.kIn J M.at_ M.fn ?_
  refine wpAny_mono (own_run (vs := [.ref a]) hr.in1.in1 I.env0.in1.in1 F hb hx I (.cons rfl .nil) q) (fun u s' z => ?_) fun _ _ z => z
  obtain ⟨v, H', I', rv, y, ev, q'⟩ := z
  subst ev
  obtain ⟨t, rfl⟩ := rv
  exact ⟨.str y, H', I', ⟨t, rfl⟩, q'⟩
/-- x == y of two instances of the class -/
def rEqC (C : Addr) (sp : Sp) (E : XK) : R2 := fun x y H Q => ∃ (a b dx dy : Addr) (fs gs : List (Str × V)), x = .ref a ∧ y = .ref b ∧ H a = some (.ins C dx fs) ∧ H b = some (.ins C dy gs) ∧ sp [.ref a, .ref b] H (fun v H' => ∃ c : Bool, v = .bl c ∧ Q (.bl c) H') E
theorem op_eqC (M : OwnM X.K C "__eq__" f) (F : FnOk X.prog X.w X.K X.mg X.base CX k f fd ps sp) (hr : Room k X.A) (hb : Binds X.K fd ps []) (hx : Passes CX X.nox E) : OpR X (compareOp .Eq) (rEqC C sp E) := by
  intro pins s σ H x y v u Q I rx ry h
  obtain ⟨a, b, dx, dy, fs, gs, rfl, rfl, ea, eb, q⟩ := h
  cases rx
  cases ry
  obtain ⟨mA, O, _⟩ := ins_get I.hok ea
  obtain ⟨od, J, _⟩ := O.look
  obtain ⟨mB, O2, _⟩ := ins_get I.hok eb
  obtain ⟨od2, J2, _⟩ := O2.look
  obtain ⟨m, hF⟩ := I.fr
  refine PySem.W.cmp_K (op := .Eq) (tb := .ref C) hr.units0 hF I.ok.mod.kin J J2.type (by simp [PySem.W.notFirst]) M.at_ M.fn ?_
  refine wpAny_mono (own_run (vs := [.ref a, .ref b]) hr I.env0 F hb hx I (.cons rfl (.cons rfl .nil)) q) (fun z s' zz => ?_) fun _ _ zz => zz
  obtain ⟨w2, H', I', rw', c, ec, q'⟩ := zz
  subst ec
  cases rw'
  exact ⟨.bl c, H', I', rfl, q'⟩
end
/-! ### != of tuples -/
section
variable {prog : Program} {w : World} {A : Around} {E : Value → Shared → Prop}
theorem ne_tuples {R : Result → Shared → Prop} (l b : Addr) (us vs : Array Value) (n n2 : Nat) (dd dd2 : Option Addr) (sl sl2 : Array (Option Value)) (same : us.size = vs.size) (J : Nat → Shared → Prop)
    (each : ∀ i (h1 : i < us.size) (h2 : i < vs.size) s, J i s → wpAny (model prog w) A.in1 (eqBool us[i] vs[i]) (fun r s' => r = true ∧ J (i + 1) s') (fun e s' => R (.error e) s') s)
    (out : ∀ s, J us.size s → R (.ok (.ret (.bool false))) s) {s : Shared} (at1 : s.heap.get? l = some { cls := .type "tuple", dict := dd, data := .seq us n, slots := sl }) (at2 : s.heap.get? b = some { cls := .type "tuple", dict := dd2, data := .seq vs n2, slots := sl2 }) (j0 : J 0 s) :
    wpAny (model prog w) A.in1 (Builtin.«tuple.__ne__» ⟨[.ref l, .ref b], []⟩) (GQ.FinOf prog w A R) (fun e s' => R (.error e) s') s := by
  have subT := AutoSeq1.sub_tuple_tuple
  have len : (us.toList.zip vs.toList).length = us.size := by simp [same]
  have keep0 := j0
  obtain ⟨hp, g, d, tk, os⟩ := s
  wp_walk using AutoSeq1.wpAny_loadPart' at1, AutoSeq1.wpAny_loadPart' at2, wpAny_forIn_list _ (fun left acc s' => acc.1 = none ∧ ∃ i, left = (us.toList.zip vs.toList).drop i ∧ i ≤ us.size ∧ J i s') _
  case turn =>
    rintro ⟨y, x⟩ left acc s' ⟨hacc, i, cut, hi, hJ⟩
    have inside : i < (us.toList.zip vs.toList).length := by
      rcases Nat.lt_or_ge i (us.toList.zip vs.toList).length with q | q
      · exact q
      · rw [List.drop_of_length_le q] at cut; cases cut
    have i1 : i < us.size := len ▸ inside
    have i2 : i < vs.size := same ▸ i1
    rw [List.drop_eq_getElem_cons inside] at cut
    injection cut with pair tail
    have ey : y = us[i] := by have := congrArg Prod.fst pair; simpa using this
    have ex : x = vs[i] := by have := congrArg Prod.snd pair; simpa using this
    subst ey ex
    refine wpAny_bind (wpAny_mono (each i i1 i2 s' hJ) (fun r s2 z => ?_) fun _ _ z => z)
    obtain ⟨er, z⟩ := z
    subst er
    wp_walk
    exact ⟨rfl, i + 1, tail, i1, z⟩
  case fin =>
    rintro ⟨b1, b2⟩ s' ⟨hacc, i, cut, hi, hJ⟩
    simp only at hacc
    subst hacc
    have over : us.size ≤ i := by
      rcases Nat.lt_or_ge i (us.toList.zip vs.toList).length with q | q
      · rw [List.drop_eq_getElem_cons q] at cut; cases cut
      · exact len ▸ q
    have ei : i = us.size := by omega
    have done := out s' (ei ▸ hJ)
    wp_walk
    simpa [Builtin.Tuple.tupleCompareSizes, same] using done
  case h =>
    exact ⟨rfl, 0, rfl, Nat.zero_le _, keep0⟩
end
section
variable {X : Cx} {n : Nat} {D : Eqv}
/-- x != y of two tuples, equal item by item -/
def rNeTG (K : PySem.W.Frag) (D : Eqv) : R2 := fun x y H Q => DTup K D x y H ∧ ∀ H', Ext H H' → Q (.bl false) H'
theorem op_neTG (hD : Mon D) (h : EqG X n D) (hr : Room (n + 1) X.A) : OpR X (compareOp .NotEq) (rNeTG X.K D) := by
  intro pins s σ H x y v u Q I rx ry hq
  obtain ⟨⟨a, b, xs, ys, rfl, rfl, ha, hb, p⟩, q⟩ := hq
  cases rx
  cases ry
  obtain ⟨its, r, e, z⟩ := I.tuple ha
  obtain ⟨its2, r2, e2, z2⟩ := I.tuple hb
  have same : its.toArray.size = its2.toArray.size := by rw [List.size_toArray, List.size_toArray, ← r.length, ← r2.length]; exact p.1
  obtain ⟨⟨c1, d1, dat1, sl1⟩, o1, hc1, m1, hd1⟩ := id e
  obtain ⟨⟨c2, d2, dat2, sl2⟩, o2, hc2, m2, hd2⟩ := id e2
  simp only at hc1 hd1 hc2 hd2
  subst hc1 hd1 hc2 hd2
  show wpAny (model X.prog X.w) X.A (richCompare .NotEq (.ref a) (.ref b)) (EP X pins σ Q) X.xe s
  refine wpAny_richCompare_same_room (op := .NotEq) ⟨_, o1, rfl⟩ ⟨_, o2, rfl⟩ PySem.F.slot_tuple_ne (GQ.call_here PySem.F.slot_tuple_ne ⟨_, o1, rfl⟩ PySem.F.entry_tuple_ne (PySem.F.args_tuple_ne_2 _ _) ?_) hr.units0
  refine ne_tuples (R := wants (fun v s' => v ≠ .notImplemented ∧ EP X pins σ Q v s') X.xe) a b its.toArray its2.toArray m1 m2 d1 d2 sl1 sl2 same (fun _ s' => LoopI X pins σ H s') (fun i h1 h2 s' l => turnG hD h ⟨hr, rfl⟩ p r r2 i h1 h2 s' l) (fun s' l => ?_) o1 o2 ⟨H, I, Ext.rfl'⟩
  obtain ⟨H', I', x'⟩ := l
  exact ⟨(fun z => nomatch z), .bl false, H', I', rfl, q H' x'⟩
end
/-! ### t[::-1] -/
section
variable {prog : Program} {w : World} {A : Around} {E : Value → Shared → Prop} {s : Shared}
theorem sliceApplied_back {sl : Addr} {vl vu vs : Value} {n : Nat} {Q : Int × Int × Nat → Shared → Prop} (hs : s.heap.IsSliceOf sl vl vu vs) (pl : IsPart vl none) (pu : IsPart vu none) (pv : IsPart vs (some (-1)))
    (h : Q ((n : Int) - 1, -1, n) s) : wpAny (model prog w) A (Builtin.Slice.sliceApplied (.ref sl) (pure (n : Int))) Q E s := by
  obtain ⟨os, atS, clsS, datS⟩ := id hs
  unfold Builtin.Slice.sliceApplied Builtin.Slice.sliceFields
  refine wpAny_bind (wpAny_bind (wpAny_field atS datS (x := vl) rfl (wpAny_bind (wpAny_field atS datS (x := vu) rfl (wpAny_bind (wpAny_field atS datS (x := vs) rfl (wpAny_pure ?_)))))))
  refine wpAny_bind (HT.slicePart_ pv ?_)
  show wpAny _ _ (if ((-1 : Int) == 0) = true then _ else _) _ _ s
  rw [if_neg (by decide)]
  refine wpAny_bind (HT.slicePart_ pl (wpAny_bind (HT.slicePart_ pu (wpAny_bind (wpAny_pure ?_)))))
  have e1 : Builtin.Slice.sliceAdjust none none (-1) (n : Int) = ((n : Int) - 1, -1) := by
    unfold Builtin.Slice.sliceAdjust
    simp
  have e2 : Builtin.Slice.slicePlaces ((n : Int) - 1) (-1) (-1) = n := by
    unfold Builtin.Slice.slicePlaces
    have no : ¬ ((-1 : Int) > 0) := by decide
    simp only [no, if_false]
    rw [show (-(-1) : Int) = 1 by decide, Int.ediv_one]
    split <;> omega
  show wpAny _ _ (match Builtin.Slice.sliceAdjust none none (-1) (n : Int) with | (lo, hi) => pure (lo, (-1 : Int), Builtin.Slice.slicePlaces lo hi (-1))) _ _ s
  rw [e1]
  show wpAny _ _ (pure ((n : Int) - 1, (-1 : Int), Builtin.Slice.slicePlaces ((n : Int) - 1) (-1) (-1))) _ _ s
  rw [e2]
  exact wpAny_pure h
theorem pick_back (xs : Array Value) : ((List.range xs.size).filterMap fun (m : Nat) => xs[(((xs.size : Nat) : Int) - 1 + (m : Int) * (-1)).toNat]?).toArray = xs.toList.reverse.toArray := by
  rw [← PySem.W.krv_pick xs]
  unfold slicePick
  rw [PySem.W.krv_bounds]
  show _ = ((sliceRange ((xs.size : Int) - 1) (-1) (-1)).filterMap (xs[·]?)).toArray
  rw [PySem.W.krv_sliceRange, List.filterMap_map]
  congr 2
  funext m
  have e : (((xs.size : Nat) : Int) - 1 + (m : Int) * (-1)).toNat = xs.size - 1 - m := by omega
  rw [e]
  rfl
theorem getItem_tuple_back {t sl : Addr} {items : Array Value} {vl vu vs : Value} {Q : Value → Shared → Prop} (ht : IsTup s.heap t items) (hs : s.heap.IsSliceOf sl vl vu vs) (pl : IsPart vl none) (pu : IsPart vu none) (pv : IsPart vs (some (-1)))
    (h : Q (.ref s.heap.objs.size) { s with heap := s.heap.push { cls := .type "tuple", data := .seq items.toList.reverse.toArray } }) (hsz : items.size ≤ sizeLine) : wpAny (model prog w) A (getItem (.ref t) (.ref sl)) Q E s := by
  have fits : sizeOk (.seq items.toList.reverse.toArray) := by
    show items.toList.reverse.toArray.size ≤ sizeLine
    rw [List.size_toArray, List.length_reverse, Array.length_toList]
    exact hsz
  obtain ⟨os, atS, clsS, datS⟩ := id hs
  have isS : s.TypeIs (.ref sl) "slice" := ⟨os, atS, clsS⟩
  unfold getItem
  try with_reducible refine wpAny_holding ?_
  first | refine wpAny_bind (wpAny_pure ?_) | skip
  refine wpAny_bind (wpAny_sequenceKey ht.typeIs (by decide) ?_)
  refine wpAny_bind (wpAny_callSpecial?_slot (name := Str.ofString "__getitem__") ht.typeIs PyProof.Rows.slot_tuple_getitem (wpAny_call_entry PyProof.Rows.slot_tuple_getitem ht.typeIs entry_tuple_getitem ?_ (args_tuple_getitem _ _)))
  show wpAny _ _ (Builtin.Tuple.tupleItemsOf (.ref t) >>= _) _ _ s
  refine wpAny_bind (tupleItemsOf_ ht ?_)
  refine wpAny_bind (wpAny_typeOf isS ?_)
  rw [if_pos (by decide)]
  refine wpAny_bind (sliceApplied_back hs pl pu pv ?_)
  have notWhole : ¬ ((((items.size : Nat) : Int) - 1 == 0 && (-1 : Int) == 1 && items.size == items.size) = true) := by
    rw [show ((-1 : Int) == 1) = false from rfl, Bool.and_false, Bool.false_and]
    exact Bool.false_ne_true
  show wpAny _ _ (if ((((items.size : Nat) : Int) - 1 == 0 && (-1 : Int) == 1 && items.size == items.size) = true) then _ else _) _ _ s
  rw [if_neg notWhole, pick_back]
  first
    | exact wpAny_bind (m := Builtin.Tuple.tupleExact _) (wpAny_newObj_type (wpAny_pure ⟨_, rfl, wpAny_pure h⟩) fits)
    | exact wpAny_bind (m := Builtin.Tuple.tupleExact _) (wpAny_newObj_type (wpAny_bind (wpAny_pure (wpAny_pure ⟨_, rfl, wpAny_pure h⟩))) fits)
    | exact wpAny_bind (wpAny_bind (m := Builtin.Tuple.tupleExact _) (wpAny_newObj_type (wpAny_pure (wpAny_pure ⟨_, rfl, wpAny_pure h⟩)) fits))
    | exact wpAny_bind (wpAny_bind (m := Builtin.Tuple.tupleExact _) (wpAny_newObj_type (wpAny_pure ⟨_, rfl, wpAny_pure h⟩) fits))
end
def tRevT (K : PySem.W.Frag) (te : TE) : TE := fun σ H Q => te σ H fun x H1 => ∃ (a : Addr) (xs : List V), x = .ref a ∧ SqT K H1 a xs ∧ ∀ p, H1 p = none → Q (.ref p) (upd H1 p (.tup xs.reverse))
theorem pe_revT {X : Cx} {e : Expr} {te : TE} {k : Nat} {p1 p2 p3 pos : Pos} (he : PE X e te) : PE X (.Subscript e (.Slice none none (some (.UnaryOp .USub (.Constant (.int 1) k p1) p2)) p3) pos) (tRevT X.K te) := by
  refine ⟨fun pins s σ H Q I h => ?_⟩
  refine Subscript_ (thn (he.run pins s σ H _ I h) fun v s1 ⟨x, H1, I1, r1, got⟩ => ?_)
  obtain ⟨a, xs, rfl, hx, q⟩ := got
  cases r1
  have step : PO X (some (.UnaryOp .USub (.Constant (.int 1) k p1) p2)) (tPart (tUn (rU fun i => .int (-i)) (tC (.int 1)))) := po_some (pe_un un_neg pe_int)
  refine wpAny_Slice (thn (po_none.run pins s1 σ H1 (fun o H2 => o = none ∧ H2 = H1) I1 ⟨rfl, rfl⟩) fun vl s2 ⟨l, H2, I2, pl, ⟨el, e2⟩⟩ => ?_)
  subst el e2
  refine thn (po_none.run pins s2 σ H2 (fun o H3 => o = none ∧ H3 = H2) I2 ⟨rfl, rfl⟩) fun vu s3 ⟨u, H3, I3, pu, ⟨eu, e3⟩⟩ => ?_
  subst eu e3
  refine thn (step.run pins s3 σ H3 (fun o H4 => o = some (-1) ∧ H4 = H3) I3 ⟨1, rfl, -1, rfl, rfl, rfl⟩) fun vs s4 ⟨o, H4, I4, pv, ⟨eo, e4⟩⟩ => ?_
  subst eo e4
  have I5 : Inv X pins σ H4 { s4 with heap := s4.heap.push { cls := .type "slice", data := .fields #[vl, vu, vs] } } := I4.kept (t' := s4.toks) fun b ob z => Heap.get?_push_of_some _ z
  obtain ⟨its, r, ht, hz⟩ := I5.tuple hx
  have len := r.length
  show wpAny (model X.prog X.w) X.A (subscriptTail e (.Slice none none (some (.UnaryOp .USub (.Constant (.int 1) k p1) p2)) p3) (.ref a) (.ref s4.heap.objs.size)) (EP X pins σ Q) X.xe { s4 with heap := s4.heap.push { cls := .type "slice", data := .fields #[vl, vu, vs] } }
  refine tail_any (ops := [.ref a, .ref s4.heap.objs.size]) ht.typeIs (PyProof.Rows.slot_tuple_getitem.lookup) ?_ (by with_unfolding_all rfl)
  refine getItem_tuple_back ht (Heap.IsSliceOf.new _ vl vu vs) pl pu pv ?_ (by rw [List.size_toArray]; omega)
  refine ⟨.ref _, _, I5.laid (t' := s4.toks) (o := .tup xs.reverse) (fun b ob z => Heap.get?_push_of_some _ z) (Nat.le_refl _) ?_, rfl, q _ (I5.hok.fresh (Nat.le_refl _))⟩
  exact ⟨by rw [List.length_reverse]; exact hz, _, r.reverse, IsTup.new _ _⟩
end PX
/-! C.m(x=e), m a staticmethod of the class at C; == of two tuples whose items are equal by an own ==. -/
namespace PX
open PySem PySem.Spec PyProof.Rows L2
/-- one value by its keyword -/
def sw1 {α : Type} : List α → List α → List α
  | [], [a] => [a]
  | _, _ => []
theorem kb_one {K : PySem.W.Frag} {x qual : Str} {st : Stmt} {f : Addr} {fd : FuncData} {p1 : Str} (F : Fun K x qual st f fd)
    (h : ∀ (kV doc pm : Value) (an : Option Addr) (cdv ct a : Value), bindArgs (PySem.W.fnOf x qual (defArgs st) (defBody st) (defScope st) .none kV doc pm an cdv ct) ⟨[], [(p1, a)]⟩ = pure [(p1, a)]) :
    KBinds K fd [p1] [p1] sw1 sw1 := by
  obtain ⟨oc, od, kV, doc, pm, an, cdv, ct, osl, rfl, lk, hcd⟩ := F.ex
  refine ⟨fun s us ws _ hl => ?_, fun {vs us zs ws} r z => ?_⟩
  · match us, ws, hl with
    | [], [a], _ => exact .of_eq (h kV doc pm an cdv ct a)
  · cases r with
    | nil =>
      cases z with
      | nil => exact .nil
      | cons a z =>
        cases z with
        | nil => exact .cons a .nil
        | cons b z => exact .nil
    | cons a r => exact .nil
def tSMethK (C : Addr) (sp : Sp) (E : XK) (ta : TE) (t : TA) : TE := fun σ H Q => ta σ H fun x H1 => x = .ref C ∧ t σ H1 fun zs H2 => sp (sw1 [] zs) H2 Q E
section
variable {X : Cx} {CX : CXT} {k : Nat} {C p g : Addr} {fd : FuncData} {ps ks : List Str} {mc : Value} {sp : Sp} {E : XK} {o : Expr} {m : Str} {pos apos : Pos} {ta : TE} {tk : TA} {pl : Sem Bool} {kws : List Keyword}
theorem pe_smethK (he : PE X o ta) (r : ClX.CRead X.K C mc) (c : SMet X.K C mc m p g) (F : FnOk X.prog X.w X.K X.mg X.base CX k g fd ps sp) (hr : Room k X.A) (hk : PySem.W.keepIn X.K (.ref g) = true) (hb : KBinds X.K fd ps ks sw1 sw1) (hx : Passes CX X E) (hkw : PK X kws tk)
    (hall : (backToKw pos (keywordEach kws X.env)).all (·.1.isSome) = true := by rfl) (hks : (backToKw pos (keywordEach kws X.env)).filterMap (·.1) = ks := by rfl)
    (hpl : ((backTo pos (starEach [] X.env)).any (·.1) || (backToKw pos (keywordEach kws X.env)).any (·.1.isNone)) = false := by rfl)
    (ht : eval (.Call (.Attribute o m apos) [] kws pos) X.env = (do
      let v ← eval o X.env
      standAt apos.atName
      let (f, first) ← holding [v] (getMethod v m pl)
      callWith pos f first (backTo pos (starEach [] X.env)) (backToKw pos (keywordEach kws X.env))) := by rfl) :
    PE X (.Call (.Attribute o m apos) [] kws pos) (tSMethK C sp E ta tk) := by
  constructor
  intro pins s σ H Q I h
  refine PySem.W.methodCall_KW (pl := pl) (thn (he.run pins s σ H _ I h) fun u s1 z => ?_) ht
  obtain ⟨x, H1, I1, rx, rfl, q⟩ := z
  cases rx
  obtain ⟨rest, hp⟩ := c.rc
  refine PySem.W.method_cls I1.kIn r.ga ?_
  refine PySem.W.cls_bind I1.kIn r.rd c.at_ (wpAny_call (PySem.W.sm_get (s := { s1 with toks := s1.toks + 1 }) I1.kIn hp (PySem.W.handed_on rfl ?_)))
  have I2 : Inv X pins σ H1 { s1 with toks := s1.toks + 1 } := I1.tok _
  refine PySem.W.callWith_KW0 (h₀ := X.base) I2.ok.mod.kin hk hall ?_ hpl
  refine thn (hkw.run pos pins _ σ H1 _ I2 q) fun ws s3 z => ?_
  obtain ⟨zs, H2, I3, rz, q2⟩ := z
  refine ⟨I3.kIn, ?_⟩
  rw [hks]
  exact run_fnk (us := []) (vs := []) F hr hb hx I3 .nil rz q2
end
section
variable {prog : Program} {w : World} {A : Around} {E : Value → Shared → Prop}
theorem eq_tuples {R : Result → Shared → Prop} (l b : Addr) (us vs : Array Value) (n n2 : Nat) (dd dd2 : Option Addr) (sl sl2 : Array (Option Value)) (same : us.size = vs.size) (J : Nat → Shared → Prop)
    (each : ∀ i (h1 : i < us.size) (h2 : i < vs.size) s, J i s → wpAny (model prog w) A.in1 (eqBool us[i] vs[i]) (fun r s' => r = true ∧ J (i + 1) s') (fun e s' => R (.error e) s') s)
    (out : ∀ s, J us.size s → R (.ok (.ret (.bool true))) s) {s : Shared} (at1 : s.heap.get? l = some { cls := .type "tuple", dict := dd, data := .seq us n, slots := sl }) (at2 : s.heap.get? b = some { cls := .type "tuple", dict := dd2, data := .seq vs n2, slots := sl2 }) (j0 : J 0 s) :
    wpAny (model prog w) A.in1 (Builtin.«tuple.__eq__» ⟨[.ref l, .ref b], []⟩) (GQ.FinOf prog w A R) (fun e s' => R (.error e) s') s := by
  have subT := AutoSeq1.sub_tuple_tuple
  have len : (us.toList.zip vs.toList).length = us.size := by simp [same]
  have keep0 := j0
  obtain ⟨hp, g, d, tk, os⟩ := s
  wp_walk using AutoSeq1.wpAny_loadPart' at1, AutoSeq1.wpAny_loadPart' at2, wpAny_forIn_list _ (fun left acc s' => acc.1 = none ∧ ∃ i, left = (us.toList.zip vs.toList).drop i ∧ i ≤ us.size ∧ J i s') _
  case turn =>
    rintro ⟨y, x⟩ left acc s' ⟨hacc, i, cut, hi, hJ⟩
    have inside : i < (us.toList.zip vs.toList).length := by
      rcases Nat.lt_or_ge i (us.toList.zip vs.toList).length with q | q
      · exact q
      · rw [List.drop_of_length_le q] at cut; cases cut
    have i1 : i < us.size := len ▸ inside
    have i2 : i < vs.size := same ▸ i1
    rw [List.drop_eq_getElem_cons inside] at cut
    injection cut with pair tail
    have ey : y = us[i] := by have := congrArg Prod.fst pair; simpa using this
    have ex : x = vs[i] := by have := congrArg Prod.snd pair; simpa using this
    subst ey ex
    refine wpAny_bind (wpAny_mono (each i i1 i2 s' hJ) (fun r s2 z => ?_) fun _ _ z => z)
    obtain ⟨er, z⟩ := z
    subst er
    wp_walk
    exact ⟨rfl, i + 1, tail, i1, z⟩
  case fin =>
    rintro ⟨b1, b2⟩ s' ⟨hacc, i, cut, hi, hJ⟩
    simp only at hacc
    subst hacc
    have over : us.size ≤ i := by
      rcases Nat.lt_or_ge i (us.toList.zip vs.toList).length with q | q
      · rw [List.drop_eq_getElem_cons q] at cut; cases cut
      · exact len ▸ q
    have ei : i = us.size := by omega
    have done := out s' (ei ▸ hJ)
    wp_walk
    simpa [Builtin.Tuple.tupleCompareSizes, same] using done
  case h =>
    exact ⟨rfl, 0, rfl, Nat.zero_le _, keep0⟩
end
section
variable {X : Cx} {n : Nat} {D : Eqv}
/-- x == y of two tuples, equal item by item -/
def rEqTG (K : PySem.W.Frag) (D : Eqv) : R2 := fun x y H Q => DTup K D x y H ∧ ∀ H', Ext H H' → Q (.bl true) H'
theorem op_eqTG (hD : Mon D) (h : EqG X n D) (hr : Room (n + 1) X.A) : OpR X (compareOp .Eq) (rEqTG X.K D) := by
  intro pins s σ H x y v u Q I rx ry hq
  obtain ⟨⟨a, b, xs, ys, rfl, rfl, ha, hb, p⟩, q⟩ := hq
  cases rx
  cases ry
  obtain ⟨its, r, e, z⟩ := I.tuple ha
  obtain ⟨its2, r2, e2, z2⟩ := I.tuple hb
  have same : its.toArray.size = its2.toArray.size := by rw [List.size_toArray, List.size_toArray, ← r.length, ← r2.length]; exact p.1
  obtain ⟨⟨c1, d1, dat1, sl1⟩, o1, hc1, m1, hd1⟩ := id e
  obtain ⟨⟨c2, d2, dat2, sl2⟩, o2, hc2, m2, hd2⟩ := id e2
  simp only at hc1 hd1 hc2 hd2
  subst hc1 hd1 hc2 hd2
  show wpAny (model X.prog X.w) X.A (richCompare .Eq (.ref a) (.ref b)) (EP X pins σ Q) X.xe s
  refine wpAny_richCompare_same_room (op := .Eq) ⟨_, o1, rfl⟩ ⟨_, o2, rfl⟩ PySem.F.slot_tuple_eq (GQ.call_here PySem.F.slot_tuple_eq ⟨_, o1, rfl⟩ PySem.F.entry_tuple_eq (PySem.F.args_tuple_eq_2 _ _) ?_) hr.units0
  refine eq_tuples (R := wants (fun v s' => v ≠ .notImplemented ∧ EP X pins σ Q v s') X.xe) a b its.toArray its2.toArray m1 m2 d1 d2 sl1 sl2 same (fun _ s' => LoopI X pins σ H s') (fun i h1 h2 s' l => turnG hD h ⟨hr, rfl⟩ p r r2 i h1 h2 s' l) (fun s' l => ?_) o1 o2 ⟨H, I, Ext.rfl'⟩
  obtain ⟨H', I', x'⟩ := l
  exact ⟨(fun z => nomatch z), .bl true, H', I', rfl, q H' x'⟩
end
end PX
/-! x != y of two instances whose class has an own __eq__ and no __ne__. -/
namespace PX
open PySem PySem.Spec PyProof.Rows L2
open PySem.W (findIn isFn mroIn)
section
variable {M : Model} {prog : Program} {w : World} {A : Around} {E : Value → Shared → Prop} {s : Shared} {K : PySem.W.Frag} {x C f : Addr} {ox : Obj} {od : Option Obj} {name : Str} {b : Value} {args : List Value}
/-- a special method that is a builtin -/
theorem special_B {i : String} {Q : Option Value → Shared → Prop} (X : K.In s.heap) (I : PySem.W.InstAt s.heap x ox C od) (hs : findIn K (.ref C) name = some (some (.builtin i))) (hb : ∀ z, bindSpecial (.builtin i) z = pure (.builtin i, [z]))
    (h : wpAny M A (call (.builtin i) (.ref x :: args)) (fun v => Q (some v)) E s) : wpAny M A (callSpecialIfBound? (.ref x) name args) Q E s := by
  have last : wpAny M A (call (.builtin i) ([Value.ref x] ++ args) >>= fun v => pure (some v)) Q E s := by
    refine wpAny_bind (wpAny_mono h ?_ fun _ _ z => z)
    intro v s' z
    exact wpAny_pure z
  unfold callSpecialIfBound? bindSpecialIfBound?
  refine wpAny_holding ?_
  refine wpAny_bind (wpAny_bind (wpAny_bind (I.type.here ?_)))
  refine (PySem.W.looks_findIn X hs).here ?_
  simp only [hb]
  refine wpAny_bind ?_
  refine wpAny_askSetting (wpAny_ite ?_)
  have get : wpAny M A (pure (Value.builtin i, [Value.ref x]) >>= fun r => call r.1 (r.2 ++ args) >>= fun v => pure (some v)) Q E s := wpAny_bind (wpAny_pure last)
  split
  · exact wpAny_bind (wpAny_pure (wpAny_pure last))
  · exact wpAny_tryCatch (wpAny_bind (wpAny_pure (wpAny_pure last)))
/-- object.__ne__ asks the own __eq__ -/
theorem ne_asks {y : Value} {Q : Fin → Shared → Prop} (X : K.In s.heap) (I : PySem.W.InstAt s.heap x ox C od) (hs : findIn K (.ref C) "__eq__" = some (some (.ref f))) (hf : isFn K (.ref f) = true) (hu : A.units < cLine)
    (h : wpAny (model prog w) A (call (.ref f) [.ref x, y]) (fun v s' => ∃ c, v = .bool c ∧ Q (.done (.ret (.bool (!c)))) s') E s) : wpAny (model prog w) A (Builtin.«object.__ne__» ⟨[.ref x, y], []⟩) Q E s := by
  unfold Builtin.«object.__ne__»
  refine wpAny_bind (m := slotArgs "__ne__" 1 _) (wpAny_pure ?_)
  refine wpAny_bind (wpAny_cRoomFor hu ?_)
  refine wpAny_bind (m := callSpecialIfBound? (.ref x) (Str.ofString "__eq__") [y]) (PySem.W.ifBound_K X I hs hf (wpAny_mono h ?_ fun _ _ z => z))
  rintro v s' ⟨c, rfl, q⟩
  refine wpAny_bind (m := truthy (.bool c)) (wpAny_truthy_bool ?_)
  exact wpAny_pure q
end
section
variable {X : Cx} {CX : CXT} {k : Nat} {C f : Addr} {fd : FuncData} {ps : List Str} {sp : Sp} {E : XK}
/-- x != y of two instances of the class -/
def rNeC (C : Addr) (sp : Sp) (E : XK) : R2 := fun x y H Q => ∃ (a b dx dy : Addr) (fs gs : List (Str × V)), x = .ref a ∧ y = .ref b ∧ H a = some (.ins C dx fs) ∧ H b = some (.ins C dy gs) ∧ sp [.ref a, .ref b] H (fun v H' => ∃ c : Bool, v = .bl c ∧ Q (.bl !c) H') E
theorem op_neC (M : OwnM X.K C "__eq__" f) (hne : findIn X.K (.ref C) "__ne__" = some (some (.builtin "object.__ne__"))) (hm : mroIn X.K C (.type "object") = some true)
    (F : FnOk X.prog X.w X.K X.mg X.base CX k f fd ps sp) (hr : Room (k + 1) X.A) (hb : Binds X.K fd ps []) (hx : Passes CX X.nox E) : OpR X (compareOp .NotEq) (rNeC C sp E) := by
  intro pins s σ H x y v u Q I rx ry h
  obtain ⟨a, b, dx, dy, fs, gs, rfl, rfl, ea, eb, q⟩ := h
  cases rx
  cases ry
  obtain ⟨mA, O, _⟩ := ins_get I.hok ea
  obtain ⟨od, J, _⟩ := O.look
  obtain ⟨mB, O2, _⟩ := ins_get I.hok eb
  obtain ⟨od2, J2, _⟩ := O2.look
  have X0 := I.kIn
  have isO : PySem.W.Looks (model X.prog X.w) s.heap (isInstance (.ref a) (.type "object")) true := J.type.andThen (PySem.W.looks_mroIn X0 hm)
  have body : wpAny (model X.prog X.w) X.A.in1 (Builtin.«object.__ne__» ⟨[.ref a, .ref b], []⟩) (fun r s' => ∃ c : Bool, r = .done (.ret (.bool c)) ∧ EP X pins σ Q (.bool c) s') X.xe s := by
    refine ne_asks X0 J M.at_ M.fn (hr.in1).units0 ?_
    refine wpAny_mono (own_run (vs := [.ref a, .ref b]) hr.in1 I.env0.in1 F hb hx I (.cons rfl (.cons rfl .nil)) q) (fun z s' zz => ?_) fun _ _ zz => zz
    obtain ⟨w2, H', I', rw', c, ec, q'⟩ := zz
    subst ec
    cases rw'
    exact ⟨c, rfl, _, rfl, .bl !c, H', I', rfl, q'⟩
  have one : wpAny (model X.prog X.w) X.A (tryCompare (.ref a) "__ne__" (.ref b)) (fun r s' => ∃ z, r = some z ∧ EP X pins σ Q z s') X.xe s := by
    unfold tryCompare
    refine wpAny_bind (special_B X0 J hne PySem.F.cmp_object.ne.bind (wpAny_call (codeAny_call_builtin PySem.F.cmp_object.ne.plain PySem.F.cmpEntry_ne ?_)))
    refine PySem.W.check_slot PySem.F.cmpKind_ne PySem.F.cmpSplit_ne isO (PySem.F.cmpArgs_ne _ _) ?_
    refine wpAny_mono body (fun r s' z => ?_) fun _ _ z => z
    obtain ⟨c, rfl, z⟩ := z
    first
      | exact ⟨_, rfl, z⟩
      | exact wpAny_pure ⟨_, rfl, z⟩
      | exact ⟨_, rfl, wpAny_pure ⟨_, rfl, z⟩⟩
      | exact ⟨_, rfl, wpAny_pure (wpAny_pure ⟨_, rfl, z⟩)⟩
      | (show False; trace_state; done)
  show wpAny _ _ (richCompare .NotEq (.ref a) (.ref b)) _ _ s
  unfold richCompare
  rw [oneThing_ref]
  refine wpAny_holding ?_
  refine wpAny_bind (wpAny_cRoomFor hr.units0 ?_)
  refine wpAny_bind (J.type.here ?_)
  refine wpAny_bind (J2.type.here ?_)
  have same : (Value.ref C != Value.ref C) = false := by simp
  rw [same]
  refine wpAny_bind (wpAny_pure ?_)
  refine wpAny_bind (wpAny_mono one (fun r s' z => ?_) fun _ _ z => z)
  obtain ⟨v, rfl, z⟩ := z
  exact wpAny_pure z
end
end PX
/-! set(a list of texts), any number of them. -/
namespace PX
open PySem PySem.Spec PyProof.Rows L2
section
variable {P : Program} {w : World} {A : Around} {R : Result → Shared → Prop} {I : Addr} {fp wr : List Addr} {G : Array GenState → Array GenState → Prop} {n : Nat} {Pv : Nat → Value → Prop} {St : Nat → Shared → Prop}
/-- what stands in the set behind i turns -/
def InTxt (P : Program) (w : World) (h : Heap) (S : Addr) (xs : List Str) (i : Nat) : Prop := ∃ (M : Str → Bool) (m : Nat), SetG (txtKind P w) h S M m ∧ m ≤ i ∧ ∀ k, M k = true ↔ k ∈ xs.take i
theorem fill_txts (W : WalksS P w A.in1 I fp wr G n Pv St) (S : Addr) (off : S ∉ fp) (xs : List Str) (len : xs.length = n) (few : xs.length < 64) (each : ∀ i v, Pv i v → ∃ x t, xs[i]? = some x ∧ v = .str x t) :
    ∀ (k i : Nat) (s : Shared), n - i = k → i ≤ n → St i s → InTxt P w s.heap S xs i →
      (∀ s', Moved (S :: wr) G s s' → InTxt P w s'.heap S xs n → R (.ok (.ret .none)) s') →
      codeAny (model P w) A (.builtin "set.update.loop" ⟨[.ref S, .ref I], []⟩) R s := by
  have offW : S ∉ wr := fun z => off (W.sub _ z)
  have more : ∀ b ∈ wr, b ∈ S :: wr := fun b z => List.mem_cons_of_mem _ z
  intro k
  induction k with
  | zero =>
    intro i s ek le st at_ fin
    obtain rfl : i = n := by omega
    refine codeAny_builtin PyProof.Rows.F.entry_set_update_loop ?_
    rw [Around.under_plainId PyProof.Rows.F.plain_set_update_loop _]
    show wpAny _ A.in1 (pyNext (.ref I) >>= _) _ _ s
    refine wpAny_bind (W.done s _ _ st fun s' mv => ?_)
    show wpAny _ A.in1 (ret Value.none) _ _ s'
    obtain ⟨M, m, g, lm, hM⟩ := at_
    exact wpAny_pure (fin s' (mv.mono more) ⟨M, m, g.keep fun o e => mv.heap S o offW e, lm, hM⟩)
  | succ k ih =>
    intro i s ek le st at_ fin
    have lt : i < n := by omega
    refine codeAny_builtin PyProof.Rows.F.entry_set_update_loop ?_
    rw [Around.under_plainId PyProof.Rows.F.plain_set_update_loop _]
    show wpAny _ A.in1 (pyNext (.ref I) >>= _) _ _ s
    refine wpAny_bind (W.item i s _ _ lt st fun v s' pv st' mv => ?_)
    obtain ⟨x, t, hx, rfl⟩ := each i v pv
    obtain ⟨M, m, g, lm, hM⟩ := at_
    have g' : SetG (txtKind P w) s'.heap S M m := g.keep fun o e => mv.heap S o offW e
    have hk : (txtKind P w).is x (.str x t) = true := strKind_is P w x t
    show wpAny _ A.in1 (holding [Value.str x t] (setAdd S (.str x t)) >>= _) _ _ s'
    refine wpAny_bind (wpAny_holding ?_)
    unfold setAdd
    refine wpAny_holding ?_
    refine wpAny_bind ((txtKind P w).pyHash hk ?_)
    refine setG_addH (s := { s' with toks := s'.toks + 1 }) hk rfl g' (by unfold scanBound; omega) fun h' but g2 => ?_
    have next : InTxt P w h' S xs (i + 1) := by
      refine ⟨_, _, g2, by split <;> omega, fun j => ?_⟩
      have e : xs.take (i + 1) = xs.take i ++ [x] := by
        rw [List.take_add_one, hx]
        rfl
      rw [Bool.or_eq_true, hM, e, List.mem_append, List.mem_singleton, decide_eq_true_iff]
    refine wpAny_pure ⟨plainId_quiet PyProof.Rows.F.plain_set_update_loop _, ih (i + 1) _ (by omega) lt (W.frame _ s' _ _ st' (Nat.le_succ _) fun b hb o e => ?_) next fun s'' mv2 at2 => ?_⟩
    · rw [but.2 b (fun z : b = S => off (by rw [← z]; exact hb))]
      exact e
    · refine fin s'' (Moved.trans W.gtrans ((mv.mono more).then_heap (Nat.le_succ _) fun b o hb e => ?_) mv2) at2
      rw [but.2 b (fun z : b = S => hb (by rw [z]; exact List.mem_cons_self))]
      exact e
end
section
variable {P : Program} {w : World} {A : Around} {E : Value → Shared → Prop} {s : Shared}
theorem call_set_txts {l : Addr} {items : Array Value} {xs : List Str} {Q : Value → Shared → Prop} (hh : A.handled = none) (hl : s.heap.IsList l items) (hi : PyProof.Rows.StrsAre items.toList xs) (few : xs.length < 64)
    (h : ∀ (h' : Heap) (tk : Nat), InTxt P w h' s.heap.objs.size xs xs.length → (∀ b o, s.heap.get? b = some o → h'.get? b = some o) → Q (.ref s.heap.objs.size) { s with heap := h', toks := tk }) :
    wpAny (model P w) A (call (.type "set") [.ref l]) Q E s := by
  obtain ⟨c, tl, hmro⟩ := PySem.F.called_set.mro
  have hmade := PySem.F.called_set.made
  have hsub := PySem.F.called_set.sub
  refine wpAny_call (codeAny_of_tree ?_)
  show wpAny _ _ (callAny (.type "set") _) _ _ _
  refine wpAny_pure ⟨Code.quiet_builtin _ (by decide +kernel), codeAny_builtin PySem.F.entry_type_call ?_⟩
  rw [Around.under_plain (weight_type_call_type "set" [.ref l] []) rfl]
  have h1 := PySem.F.called_set.notType
  have h2 := PySem.F.called_set.canCreate
  have hct := PySem.F.typeCall_set_1 (.ref l)
  repeat (any_goals (first | assumption | wp_step))
  refine codeAny_mono (code_set_led1 (.ref l) (E := E) (Q₁ := fun obj s₁ => obj = .ref s.heap.objs.size ∧ s₁ = { s with heap := s.heap.push { cls := .type "set", dict := none, data := .set #[] 0 (.fresh 0 0 (!w.params.followText "set-order")) } }) ⟨rfl, rfl⟩) fun r s₁ hr => ?_
  cases r with
  | error e => exact hr
  | ok fl =>
    cases fl with
    | ret obj =>
      obtain ⟨rfl, rfl⟩ := hr
      have hS : (s.heap.push { cls := .type "set", dict := none, data := .set #[] 0 (.fresh 0 0 (!w.params.followText "set-order")) }).get? s.heap.objs.size = some { cls := .type "set", dict := none, data := .set #[] 0 (.fresh 0 0 (!w.params.followText "set-order")) } := Heap.get?_push_size _ rfl
      have hT : Shared.TypeIs { s with heap := s.heap.push { cls := .type "set", dict := none, data := .set #[] 0 (.fresh 0 0 (!w.params.followText "set-order")) } } (.ref s.heap.objs.size) "set" := ⟨_, hS, rfl⟩
      have hli := PySem.F.called_set.init.lookup
      have hbi := PySem.F.called_set.init.bind (.ref s.heap.objs.size)
      repeat (any_goals (first | assumption | wp_step))
      refine codeAny_mono (codeAny_call_builtin (R := wants (fun r s₂ => r = .none ∧ ∃ h' tk, s₂ = { s with heap := h', toks := tk } ∧ InTxt P w h' s.heap.objs.size xs xs.length ∧ (∀ b o, s.heap.get? b = some o → h'.get? b = some o)) E) PySem.F.called_set.init.plain PySem.F.entry_set_init (check_set_init_1 hT ?_)) fun r₂ s₂ hr₂ => ?_
      · obtain ⟨ol, hol, hcl, nl, hdl⟩ := hl
        obtain ⟨ocls, odict, odata, oslots⟩ := ol
        simp only at hcl hdl
        subst hcl; subst hdl
        have hol' : (s.heap.push { cls := .type "set", dict := none, data := .set #[] 0 (.fresh 0 0 (!w.params.followText "set-order")) }).get? l = some { cls := .type "list", dict := odict, data := .seq items nl, slots := oslots } := Heap.get?_push_of_some _ hol
        have hsls := PySem.F.sub_list_set
        have hslf := PySem.F.sub_list_frozenset
        have hne : (Value.type "list" == Value.type "dict") = false := by decide
        have hl1 : (s.heap.push { cls := .type "set", dict := none, data := .set #[] 0 (.fresh 0 0 (!w.params.followText "set-order")) }).IsList l items := ⟨_, hol', rfl, nl, rfl⟩
        unfold Builtin.«set.__init__» noKeywords Builtin.Frozenset.updateFrom
        generalize hPI : pyIter = PI
        wp_walk
        subst hPI
        refine wpAny_pyIter_list hl1 ?_
        refine wpAny_bind (wpAny_runValue ?_)
        have lS : l < s.heap.objs.size := Heap.lt_size hol
        have calm3 : A.in1.in1.in1.handled = none := by simp [hh]
        have lI : l ≠ (s.heap.push { cls := .type "set", dict := none, data := .set #[] 0 (.fresh 0 0 (!w.params.followText "set-order")) }).objs.size := by
          rw [Heap.size_push]
          exact Nat.ne_of_lt (Nat.lt_succ_of_lt lS)
        have off : s.heap.objs.size ∉ [(s.heap.push { cls := .type "set", dict := none, data := .set #[] 0 (.fresh 0 0 (!w.params.followText "set-order")) }).objs.size, l] := by
          rw [Heap.size_push]
          simp only [List.mem_cons, List.mem_singleton, List.not_mem_nil, or_false, not_or]
          exact ⟨Nat.ne_of_lt (Nat.lt_succ_self _), Nat.ne_of_gt lS⟩
        have len : xs.length = items.size := by rw [← StrsAre.len_eq hi, Array.length_toList]
        have each : ∀ (i : Nat) (v : Value), items[i]? = some v → ∃ x t, xs[i]? = some x ∧ v = .str x t := fun i v hv => by
          have hv' : items.toList[i]? = some v := by rw [Array.getElem?_toList]; exact hv
          have hlt : i < xs.length := by rw [len]; exact (Array.getElem?_eq_some_iff.mp hv).1
          obtain ⟨t, ht⟩ := StrsAre.at hi (List.getElem?_eq_getElem hlt)
          rw [hv'] at ht
          exact ⟨_, t, List.getElem?_eq_getElem hlt, Option.some.inj ht⟩
        refine fill_txts ((Walks.list calm3 _ l lI items).toS) s.heap.objs.size off xs len few each (items.size - 0) 0 _ (by omega) (Nat.zero_le _) ⟨⟨_, Heap.get?_push_size _ rfl, rfl, rfl⟩, (hl1.push _)⟩ ?start ?fin
        case start =>
          have g0 := setS_fresh P (h := s.heap) w
          exact ⟨_, 0, g0.keep fun o e => Heap.get?_push_of_some _ e, Nat.le_refl _, fun k => ⟨(fun z => nomatch z), fun z => by simp at z⟩⟩
        case fin =>
          intro s' mv at_
          obtain ⟨h', g', d', tk', os'⟩ := s'
          have eg : g' = s.gens := mv.gens
          have ed : d' = s.drawn := mv.drawn
          have eo : os' = s.os := mv.os
          subst eg; subst ed; subst eo
          show wpAny _ _ _ _ _ _
          refine wpAny_pure ?_
          show wpAny _ _ (ret Value.none) _ _ _
          refine wpAny_pure ⟨rfl, h', tk', rfl, by rw [len]; exact at_, fun b o e => ?_⟩
          have b1 : b ≠ s.heap.objs.size := Nat.ne_of_lt (Heap.lt_size e)
          have b2 : b ≠ (s.heap.push { cls := .type "set", dict := none, data := .set #[] 0 (.fresh 0 0 (!w.params.followText "set-order")) }).objs.size := by
            rw [Heap.size_push]
            exact Nat.ne_of_lt (Nat.lt_succ_of_lt (Heap.lt_size e))
          exact mv.heap b o (by simp only [List.mem_cons, List.mem_singleton, List.not_mem_nil, or_false, not_or]; exact ⟨b1, b2⟩) (Heap.get?_push_of_some _ (Heap.get?_push_of_some _ e))
      · cases r₂ with
        | error e => exact hr₂
        | ok fl₂ =>
          cases fl₂ with
          | ret r =>
            obtain ⟨rfl, h', tk, rfl, at_, keeps⟩ := hr₂
            repeat (any_goals (first | assumption | wp_step))
            exact h _ _ at_ keeps
          | _ => exact hr₂.elim
    | _ => exact hr.elim
end
/-- set(xs), xs a list of texts -/
def rSetTxt (K : PySem.W.Frag) (P : Program) (w : World) : List V → Hp → VK → Prop := fun vs H Q => ∃ (l : Addr) (xs : List Str), vs = [V.ref l] ∧ SqL K H l (xs.map V.str) ∧ xs.length < 64 ∧
  ∀ (a : Addr) (M : Str → Bool) (m : Nat), H a = none → m ≤ xs.length → (∀ k, M k = true ↔ k ∈ xs) → Q (.ref a) (upd H a (SetSO P w a M m))
theorem cr_setTxt {X : Cx} (hc : X.calm = true) : CallR X (.type "set") (rSetTxt X.K X.prog X.w) := by
  intro pins s σ H vs us Q I r h
  obtain ⟨l, xs, rfl, hl, few, q⟩ := h
  rw [Vals.ref1 r]
  obtain ⟨its, rv, pl, hz⟩ := I.list hl
  have hn : H s.heap.objs.size = none := I.hok.fresh (Nat.le_refl _)
  refine call_set_txts (P := X.prog) (w := X.w) (I.ok.hd hc) pl.isList (by simpa using strsAre_of rv) few fun h' tk at_ k => ?_
  obtain ⟨M, m, g, lm, hM⟩ := at_
  rw [List.take_length] at hM
  exact ⟨.ref s.heap.objs.size, upd H s.heap.objs.size (SetSO X.prog X.w s.heap.objs.size M m), I.laid (t' := tk) k (Nat.le_refl _) (setSO_new g), rfl, q _ M m hn lm hM⟩
end PX
/-! repr of a text and by an own method; sorted texts are determined by what they are. -/
namespace PX
open PySem PySem.Spec PyProof.Rows L2
section
variable {X : Cx} {CX : CXT} {k : Nat} {C f : Addr} {fd : FuncData} {ps : List Str} {sp : Sp} {E : XK}
theorem call_reprS : CallR X (.builtin "repr") (fun xs H Q => ∃ z : Str, xs = [.str z] ∧ (reprText z).length ≤ sizeLine ∧ Q (.str (reprText z)) H) := by
  intro pins s σ H xs us Q I r h
  obtain ⟨z, rfl, hz, q⟩ := h
  obtain ⟨u, rfl, t, rfl⟩ := vals1 r
  exact PySem.P.repr_of_str ⟨.str _, H, I.tok _, ⟨_, rfl⟩, q⟩ hz
/-- repr(x) by the class's own method -/
theorem call_reprC (M : OwnM X.K C "__repr__" f) (F : FnOk X.prog X.w X.K X.mg X.base CX k f fd ps sp) (hr : Room (k + 1) X.A) (hb : Binds X.K fd ps []) (hx : Passes CX X.nox E) :
    CallR X (.builtin "repr") (fun xs H Q => ∃ (a dx : Addr) (fs : List (Str × V)), xs = [.ref a] ∧ H a = some (.ins C dx fs) ∧ sp [.ref a] H (fun v H' => ∃ z : Str, v = .str z ∧ Q (.str z) H') E) := by
  intro pins s σ H xs us Q I r h
  obtain ⟨a, dx, fs, rfl, ea, q⟩ := h
  obtain ⟨u0, rfl, rx⟩ := vals1 r
  cases rx
  obtain ⟨mA, O, _⟩ := ins_get I.hok ea
  obtain ⟨od, J, _⟩ := O.look
  obtain ⟨m, hF⟩ := I.fr
  refine PySem.W.repr_K hr.in1.units0 hF I.ok.mod.kin J M.at_ M.fn ?_
  refine wpAny_mono (own_run (vs := [.ref a]) hr.in1 I.env0.in1 F hb hx I (.cons rfl .nil) q) (fun u s' z => ?_) fun _ _ z => z
  obtain ⟨v, H', I', rv, y, ev, q'⟩ := z
  subst ev
  obtain ⟨t, rfl⟩ := rv
  exact ⟨.str y, H', I', ⟨t, rfl⟩, q'⟩
end
/-! ### the order of texts -/
abbrev leS (a b : Str) : Prop := a.cps.toList ≤ b.cps.toList
theorem leS_of {a b : Str} (h : ltCps b.cps.toList a.cps.toList = false) : leS a b := by
  rw [ltCps_eq, decide_eq_false_iff_not] at h
  exact List.not_lt.mp h
theorem rising_pw : ∀ (l : List Str) (p : Str), risingS p l = true → (p :: l).Pairwise leS
  | [], p, _ => List.pairwise_singleton _ _
  | x :: r, p, h => by
    have h : (!ltCps x.cps.toList p.cps.toList && risingS x r) = true := h
    rw [Bool.and_eq_true, Bool.not_eq_true'] at h
    have ih := rising_pw r x h.2
    refine List.pairwise_cons.mpr ⟨fun y hy => ?_, ih⟩
    have px := leS_of h.1
    rcases List.mem_cons.mp hy with e | z
    · rw [e]
      exact px
    · exact List.le_trans px ((List.pairwise_cons.mp ih).1 y z)
theorem sorted_pw {l : List Str} (h : sortedS l = true) : l.Pairwise leS := by
  cases l with
  | nil => exact .nil
  | cons x r => exact rising_pw r x h
theorem str_ext {a b : Str} (h : a.cps.toList = b.cps.toList) : a = b := by
  obtain ⟨x⟩ := a
  obtain ⟨y⟩ := b
  exact congrArg Str.mk (Array.toList_inj.mp h)
theorem sorted_uniq {xs ys : List Str} (h1 : sortedS xs = true) (h2 : sortedS ys = true) (n1 : xs.Nodup) (n2 : ys.Nodup) (m : ∀ x, x ∈ xs ↔ x ∈ ys) : xs = ys := by
  have p : xs.Perm ys := (List.perm_ext_iff_of_nodup n1 n2).mpr m
  exact List.Perm.eq_of_pairwise (le := leS) (fun a b _ _ q1 q2 => str_ext (List.le_antisymm q1 q2)) (sorted_pw h1) (sorted_pw h2) p
theorem NamesOk.uniq {a b l : List Str} (h1 : NamesOk a l) (h2 : NamesOk b l) : a = b := sorted_uniq h1.srt h2.srt h1.nd h2.nd fun x => (h1.mem x).trans (h2.mem x).symm
/-! ### repr of words and of tuples of words -/
def wordB (x : Str) : Bool := decide (x.length ≤ 20) && signsD (.str x)
theorem word_repr {x : Str} (h : wordB x = true) : (reprText x).length ≤ sizeLine := by
  unfold wordB at h
  rw [Bool.and_eq_true, decide_eq_true_eq] at h
  have := shown_le (.str x) rfl h.2
  have e : (PyData.str x).shown = reprText x := rfl
  rw [e] at this
  have c : costD (.str x) = 10 * x.length + 2 := rfl
  rw [sizeLine_eq]
  omega
theorem words_facts {K : PySem.W.Frag} {a : Addr} {ns : List Str} {H : Hp} (hq : SqT K H a (ns.map V.str)) (hw : ∀ x ∈ ns, wordB x = true) (few : ns.length ≤ 1000) :
    Dp K H (.ref a) (.tuple (ns.map .str)) ∧ (PyData.tuple (ns.map .str)).showable = true ∧ (PyData.tuple (ns.map .str)).hasDict = false ∧ (PyData.tuple (ns.map .str)).depth ≤ 60 ∧ (PyData.tuple (ns.map .str)).shown.length ≤ sizeLine := by
  have all : ∀ l : List Str, DpAll K H (l.map V.str) (l.map PyData.str) := by
    intro l
    induction l with
    | nil => exact .nil
    | cons x r ih => exact .cons (.str x) ih
  have cost : costL (ns.map PyData.str) ≤ ns.length * (202 + 2) := cost_map PyData.str 202 ns fun x hx => by
    have := hw x hx
    unfold wordB at this
    rw [Bool.and_eq_true, decide_eq_true_eq] at this
    show 10 * x.length + 2 ≤ 202
    omega
  have h1 : (PyData.tuple (ns.map .str)).showable = true := by
    show PyData.showableAll _ = true
    exact showable_map _ ns fun x hx => rfl
  have h2 : signsD (PyData.tuple (ns.map .str)) = true := by
    show signsL _ = true
    exact signs_map _ ns fun x hx => by
      have := hw x hx
      unfold wordB at this
      rw [Bool.and_eq_true] at this
      exact this.2
  refine ⟨.tup hq (all ns), h1, ?_, ?_, ?_⟩
  · show PyData.hasDictAll _ = false
    exact nodict_map _ ns fun x _ => rfl
  · have := depth_map PyData.str 0 ns fun x _ => Nat.le_refl _
    show PyData.depthAll _ + 1 ≤ 60
    omega
  · have s := shown_le _ h1 h2
    have c : costD (PyData.tuple (ns.map .str)) = costL (ns.map PyData.str) + 3 := rfl
    have : ns.length * (202 + 2) ≤ 1000 * (202 + 2) := Nat.mul_le_mul_right _ few
    rw [sizeLine_eq]
    omega
/-! ### zip of two tuples -/
theorem walk_zipT {K : PySem.W.Frag} {a b : Addr} {xs ys : List V} (hl : xs.length = ys.length) : Walk (RZ.ItzT K a b) xs.length (fun H => SqT K H a xs ∧ SqT K H b ys) (YPair (fun i => xs[i]?) (fun i => ys[i]?)) := by
  refine ⟨fun i _ hi q => ⟨xs, ys, xs[i], ys[i]'(hl ▸ hi), q.1, q.2, by simp [hi], by simp [← hl, hi]⟩, fun _ q => ⟨xs, ys, q.1, q.2, .inl (Nat.le_refl _)⟩, fun i H v H' _ q y => ?_⟩
  obtain ⟨T, x, y, h1, h2, h3, h4, h5⟩ := y
  exact ⟨T, x, y, h1, h2, h3, h4 xs q.1, h5 ys q.2⟩
end PX
namespace PX
open PySem PySem.Spec PyProof.Rows L2
/-! ### rules in the place of names -/
mutual
def substR (ρ : Str → Option RT) : RT → RT
  | .base n => (ρ n).getD (.base n)
  | .op w ps => .op w (substRs ρ ps)
def substRs (ρ : Str → Option RT) : List RT → List RT
  | [] => []
  | p :: r => substR ρ p :: substRs ρ r
end
variable {ρ : Str → Option RT}
theorem substRs_len : ∀ ps : List RT, (substRs ρ ps).length = ps.length
  | [] => rfl
  | p :: r => congrArg (· + 1) (substRs_len r)
theorem substRs_map : ∀ ps : List RT, substRs ρ ps = ps.map (substR ρ)
  | [] => rfl
  | p :: r => congrArg (substR ρ p :: ·) (substRs_map r)
/-- the tables with the results of the rules under their names -/
def besideT (ρ : Str → Option RT) (tb : Str → Tab) (n : Str) : Tab := ((ρ n).map (evalT tb)).getD (tb n)
mutual
theorem eval_subst (tb : Str → Tab) : ∀ r : RT, evalT tb (substR ρ r) = evalT (besideT ρ tb) r
  | .base n => by
    show evalT tb ((ρ n).getD (.base n)) = besideT ρ tb n
    unfold besideT
    cases ρ n with
    | none => rfl
    | some q => rfl
  | .op w ps => by
    show combT w (evalTs tb (substRs ρ ps)) = combT w (evalTs (besideT ρ tb) ps)
    rw [eval_substs tb ps]
theorem eval_substs (tb : Str → Tab) : ∀ ps : List RT, evalTs tb (substRs ρ ps) = evalTs (besideT ρ tb) ps
  | [] => rfl
  | p :: r => by
    show evalT tb (substR ρ p) :: evalTs tb (substRs ρ r) = evalT (besideT ρ tb) p :: evalTs (besideT ρ tb) r
    rw [eval_subst tb p, eval_substs tb r]
end
/-! ### the stack of replaced -/
def pushS (ρ : Str → Option RT) (stk : List RT) : RT → List RT
  | .base n => stk ++ [(ρ n).getD (.base n)]
  | .op w ps => stk.take (stk.length - ps.length) ++ [.op w (stk.drop (stk.length - ps.length))]
theorem push_on (w : Str) (ps : List RT) (st ts : List RT) (h : ts.length = ps.length) : pushS ρ (st ++ ts) (.op w ps) = st ++ [.op w ts] := by
  have e : (st ++ ts).length - ps.length = st.length := by rw [List.length_append]; omega
  show (st ++ ts).take ((st ++ ts).length - ps.length) ++ [RT.op w ((st ++ ts).drop ((st ++ ts).length - ps.length))] = _
  rw [e, List.take_left, List.drop_left]
mutual
theorem push_subs : ∀ (r : RT) (stk : List RT), r.subs.foldl (pushS ρ) stk = stk ++ [substR ρ r]
  | .base n, stk => rfl
  | .op w ps, stk => by
    rw [RT.subs_kids, List.foldl_append]
    show pushS ρ ((subsL ps).foldl (pushS ρ) stk) (.op w ps) = _
    rw [push_subsL ps stk, push_on _ _ _ _ (substRs_len ps)]
    rfl
theorem push_subsL : ∀ (ps : List RT) (stk : List RT), (subsL ps).foldl (pushS ρ) stk = stk ++ substRs ρ ps
  | [], stk => (List.append_nil stk).symm
  | p :: r, stk => by
    show (p.subs ++ subsL r).foldl (pushS ρ) stk = _
    rw [List.foldl_append, push_subs p stk, push_subsL r, List.append_assoc]
    rfl
end
mutual
theorem at_push : ∀ (r : RT) (pre : List RT) (x : RT) (post : List RT) (stk : List RT), r.subs = pre ++ x :: post → ∃ st, pre.foldl (pushS ρ) stk = st ++ substRs ρ x.kids
  | .base n, pre, x, post, stk, h => by
    match pre, (show [RT.base n] = pre ++ x :: post from h) with
    | [], h =>
      cases h
      exact ⟨stk, (List.append_nil stk).symm⟩
    | a :: q, h =>
      have := congrArg List.length h
      simp at this
  | .op w ps, pre, x, post, stk, h => by
    rw [RT.subs_kids] at h
    rcases List.append_eq_append_iff.mp (show subsL ps ++ [RT.op w ps] = pre ++ x :: post from h) with ⟨q, e1, e2⟩ | ⟨q, e1, e2⟩
    · match q, e1, e2 with
      | [], e1, e2 =>
        rw [List.append_nil] at e1
        obtain rfl : RT.op w ps = x := (List.cons.inj e2).1
        exact ⟨stk, e1 ▸ push_subsL ps stk⟩
      | a :: q, e1, e2 =>
        have := congrArg List.length e2
        simp at this
    · match q, e1, e2 with
      | [], e1, e2 =>
        rw [List.append_nil] at e1
        obtain rfl : x = RT.op w ps := (List.cons.inj e2).1
        exact ⟨stk, e1 ▸ push_subsL ps stk⟩
      | a :: q, e1, e2 =>
        obtain rfl : x = a := (List.cons.inj e2).1
        exact at_pushL ps pre x q stk e1
theorem at_pushL : ∀ (ps : List RT) (pre : List RT) (x : RT) (post : List RT) (stk : List RT), subsL ps = pre ++ x :: post → ∃ st, pre.foldl (pushS ρ) stk = st ++ substRs ρ x.kids
  | [], pre, x, post, stk, h => by
    have := congrArg List.length h
    simp [subsL] at this
  | p :: r, pre, x, post, stk, h => by
    rcases List.append_eq_append_iff.mp (show p.subs ++ subsL r = pre ++ x :: post from h) with ⟨q, e1, e2⟩ | ⟨q, e1, e2⟩
    · rw [e1, List.foldl_append]
      exact at_pushL r q x post _ e2
    · match q, e1, e2 with
      | [], e1, e2 =>
        rw [List.append_nil] at e1
        obtain ⟨st, e⟩ := at_pushL r [] x post (pre.foldl (pushS ρ) stk) e2.symm
        exact ⟨st, e⟩
      | a :: q, e1, e2 =>
        obtain rfl : x = a := (List.cons.inj e2).1
        exact at_push p pre x q stk e1
end
/-! ### sizes -/
/-- the rules that come in are small -/
structure SmallR (ns : List Str) (K Z : Nat) (ρ : Str → Option RT) : Prop where
  k1 : 1 ≤ K
  z1 : 1 ≤ Z
  nodes : ∀ n q, ρ n = some q → q.subs.length ≤ K
  wt : ∀ n q, ρ n = some q → q.wt ≤ Z
  bs : ∀ n q, ρ n = some q → ∀ x ∈ q.bases, x ∈ ns
  base : ∀ n q, ρ n = some q → ∀ x, RT.base x ∈ q.subs → x ∈ ns
  fits : ∀ n q, ρ n = some q → ∀ w ps, RT.op w ps ∈ q.subs → fitsW w ps.length
mutual
theorem subst_nodes {ns : List Str} {K Z : Nat} (S : SmallR ns K Z ρ) : ∀ r : RT, (substR ρ r).subs.length ≤ r.subs.length * K
  | .base n => by
    show ((ρ n).getD (.base n)).subs.length ≤ 1 * K
    have k1 := S.k1
    cases e : ρ n with
    | none =>
      show 1 ≤ 1 * K
      omega
    | some q =>
      have := S.nodes n q e
      show q.subs.length ≤ 1 * K
      omega
  | .op w ps => by
    have h := subst_nodesL S ps
    have k1 := S.k1
    show (subsL (substRs ρ ps) ++ [RT.op w (substRs ρ ps)]).length ≤ (subsL ps ++ [RT.op w ps]).length * K
    rw [List.length_append, List.length_append, List.length_singleton, List.length_singleton, Nat.add_mul]
    omega
theorem subst_nodesL {ns : List Str} {K Z : Nat} (S : SmallR ns K Z ρ) : ∀ ps : List RT, (subsL (substRs ρ ps)).length ≤ (subsL ps).length * K
  | [] => Nat.zero_le _
  | p :: r => by
    have h1 := subst_nodes S p
    have h2 := subst_nodesL S r
    show ((substR ρ p).subs ++ subsL (substRs ρ r)).length ≤ (p.subs ++ subsL r).length * K
    rw [List.length_append, List.length_append, Nat.add_mul]
    omega
end
mutual
theorem subst_wt {ns : List Str} {K Z : Nat} (S : SmallR ns K Z ρ) : ∀ r : RT, (substR ρ r).wt ≤ r.wt * Z
  | .base n => by
    show ((ρ n).getD (.base n)).wt ≤ (n.length + 1) * Z
    have z1 := S.z1
    have h : 1 * Z ≤ (n.length + 1) * Z := Nat.mul_le_mul_right Z (by omega)
    cases e : ρ n with
    | none =>
      show n.length + 1 ≤ (n.length + 1) * Z
      exact Nat.le_mul_of_pos_right _ z1
    | some q =>
      have := S.wt n q e
      show q.wt ≤ _
      omega
  | .op w ps => by
    have h := subst_wtL S ps
    have z1 := S.z1
    have h2 : w.length + 3 ≤ (w.length + 3) * Z := Nat.le_mul_of_pos_right _ z1
    show w.length + 3 + wts (substRs ρ ps) ≤ (w.length + 3 + wts ps) * Z
    rw [Nat.add_mul]
    omega
theorem subst_wtL {ns : List Str} {K Z : Nat} (S : SmallR ns K Z ρ) : ∀ ps : List RT, wts (substRs ρ ps) ≤ wts ps * Z
  | [] => Nat.zero_le _
  | p :: r => by
    have h1 := subst_wt S p
    have h2 := subst_wtL S r
    have z1 := S.z1
    show (substR ρ p).wt + 2 + wts (substRs ρ r) ≤ (p.wt + 2 + wts r) * Z
    rw [Nat.add_mul, Nat.add_mul]
    omega
end
mutual
theorem subst_bases {ns : List Str} {K Z : Nat} (S : SmallR ns K Z ρ) : ∀ r : RT, (∀ x ∈ r.bases, x ∈ ns) → ∀ x ∈ (substR ρ r).bases, x ∈ ns
  | .base n, h, x, hx => by
    have hx : x ∈ ((ρ n).getD (.base n)).bases := hx
    cases e : ρ n with
    | none =>
      rw [e] at hx
      exact h x hx
    | some q =>
      rw [e] at hx
      exact S.bs n q e x hx
  | .op w ps, h, x, hx => subst_basesL S ps h x hx
theorem subst_basesL {ns : List Str} {K Z : Nat} (S : SmallR ns K Z ρ) : ∀ ps : List RT, (∀ x ∈ basesL ps, x ∈ ns) → ∀ x ∈ basesL (substRs ρ ps), x ∈ ns
  | [], _, x, hx => nomatch hx
  | p :: r, h, x, hx => by
    rcases List.mem_append.mp (show x ∈ (substR ρ p).bases ++ basesL (substRs ρ r) from hx) with z | z
    · exact subst_bases S p (fun y hy => h y (List.mem_append_left _ hy)) x z
    · exact subst_basesL S r (fun y hy => h y (List.mem_append_right _ hy)) x z
end
mutual
theorem subst_mem : ∀ (r : RT) (x : RT), x ∈ (substR ρ r).subs → (∃ n q, ρ n = some q ∧ x ∈ q.subs) ∨ (∃ n, x = .base n ∧ RT.base n ∈ r.subs) ∨ ∃ w ps, x = .op w (substRs ρ ps) ∧ RT.op w ps ∈ r.subs
  | .base n, x, hx => by
    have hx : x ∈ ((ρ n).getD (.base n)).subs := hx
    cases e : ρ n with
    | none =>
      rw [e] at hx
      exact .inr (.inl ⟨n, List.mem_singleton.mp hx, List.mem_cons_self⟩)
    | some q =>
      rw [e] at hx
      exact .inl ⟨n, q, e, hx⟩
  | .op w ps, x, hx => by
    rcases List.mem_append.mp (show x ∈ subsL (substRs ρ ps) ++ [RT.op w (substRs ρ ps)] from hx) with z | z
    · rcases subst_memL ps x z with h | ⟨n, h1, h2⟩ | ⟨v, qs, h1, h2⟩
      · exact .inl h
      · exact .inr (.inl ⟨n, h1, List.mem_append_left _ h2⟩)
      · exact .inr (.inr ⟨v, qs, h1, List.mem_append_left _ h2⟩)
    · exact .inr (.inr ⟨w, ps, List.mem_singleton.mp z, List.mem_append_right _ List.mem_cons_self⟩)
theorem subst_memL : ∀ (ps : List RT) (x : RT), x ∈ subsL (substRs ρ ps) → (∃ n q, ρ n = some q ∧ x ∈ q.subs) ∨ (∃ n, x = .base n ∧ RT.base n ∈ subsL ps) ∨ ∃ w qs, x = .op w (substRs ρ qs) ∧ RT.op w qs ∈ subsL ps
  | [], x, hx => nomatch hx
  | p :: r, x, hx => by
    rcases List.mem_append.mp (show x ∈ (substR ρ p).subs ++ subsL (substRs ρ r) from hx) with z | z
    · rcases subst_mem p x z with h | ⟨n, h1, h2⟩ | ⟨v, qs, h1, h2⟩
      · exact .inl h
      · exact .inr (.inl ⟨n, h1, List.mem_append_left _ h2⟩)
      · exact .inr (.inr ⟨v, qs, h1, List.mem_append_left _ h2⟩)
    · rcases subst_memL r x z with h | ⟨n, h1, h2⟩ | ⟨v, qs, h1, h2⟩
      · exact .inl h
      · exact .inr (.inl ⟨n, h1, List.mem_append_right _ h2⟩)
      · exact .inr (.inr ⟨v, qs, h1, List.mem_append_right _ h2⟩)
end
theorem leafs_le (tb : Str → Tab) (m : Nat) (h : ∀ n, (tb n).length ≤ m) : ∀ l : List RT, leafs tb l ≤ l.length * m
  | [] => Nat.zero_le _
  | .base n :: r => by
    have := leafs_le tb m h r
    have := h n
    simp only [leafs, List.length_cons, Nat.succ_mul]
    omega
  | .op _ _ :: r => by
    have := leafs_le tb m h r
    simp only [leafs, List.length_cons, Nat.succ_mul]
    omega
theorem Fit.subst {ns : List Str} {K Z k l z : Nat} {r : RT} (S : SmallR ns K Z ρ) (f : Fit ns k l z r) : Fit ns (k * K) (k * K) (z * Z) (substR ρ r) := by
  have hn : (substR ρ r).subs.length ≤ k * K := Nat.le_trans (subst_nodes S r) (Nat.mul_le_mul_right K f.fine.cnt)
  refine ⟨⟨hn, fun n hx => ?_, fun w ps hx => ?_, fun tb m hm => Nat.le_trans (leafs_le tb m hm _) (Nat.mul_le_mul_right m hn)⟩, Nat.le_trans (subst_wt S r) (Nat.mul_le_mul_right Z f.wt), subst_bases S r f.bs⟩
  · rcases subst_mem r _ hx with ⟨y, q, h1, h2⟩ | ⟨y, h1, h2⟩ | ⟨v, qs, h1, h2⟩
    · exact S.base y q h1 n h2
    · cases h1
      exact f.fine.base n h2
    · cases h1
  · rcases subst_mem r _ hx with ⟨y, q, h1, h2⟩ | ⟨y, h1, h2⟩ | ⟨v, qs, h1, h2⟩
    · exact S.fits y q h1 w ps h2
    · cases h1
    · cases h1
      rw [substRs_len]
      exact f.fine.fits w qs h2
mutual
theorem subs_wt : ∀ (r x : RT), x ∈ r.subs → x.wt ≤ r.wt
  | .base n, x, h => by
    rw [List.mem_singleton.mp (show x ∈ [RT.base n] from h)]
    exact Nat.le_refl _
  | .op w ps, x, h => by
    rcases List.mem_append.mp (show x ∈ subsL ps ++ [RT.op w ps] from h) with z | z
    · have := subsL_wt ps x z
      show x.wt ≤ w.length + 3 + wts ps
      omega
    · rw [List.mem_singleton.mp z]
      exact Nat.le_refl _
theorem subsL_wt : ∀ (ps : List RT) (x : RT), x ∈ subsL ps → x.wt ≤ wts ps
  | [], x, h => nomatch h
  | p :: r, x, h => by
    rcases List.mem_append.mp (show x ∈ p.subs ++ subsL r from h) with z | z
    · have := subs_wt p x z
      show x.wt ≤ p.wt + 2 + wts r
      omega
    · have := subsL_wt r x z
      show x.wt ≤ p.wt + 2 + wts r
      omega
end
mutual
theorem subs_bases : ∀ (r x : RT), x ∈ r.subs → ∀ y ∈ x.bases, y ∈ r.bases
  | .base n, x, h, y, hy => by
    rw [List.mem_singleton.mp (show x ∈ [RT.base n] from h)] at hy
    exact hy
  | .op w ps, x, h, y, hy => by
    rcases List.mem_append.mp (show x ∈ subsL ps ++ [RT.op w ps] from h) with z | z
    · exact subsL_bases ps x z y hy
    · rw [List.mem_singleton.mp z] at hy
      exact hy
theorem subsL_bases : ∀ (ps : List RT) (x : RT), x ∈ subsL ps → ∀ y ∈ x.bases, y ∈ basesL ps
  | [], x, h, _, _ => nomatch h
  | p :: r, x, h, y, hy => by
    rcases List.mem_append.mp (show x ∈ p.subs ++ subsL r from h) with z | z
    · exact List.mem_append_left _ (subs_bases p x z y hy)
    · exact List.mem_append_right _ (subsL_bases r x z y hy)
end
mutual
theorem flat_subs : ∀ r : RT, r.flat.length = r.subs.length
  | .base n => rfl
  | .op w ps => by
    have h := flats_subs ps
    show (w :: flats ps).length = (subsL ps ++ [RT.op w ps]).length
    rw [List.length_cons, List.length_append, h]
    rfl
theorem flats_subs : ∀ ps : List RT, (flats ps).length = (subsL ps).length
  | [] => rfl
  | p :: r => by
    show (p.flat ++ flats r).length = (p.subs ++ subsL r).length
    rw [List.length_append, List.length_append, flat_subs p, flats_subs r]
end
mutual
/-- what a rule weighs, by its nodes -/
theorem wt_nodes {ns : List Str} (hn : ∀ n ∈ ns, n.length ≤ 6) : ∀ r : RT, (∀ x ∈ r.bases, x ∈ ns) → (∀ w ps, RT.op w ps ∈ r.subs → w.length ≤ 7) → r.wt + 2 ≤ r.subs.length * 14
  | .base n, h, _ => by
    have := hn n (h n List.mem_cons_self)
    show n.length + 1 + 2 ≤ 1 * 14
    omega
  | .op w ps, h, hw => by
    have h1 := wt_nodesL hn ps h fun v qs hq => hw v qs (List.mem_append_left _ hq)
    have h2 := hw w ps (List.mem_append_right _ List.mem_cons_self)
    show w.length + 3 + wts ps + 2 ≤ (subsL ps ++ [RT.op w ps]).length * 14
    rw [List.length_append, List.length_singleton, Nat.add_mul]
    omega
theorem wt_nodesL {ns : List Str} (hn : ∀ n ∈ ns, n.length ≤ 6) : ∀ ps : List RT, (∀ x ∈ basesL ps, x ∈ ns) → (∀ w qs, RT.op w qs ∈ subsL ps → w.length ≤ 7) → wts ps ≤ (subsL ps).length * 14
  | [], _, _ => Nat.zero_le _
  | p :: r, h, hw => by
    have h1 := wt_nodes hn p (fun x hx => h x (List.mem_append_left _ hx)) fun v qs hq => hw v qs (List.mem_append_left _ hq)
    have h2 := wt_nodesL hn r (fun x hx => h x (List.mem_append_right _ hx)) fun v qs hq => hw v qs (List.mem_append_right _ hq)
    show p.wt + 2 + wts r ≤ (p.subs ++ subsL r).length * 14
    rw [List.length_append, Nat.add_mul]
    omega
end
end PX
/-! Own exception classes over any built-in one, whose __init__ calls the built-in's and sets fields: made, to be raised. -/
namespace PX
open PySem PySem.Spec PyProof.Rows L2
/-- what is known of the built-in class above -/
structure BaseX (B newId initId : String) (bmB : List Value) : Prop where
  ini : ∀ {prog : Program} {w : World} {A : Around} {R : Result → Shared → Prop} {h : Heap} {g : Array GenState} {d : Drawn} {t : Nat} {os : OsState} {nm q : Str} {C N : Addr} {bs bm : List Value} {hdct : Bool} {sn : List Str} {sub : List Value} {ab : Bool} {col : Option Bool} {dd : Option Addr} {k0 k1 k2 k3 k5 : Option Value}
    (_ : ∀ X : String, bm.contains (.type X) = bmB.contains (.type X)) {e t0 : Addr} {rest : List Value} (_ : h.get? C = some (excClassObj nm q C N bs bm hdct sn sub ab col dd k0 k1 k2 k3 k5 newId)) (_ : h.get? e = some (PySem.HandSPX.excO C t0)) (_ : rest.length ≤ sizeLine)
    (_ : ∀ h' t1, (∀ b o, b ≠ e → h.get? b = some o → h'.get? b = some o) → h'.get? e = some (PySem.HandSPX.excO C t1) → R (.ok (.ret .none)) ⟨h', g, d, t, os⟩), codeAny (model prog w) A (.call (.builtin initId) ⟨.ref e :: rest, []⟩) R ⟨h, g, d, t, os⟩
  own : ∀ {prog : Program} {w : World} {A : Around} {R : Result → Shared → Prop} {h : Heap} {g : Array GenState} {d : Drawn} {t : Nat} {os : OsState} {nm q : Str} {C N : Addr} {bs bm : List Value} {hdct : Bool} {sn : List Str} {sub : List Value} {ab : Bool} {col : Option Bool} {dd : Option Addr} {k0 k1 k2 k3 k5 : Option Value}
    (_ : ∀ X : String, bm.contains (.type X) = bmB.contains (.type X)) {rest : List Value} {fI : Addr} (_ : h.get? C = some (excClassObj nm q C N bs bm hdct sn sub ab col dd k0 k1 k2 k3 k5 newId))
    (_ : PySem.W.Looks (model prog w) h (typeLookup (.ref C) "__init__") (some (.ref fI))) (_ : ∀ self, PySem.W.Looks (model prog w) h (bindSpecial (.ref fI) self) (.ref fI, [self])) (_ : rest.length ≤ sizeLine)
    (_ : codeAny (model prog w) (A.under (.builtin "type.__call__" ⟨.ref C :: rest, []⟩)) (.call (.ref fI) ⟨.ref (h.objs.size + 1) :: rest, []⟩) (PySem.W.InitBack (h.objs.size + 1) R) ⟨(h.push (PySem.W.kdv_tup rest)).push (PySem.HandSPX.excO C h.objs.size), g, d, t, os⟩),
    codeAny (model prog w) A (.call (.ref C) ⟨rest, []⟩) R ⟨h, g, d, t, os⟩
  store : StoreFacts B bmB "object.__setattr__" "object"
  typ : typeOf (.type B) = pure (.type "type")
  stub : Manifest.isStub B = false
theorem BaseX.of {B newId initId : String} {bmB : List Value} (F : ExcBaseFacts B newId initId bmB) (S : StoreFacts B bmB "object.__setattr__" "object") (T : typeOf (.type B) = pure (.type "type")) (st : Manifest.isStub B = false) : BaseX B newId initId bmB :=
  ⟨by intros _ _ _ _ _ _ _ _ _ _ _ _ _ _ _ _ _ _ _ _ _ _ _ _ _ _ hT _ _ _ hC he hr hq; exact PySem.HandSPX.init_base F hT hC he hr hq, by intros _ _ _ _ _ _ _ _ _ _ _ _ _ _ _ _ _ _ _ _ _ _ _ _ _ _ hT _ _ hC hi hb hr hq; exact PySem.HandSPX.call_own F hT hC hi hb hr hq, S, T, st⟩
/-- what the written part says of the class -/
structure OwnX (K : PySem.W.Frag) (C : Addr) (B newId : String) (bmB : List Value) : Prop where
  ini : PySem.W.excInitIn K C bmB newId = true
  over : PySem.W.excOver K C bmB = true
  hasD : PySem.W.hasDictIn K C = true
  sa : PySem.W.findIn K (.ref C) "__setattr__" = some (some (.builtin "object.__setattr__"))
  exC : PySem.W.subIn K (.ref C) (.type "BaseException") = some true
  tyC : PySem.W.typeIn K (.ref C) = some (.type "type")
  kC : PySem.W.keepIn K (.ref C) = true
section
open Builtin Builtin.ObjectAttr
variable {prog : Program} {w : World} {A : Around} {E : Value → Shared → Prop} {R : Result → Shared → Prop} {hp : Heap} {g : Array GenState} {d : Drawn} {t : Nat} {os : OsState} {K : PySem.W.Frag} {x C : Addr} {B : String} {bmB : List Value}
theorem cls_hasD (h : PySem.W.hasDictIn K C = true) : ∃ cd, PySem.W.clsIn K C = some cd ∧ cd.hasDict = true := PySem.W.any_some h
theorem set_first {name : Str} {tk : Tok} {v : Value} {fv : Array Value} (SF : StoreFacts B bmB "object.__setattr__" "object") (X : K.In hp) (hx : hp.get? x = some { cls := .ref C, data := .fields fv }) (ho : PySem.W.excOver K C bmB = true) (hd : PySem.W.hasDictIn K C = true) (ht : PySem.W.takerIn K C name = some none)
    (hq : ∀ h' tk' dx, (∀ b o, b ≠ x → hp.get? b = some o → h'.get? b = some o) → hp.objs.size ≤ dx → dx ≠ x → h'.get? x = some { cls := .ref C, dict := some dx, data := .fields fv } → h'.Ns1 dx (fun y => if y = name then some v else none) → R (.ok (.ret .none)) ⟨h', g, d, tk', os⟩) :
    codeAny (model prog w) A (.call (.builtin "object.__setattr__") ⟨[.ref x, .str name tk, v], []⟩) R ⟨hp, g, d, t, os⟩ := by
  have xs : x ≠ hp.objs.size := Nat.ne_of_lt (Heap.lt_size hx)
  obtain ⟨cd, hc, has⟩ := cls_hasD hd
  have look : PySem.W.Looks (model prog w) hp (classData C) cd := PySem.W.looks_clsIn X hc
  refine PySem.W.osa_openX (s := ⟨hp, g, d, t, os⟩) (od := none) SF X ⟨hx, rfl, rfl, trivial⟩ ho ht fun b => ?_
  show wpAny _ _ (storeInOwnDict (.ref x) (.ref C) (.str name tk) name v b) _ _ _
  obtain ⟨nm, bs, mro, ns, qn, hasDict, sn, sb, ab, col, del⟩ := cd
  dsimp only at has
  subst has
  unfold storeInOwnDict ownDictForStores
  repeat (first | with_reducible refine PySem.HandSPX.store_in_new ?_ ?_ | with_reducible refine wpAny_loadPart_at hx ?_ | with_reducible refine look.at ?_ | wp_step)
  · exact ⟨_, #[], _, (Heap.get?_update_ne _ _ _ _ xs.symm).trans (Heap.get?_push_at rfl rfl), rfl, fun e he => absurd he (by simp), fun _ => rfl⟩
  · intro h' tk' hn same
    have hx1 : (hp.push { cls := .type "dict", data := .dict #[] }).get? x = some { cls := .ref C, data := .fields fv } := Heap.get?_push_of_some _ hx
    refine hq h' tk' hp.objs.size (fun b o nb e => ?_) (Nat.le_refl _) xs.symm ?_ hn
    · exact (same.2 b (Nat.ne_of_lt (Heap.lt_size e))).trans ((Heap.get?_update_ne _ _ _ _ nb).trans (Heap.get?_push_of_some _ e))
    · exact (same.2 x xs).trans (Heap.get?_update_self _ hx1 rfl)
theorem set_next {dx : Addr} {name : Str} {tk : Tok} {v : Value} {fv : Array Value} {m0 : Str → Option Value} {nl : List Str} (SF : StoreFacts B bmB "object.__setattr__" "object") (X : K.In hp) (hx : hp.get? x = some { cls := .ref C, dict := some dx, data := .fields fv }) (hns : hp.Ns1 dx m0) (hw : Within m0 nl) (hz : nl.length ≤ 1000)
    (ho : PySem.W.excOver K C bmB = true) (hd : PySem.W.hasDictIn K C = true) (ht : PySem.W.takerIn K C name = some none)
    (hq : ∀ h' tk', (∀ b o, b ≠ dx → hp.get? b = some o → h'.get? b = some o) → h'.Ns1 dx (fun y => if y = name then some v else m0 y) → R (.ok (.ret .none)) ⟨h', g, d, tk', os⟩) :
    codeAny (model prog w) A (.call (.builtin "object.__setattr__") ⟨[.ref x, .str name tk, v], []⟩) R ⟨hp, g, d, t, os⟩ := by
  obtain ⟨oD, esD, epD, hoD, hdD, _⟩ := hns.count hw
  obtain ⟨cd, hc, has⟩ := cls_hasD hd
  have look : PySem.W.Looks (model prog w) hp (classData C) cd := PySem.W.looks_clsIn X hc
  refine PySem.W.osa_openX (s := ⟨hp, g, d, t, os⟩) (od := some oD) SF X ⟨hx, rfl, rfl, hoD⟩ ho ht fun b => ?_
  show wpAny _ _ (storeInOwnDict (.ref x) (.ref C) (.str name tk) name v b) _ _ _
  obtain ⟨nm, bs, mro, ns, qn, hasDict, sn, sb, ab, col, del⟩ := cd
  dsimp only at has
  subst has
  unfold storeInOwnDict ownDictForStores
  repeat (first | with_reducible refine PySem.OEX.store_in_old hns hw hz ?_ | with_reducible refine wpAny_loadPart_at hx ?_ | with_reducible refine look.at ?_ | wp_step)
  intro h' tk' hn same
  exact hq h' tk' (fun b o nb e => (same.2 b nb).trans e) hn
end
section
variable {X : Cx} {pins : List (Addr × Obj)} {σ : L2.St} {H : Hp} {s : Shared} {a C dx : Addr} {f : Str} {y : V} {u : Value} {fs : List (Str × V)} {Q : Unit → Shared → Prop} {E : Value → Shared → Prop} {A : Around} {B newId initId : String} {bmB : List Value}
/-- self.f = y, the first field -/
theorem fld_first (BX : BaseX B newId initId bmB) (T : OwnX X.K C B newId bmB) (I : Inv X pins σ H s) (e : H a = some (exo a C none)) (hno : PySem.W.takerIn X.K C f = some none) (ry : RelV y u)
    (h : ∀ dx s', H dx = none → dx ≠ a → Inv X pins σ (upd (upd H dx (exd dx [(f, y)])) a (exo a C (some dx))) s' → Q () s') : wpAny (model X.prog X.w) A (setAttr (.ref a) f u) Q E s := by
  obtain ⟨t1, ho⟩ := exo_at I.hok e
  obtain ⟨hp, g, d, t, os⟩ := s
  refine PySem.W.set_plain I.kIn (ox := { cls := .ref C, dict := none, data := .fields #[.ref t1, .none, .none, .none, .bool false, .none] }) (od := none) ⟨ho, rfl, rfl, trivial⟩ T.sa ?_
  refine set_first BX.store I.kIn ho T.over T.hasD hno (fun h' tk' dx k dn dne hx hn => ?_)
  have newD : H dx = none := I.hok.fresh dn
  have old : ∀ {b : Addr} {o : Obj}, hp.get? b = some o → b ≠ dx := fun {b o} q => Nat.ne_of_lt (Nat.lt_of_lt_of_le (Heap.lt_size q) dn)
  have nota : ∀ {b : Addr}, H b = none → b ≠ a := fun {b} n z => by
    rw [z, e] at n
    cases n
  have step : Un X.fs [] H (upd (upd H dx (exd dx [(f, y)])) a (exo a C (some dx))) hp h' := {
    keep := fun b o q n _ _ => k b o (nota n) q
    slot := fun b o q n _ _ => ⟨o.slots, k b o (nota n) q⟩
    free := fun b o q n _ => by rw [upd_ne (nota n), upd_ne (old q)]; exact n
    there := fun b o q _ => by
      by_cases hb : b = a
      · exact ⟨_, by rw [hb]; exact hx⟩
      · exact ⟨o, k b o hb q⟩
    tups := fun b xs q => by rw [upd_ne (at_ne e q exo_tup), upd_ne (ne_of_none q newD)]; exact q
    frzs := fun b o v q => by rw [upd_ne (at_ne e q exo_frz), upd_ne (ne_of_none q newD)]; exact q
    tbls := fun b ps q => ⟨#[], by rw [upd_ne (at_ne e q exo_tbl), upd_ne (ne_of_none q newD), q]; simp⟩ }
  refine h dx _ newD dne (I.un (t' := tk') step fun b o q => ?_)
  by_cases hb : b = a
  · subst hb
    rw [upd_same] at q
    cases q
    exact exo_ok hx
  · rw [upd_ne hb] at q
    by_cases hd : b = dx
    · subst hd
      rw [upd_same] at q
      cases q
      exact exd_ok hn (relO_put (fs := []) ry fun g => True.intro)
    · rw [upd_ne hd] at q
      refine (I.hok b o q).stay (fun c v hc z => ?_) (fun c hc => ?_) fun c xs hc => ?_
      · have ca : c ≠ a := by
          rcases hc with hc | hc
          · rw [hc]
            exact hb
          · exact at_ne e hc exo_own
        exact k c v ca z
      · rw [upd_ne (at_ne e hc exo_own), upd_ne (ne_of_none hc newD)]
        exact hc
      · rw [upd_ne (at_ne e hc exo_tup), upd_ne (ne_of_none hc newD)]
        exact hc
/-- self.f = y, a further field -/
theorem fld_next (BX : BaseX B newId initId bmB) (T : OwnX X.K C B newId bmB) (I : Inv X pins σ H s) (e : H a = some (exo a C (some dx))) (ed : H dx = some (exd dx fs)) (hl : fs.length ≤ 900) (hno : PySem.W.takerIn X.K C f = some none) (ry : RelV y u)
    (h : ∀ s', Inv X pins σ (upd H dx (exd dx ((f, y) :: fs))) s' → Q () s') : wpAny (model X.prog X.w) A (setAttr (.ref a) f u) Q E s := by
  obtain ⟨t1, ho⟩ := exo_at I.hok e
  obtain ⟨mA, hns, rel⟩ := exd_at I.hok ed
  have hw := within_of rel
  obtain ⟨hp, g, d, t, os⟩ := s
  obtain ⟨oD, _, _, hoD, _, _⟩ := hns.count hw
  refine PySem.W.set_plain I.kIn (ox := { cls := .ref C, dict := some dx, data := .fields #[.ref t1, .none, .none, .none, .bool false, .none] }) (od := some oD) ⟨ho, rfl, rfl, hoD⟩ T.sa ?_
  refine set_next BX.store I.kIn ho hns hw (by rw [List.length_map]; omega) T.over T.hasD hno (fun h' tk' k hn => ?_)
  have there : ∃ o, h'.get? dx = some o := by
    obtain ⟨o, _, _, e', _⟩ := hn
    exact ⟨o, e'⟩
  exact h _ (I.write (t' := tk') (x := dx) (e := dx) (o := exd dx ((f, y) :: fs)) (by rw [ed]; exact True.intro) (.inl rfl) k there (exd_ok hn (relO_put ry rel)))
/-- B.__init__(self, ..): nothing of it is told -/
theorem base_init {us : List Value} {Q : Value → Shared → Prop} (BX : BaseX B newId initId bmB) (T : OwnX X.K C B newId bmB) (I : Inv X pins σ H s) (e : H a = some (exo a C none)) (hl : us.length ≤ sizeLine) (h : ∀ s', Inv X pins σ H s' → Q .none s') :
    wpAny (model X.prog X.w) A (call (.builtin initId) (.ref a :: us)) Q E s := by
  obtain ⟨nm, N, q, bs, bm, hdct, sn, sub, ab, col, dd, k0, k1, k2, k3, k5, hC, hT⟩ := PySem.W.excInit_of I.kIn T.ini
  obtain ⟨t1, ho⟩ := exo_at I.hok e
  obtain ⟨hp, g, d, t, os⟩ := s
  refine wpAny_call (BX.ini hT hC ho hl fun h' t2 k hx => ?_)
  have J := I.write (t' := t) (x := a) (e := a) (o := exo a C none) (by rw [e]; exact True.intro) (.inl rfl) k ⟨_, hx⟩ (exo_ok hx)
  have same : upd H a (exo a C none) = H := by
    funext b
    by_cases hb : b = a
    · rw [hb, upd_same, e]
    · rw [upd_ne hb]
  rw [same] at J
  exact h _ J
end
/-! ### readings and rules -/
/-- B.__init__(self, ..) -/
def tInitX (K : PySem.W.Frag) (B newId : String) (bmB : List Value) (ta : TA) : TE := fun σ H Q => ta σ H fun vs H1 => ∃ (a C : Addr) (ws : List V), vs = .ref a :: ws ∧ ws.length ≤ 1000 ∧ OwnX K C B newId bmB ∧ H1 a = some (exo a C none) ∧ Q .non H1
/-- self.f = e -/
def tSetX (K : PySem.W.Frag) (B newId : String) (bmB : List Value) (f : Str) (to te : TE) : TS := fun D σ H => te σ H fun y H1 => to σ H1 fun x H2 => ∃ a C : Addr, x = .ref a ∧ OwnX K C B newId bmB ∧ PySem.W.takerIn K C f = some none ∧
  ((H2 a = some (exo a C none) ∧ ∀ dx, H2 dx = none → dx ≠ a → D.nx σ (upd (upd H2 dx (exd dx [(f, y)])) a (exo a C (some dx)))) ∨
    ∃ (dx : Addr) (fs : List (Str × V)), H2 a = some (exo a C (some dx)) ∧ H2 dx = some (exd dx fs) ∧ fs.length ≤ 900 ∧ D.nx σ (upd H2 dx (exd dx ((f, y) :: fs))))
section
variable {X : Cx} {o e : Expr} {es : List Expr} {to te : TE} {ta : TA} {f : Str} {p p' p1 p2 pos : Pos} {B newId initId : String} {bmB : List Value} {x : Str}
theorem pe_initX {pl : Sem Bool} (BX : BaseX B newId initId bmB) (hg : Gl X x) (hm : X.mg x = none) (hv : bootBuiltins x = some (.type B)) (vV : PySem.W.findCls X.K (.type B) (.type "type") "__init__" = some (.val (.builtin initId))) (hand : PySem.W.handedIn (.builtin initId) = true) (ha : PA X (e :: es) ta)
    (hn : x ≠ "__name__" := by decide) (hdb : (x == ("__debug__" : Str)) = false := by decide)
    (hc : eval (.Call (.Attribute (.Name x p1) "__init__" p2) (e :: es) [] pos) X.env = (do
      let ov ← eval (.Name x p1) X.env
      standAt p2.atName
      let (f, first) ← holding [ov] (getMethod ov "__init__" pl)
      callWith pos f first (backTo pos (starEach (e :: es) X.env)) (backToKw pos (keywordEach [] X.env))) := by rfl)
    (he : starEach (e :: es) X.env = (false, eval e X.env) :: starEach es X.env := by rfl) (hpl : (backTo pos (starEach es X.env)).any (·.1) = false := by rfl) :
    PE X (.Call (.Attribute (.Name x p1) "__init__" p2) (e :: es) [] pos) (tInitX X.K B newId bmB ta) := by
  refine ⟨fun pins s σ H Q I h => ?_⟩
  refine PySem.W.methodCall_KW (ld_blt I hg hm hv ?_ hn hdb) hc
  obtain ⟨m, fr⟩ := I.fr
  refine PySem.W.method_type fr I.ok.mod.kin BX.typ BX.stub vV hand ?_
  show wpAny _ _ (callWith pos (Value.builtin initId) [] (backTo pos (starEach (e :: es) X.env)) []) _ _ _
  refine PyProof.Rows.callWith_method1 (thn (ha.run pos pins _ σ H _ (I.tok _) h) fun us s1 ⟨vs, H1, I1, r1, a, C, ws, ev, hl, T, ea, q⟩ => ?_) he hpl
  subst ev
  cases r1 with
  | @cons _ u0 _ ur ra rw' =>
    obtain rfl : u0 = Value.ref a := ra
    have hlen : ur.length ≤ sizeLine := by
      rw [← Paired.length rw', sizeLine_eq]
      omega
    exact base_init BX T I1 ea hlen fun s' J => ⟨.non, H1, J, rfl, q⟩
theorem ps_setX (BX : BaseX B newId initId bmB) (ho : PE X o to) (he : PE X e te) (hs : swapsWith e (some (.Attribute o f p')) pos.line X.env = pure false := by rfl) : PS X (.Assign [.Attribute o f p'] e pos) (tSetX X.K B newId bmB f to te) := by
  refine ⟨fun pins s σ H D I h => ?_⟩
  refine plainObj_wpAny_Assign_Attribute (thn (he.run pins s σ H _ I h) fun v s1 ⟨y, H1, I1, r1, q1⟩ => thn (ho.run pins s1 σ H1 _ I1 q1) fun u s2 ⟨x, H2, I2, r2, a, C, ex, T, hno, q⟩ => ?_) hs
  subst ex
  obtain rfl : u = Value.ref a := r2
  rcases q with ⟨ea, q⟩ | ⟨dx, fs, ea, ed, hl, q⟩
  · exact fld_first BX T I2 ea hno r1 fun dx s' n ne J => ⟨σ, _, J, q dx n ne⟩
  · exact fld_next BX T I2 ea ed hl hno r1 fun s' J => ⟨σ, _, J, q⟩
theorem pmk_own_init {CX : CXT} {C fI : Addr} {k : Nat} {fd : FuncData} {ps : List Str} {sp : Sp} {ds : List Value} {dvs : List V} (BX : BaseX B newId initId bmB) (T : OwnX X.K C B newId bmB) (iC : PySem.W.findIn X.K (.ref C) "__init__" = some (some (.ref fI))) (tI : PySem.W.typeIn X.K (.ref fI) = some (.type "function"))
    (F1 : FnOk X.prog X.w X.K X.mg X.base CX k fI fd ps sp) (hr : Room (k + 1) X.A) (hb : Binds X.K fd ps ds) (hd : Vals dvs ds) (hx : Passes CX X (fun _ _ _ => False)) (hg : Gl X x) (hm : X.mg x = some (.ref C)) (ha : PA X (e :: es) ta)
    (hdb : (x == ("__debug__" : Str)) = false := by decide) (he : starEach (e :: es) X.env = (false, eval e X.env) :: starEach es X.env := by rfl) (hpl : (backTo pos (starEach es X.env)).any (·.1) = false := by rfl) :
    PMk X (.Call (.Name x p) (e :: es) [] pos) (tMkO C sp dvs ta) := by
  intro pins s σ H Q I h
  refine wpAny_Call_Name_kw (ld_glob I hg hm ?_ hdb)
  refine PySem.W.callWith_K (h₀ := X.base) I.ok.mod.kin T.kC (thn (ha.run pos pins s σ H _ I h) fun us s1 ⟨vs, H1, I1, r1, hz, q1⟩ => ⟨I1.kIn, ?_⟩) he hpl
  show wpAny _ _ (call (.ref C) us) _ _ _
  obtain ⟨nm, N, q, bs, bm, hdct, sn, sub, ab, col, dd, k0, k1, k2, k3, k5, hC, hT⟩ := PySem.W.excInit_of I1.kIn T.ini
  obtain ⟨hp, g, dr, tk, os⟩ := s1
  have up : hp.objs.size ≤ hp.objs.size + 1 := Nat.le_succ _
  have new : H1 (hp.objs.size + 1) = none := I1.hok.fresh up
  have got := q1 (hp.objs.size + 1) new
  have kk : ∀ b o, hp.get? b = some o → ((hp.push (PySem.W.kdv_tup us)).push (PySem.HandSPX.excO C hp.objs.size)).get? b = some o := fun b o e => Heap.get?_push_of_some _ (Heap.get?_push_of_some _ e)
  have hget : ((hp.push (PySem.W.kdv_tup us)).push (PySem.HandSPX.excO C hp.objs.size)).get? (hp.objs.size + 1) = some (PySem.HandSPX.excO C hp.objs.size) := by heap_get
  have I2 : Inv X pins σ (upd H1 (hp.objs.size + 1) (exo (hp.objs.size + 1) C none)) ⟨(hp.push (PySem.W.kdv_tup us)).push (PySem.HandSPX.excO C hp.objs.size), g, dr, tk, os⟩ :=
    I1.laid (t' := tk) (a := hp.objs.size + 1) (o := exo (hp.objs.size + 1) C none) (h' := (hp.push (PySem.W.kdv_tup us)).push (PySem.HandSPX.excO C hp.objs.size)) kk up (exo_ok hget)
  have r2 : Vals (V.ref (hp.objs.size + 1) :: (vs ++ dvs)) (Value.ref (hp.objs.size + 1) :: (us ++ ds)) := .cons rfl (r1.append hd)
  have hl : (Value.ref (hp.objs.size + 1) :: us ++ ds).length = ps.length := by
    have e := r2.length
    rw [F1.len _ _ _ _ got] at e
    exact e.symm
  have hus : us.length ≤ sizeLine := by
    rw [← Paired.length r1, sizeLine_eq]
    omega
  refine wpAny_call (BX.own hT hC (PySem.W.looks_findIn I1.kIn iC) (fun self => PySem.W.bind_fn I1.kIn self tI) hus
    (codeAny_mono (F1.run _ X.stack _ _ ⟨Value.ref (hp.objs.size + 1) :: us, []⟩ (Value.ref (hp.objs.size + 1) :: (us ++ ds)) _ _ (fun _ _ _ => False) (hr.make C us []) (I2.env0.make C us []) (hb _ (Value.ref (hp.objs.size + 1) :: us) I2.kIn hl) r2 got) fun r s' back => ?_))
  cases r with
  | error er => exact hx pins σ _ _ er s' I2 back
  | ok fl =>
    cases fl with
    | ret u =>
      obtain ⟨v, H2, os2, bare2, un2, hok2, rv, ev, d, fs, ea, ed, hd1, q2⟩ := back
      subst ev
      obtain ⟨h2, g2, d2, t2, os'⟩ := s'
      exact ⟨rv, mk_end (raises_own T.exC T.tyC) I1 up kk un2 hok2 os2 bare2 ea ed hd1 q2⟩
    | next => exact False.elim back
    | brk => exact False.elim back
    | cont => exact False.elim back
end
/-! ### the built-in classes -/
abbrev bmOverflow : List Value := [.type "OverflowError", .type "ArithmeticError", .type "Exception", .type "BaseException", .type "object"]
theorem baseOverflow : BaseX "OverflowError" "OverflowError.__new__" "OverflowError.__init__" bmOverflow := .of PySem.F.excBase_OverflowError PySem.F.store_OverflowError (by kernel_rfl) (by decide +kernel)
abbrev bmRuntime : List Value := [.type "RuntimeError", .type "Exception", .type "BaseException", .type "object"]
theorem baseRuntime : BaseX "RuntimeError" "RuntimeError.__new__" "RuntimeError.__init__" bmRuntime := .of PySem.F.excBase_RuntimeError PySem.F.store_RuntimeError (by kernel_rfl) (by decide +kernel)
abbrev bmLookup : List Value := [.type "LookupError", .type "Exception", .type "BaseException", .type "object"]
theorem baseLookup : BaseX "LookupError" "LookupError.__new__" "LookupError.__init__" bmLookup := .of PySem.F.excBase_LookupError PySem.F.store_LookupError (by kernel_rfl) (by decide +kernel)
abbrev bmIndex : List Value := [.type "IndexError", .type "LookupError", .type "Exception", .type "BaseException", .type "object"]
theorem baseIndex : BaseX "IndexError" "IndexError.__new__" "IndexError.__init__" bmIndex := .of PySem.F.excBase_IndexError PySem.F.store_IndexError (by kernel_rfl) (by decide +kernel)
abbrev bmValue : List Value := [.type "ValueError", .type "Exception", .type "BaseException", .type "object"]
theorem baseValue : BaseX "ValueError" "ValueError.__new__" "ValueError.__init__" bmValue := .of PySem.F.excBase_ValueError PySem.F.store_ValueError (by kernel_rfl) (by decide +kernel)
/-! ### KeyError: its __new__ is LookupError's -/
section
open Builtin Builtin.ObjectAttr
abbrev bmKey : List Value := [.type "KeyError", .type "LookupError", .type "Exception", .type "BaseException", .type "object"]
theorem store_Key : StoreFacts "KeyError" bmKey "object.__setattr__" "object" where
  mro := by kernel_rfl
  slot := .of (owner := "object") (n := "__setattr__") (by rw [typeLookup_type, builtinLookup_eq_fast]; kernel_rfl) (by decide +kernel) (by decide +kernel) (by decide +kernel)
    (by first | exact .inl (by decide +kernel) | exact .inr (by decide +kernel)) (by rw [isSubtype_type]; kernel_rfl)
  entry := PySem.F.store_LookupError.entry
  kind := by decide +kernel
  split := by decide +kernel
  hasOwner := by decide +kernel
  args := fun a b c => by unfold argsOk; kernel_rfl
  passes := fun self => by kernel_rfl
variable {M : Model} {prog : Program} {w : World} {A : Around} {E : Value → Shared → Prop} {R : Result → Shared → Prop} {h : Heap} {g : Array GenState} {d : Drawn} {t : Nat} {os : OsState}
variable {nm q : Str} {C N : Addr} {bs bm : List Value} {hdct : Bool} {sn : List Str} {sub : List Value} {ab : Bool} {col : Option Bool} {dd : Option Addr} {k0 k1 k2 k3 k5 : Option Value}
theorem key_check_new (hT : ∀ X : String, bm.contains (.type X) = bmKey.contains (.type X)) {rest : List Value} {Q : Unit → Shared → Prop}
    (hC : h.get? C = some (excClassObj nm q C N bs bm hdct sn sub ab col dd k0 k1 k2 k3 k5 "LookupError.__new__")) (hq : Q () ⟨h, g, d, t, os⟩) : wpAny M A (checkBuiltinCall "LookupError.__new__" ⟨.ref C :: rest, []⟩) Q E ⟨h, g, d, t, os⟩ := by
  have F := PySem.F.excBase_LookupError
  have hcont : (Value.ref C :: bm).contains (.type "LookupError") = true := by rw [List.contains_cons, hT, show bmKey.contains (.type "LookupError") = true by decide +kernel, Bool.or_true]
  have hstar := F.noStar
  simp only [checkBuiltinCall, F.newKind, F.newSplit, F.newRow]
  repeat (first | refine wpAny_loadPart_at hC ?_ | (refine wpAny_isSubtype_exc hC ?_; rw [hcont]) | refine wpAny_staticBase_exc hC ?_ | refine wpAny_madeBy_exc hC ?_ | simp only [bne_self_eq_false, Bool.false_eq_true, if_false] | wp_step)
  exact hq
theorem key_check_init (hT : ∀ X : String, bm.contains (.type X) = bmKey.contains (.type X)) {e : Addr} {oe : Obj} {rest : List Value} {Q : Unit → Shared → Prop}
    (hC : h.get? C = some (excClassObj nm q C N bs bm hdct sn sub ab col dd k0 k1 k2 k3 k5 "LookupError.__new__")) (he : h.get? e = some oe) (hcls : oe.cls = .ref C) (hq : Q () ⟨h, g, d, t, os⟩) :
    wpAny M A (checkBuiltinCall "KeyError.__init__" ⟨.ref e :: rest, []⟩) Q E ⟨h, g, d, t, os⟩ := by
  have F := PyProof.Rows.excClass_KeyError
  have hcB : (Value.ref C :: bm).contains (.type "KeyError") = true := by rw [List.contains_cons, hT, show bmKey.contains (.type "KeyError") = true by decide +kernel, Bool.or_true]
  have hshort := F.notStar
  simp only [checkBuiltinCall, F.initKind, F.initSplit, F.initSig]
  repeat (first | (with_reducible refine wpAny_loadPart_at he ?_; rw [hcls]) | with_reducible refine wpAny_loadPart_at hC ?_ | (with_reducible refine wpAny_isSubtype_exc hC ?_; rw [hcB]) | wp_step)
  refine wpAny_onRaise ?_
  rw [show ∀ (a b : String) (n : Nat), Bind.check ⟨.positional, "*", "KeyError", .self, [⟨"args", .varPos, false⟩]⟩ a b n (List.map (fun x => x.fst) ({ pos := Value.ref e :: rest } : Args).kw) = pure () from
    fun a b n => check_star_args _ _ _ _ _ _]
  exact wpAny_pure hq
theorem key_new (hT : ∀ X : String, bm.contains (.type X) = bmKey.contains (.type X)) {rest : List Value}
    (hC : h.get? C = some (excClassObj nm q C N bs bm hdct sn sub ab col dd k0 k1 k2 k3 k5 "LookupError.__new__"))
    (hq : R (.ok (.ret (.ref (h.objs.size + 1)))) ⟨(h.push { cls := .type "tuple", data := .seq rest.toArray }).push
      { cls := .ref C, data := .fields #[.ref h.objs.size, .none, .none, .none, .bool false, .none] }, g, d, t, os⟩) (hrest : rest.length ≤ sizeLine) :
    codeAny (model prog w) A (.builtin "LookupError.__new__" ⟨.ref C :: rest, []⟩) R ⟨h, g, d, t, os⟩ := by
  have F := PySem.F.excBase_LookupError
  have hends := F.ends
  have hcB : (Value.ref C :: bm).contains (.type "LookupError") = true := by rw [List.contains_cons, hT, show bmKey.contains (.type "LookupError") = true by decide +kernel, Bool.or_true]
  have hcA : (Value.ref C :: bm).contains (.type "AttributeError") = false := by rw [List.contains_cons, hT, show bmKey.contains (.type "AttributeError") = false by decide +kernel]; rfl
  have hcN : (Value.ref C :: bm).contains (.type "NameError") = false := by rw [List.contains_cons, hT, show bmKey.contains (.type "NameError") = false by decide +kernel]; rfl
  refine codeAny_builtinAt F.entry ?_
  unfold Builtin.«BaseException.__new__»
  refine PySem.wpAt_bind ?_
  show PySem.wpAt _ _ _ (stack >>= _) _ _ _
  refine PySem.wpAt_bind (PySem.wpAt_stack fun p below => PySem.wpAt_of_wpAny ?_)
  wp_walk
  refine PySem.wpAt_of_wpAny ?_
  rw [F.owner]
  repeat (first | with_reducible refine wpAny_madeHere_exc F.canon hC ?_ | with_reducible refine wpAny_loadPart_at hC ?_ | (with_reducible refine wpAny_isSubtype_exc hC ?_; first | rw [hcB] | rw [hcA] | rw [hcN]) | wp_step)
  show R _ _
  rw [Heap.size_push]
  exact hq
theorem key_type_call (hT : ∀ X : String, bm.contains (.type X) = bmKey.contains (.type X)) {rest : List Value} {fI : Addr} {Q : Fin → Shared → Prop}
    (hC : h.get? C = some (excClassObj nm q C N bs bm hdct sn sub ab col dd k0 k1 k2 k3 k5 "LookupError.__new__"))
    (hi : PySem.W.Looks (model prog w) h (typeLookup (.ref C) "__init__") (some (.ref fI))) (hb : ∀ self, PySem.W.Looks (model prog w) h (bindSpecial (.ref fI) self) (.ref fI, [self])) (hrest : rest.length ≤ sizeLine)
    (hq : codeAny (model prog w) A (.call (.ref fI) ⟨.ref (h.objs.size + 1) :: rest, []⟩)
      (fun r s' => match r with | .ok (.ret v) => v = .none ∧ Q (.done (.ret (.ref (h.objs.size + 1)))) s' | .ok _ => False | .error e => E e s')
      ⟨(h.push (PySem.W.kdv_tup rest)).push (PySem.HandSPX.excO C h.objs.size), g, d, t, os⟩) :
    wpAny (model prog w) A (Builtin.«type.__call__» ⟨.ref C :: rest, []⟩) Q E ⟨h, g, d, t, os⟩ := by
  have F := PySem.F.excBase_LookupError
  repeat (first | with_reducible refine wpAny_loadPart_at hC ?_ | with_reducible refine wpAny_madeBy_exc hC ?_ | wp_step)
  refine codeAny_call_builtin_code (Code.quiet_builtin _ F.quiet) (key_check_new hT hC ?_)
  refine key_new hT hC ?_ hrest
  show wpAny _ _ _ _ _ _
  have k : ∀ b o, h.get? b = some o → ((h.push (PySem.W.kdv_tup rest)).push (PySem.HandSPX.excO C h.objs.size)).get? b = some o := fun b o e => Heap.get?_push_of_some _ (Heap.get?_push_of_some _ e)
  have hC₁ := k _ _ hC
  have hget : ((h.push (PySem.W.kdv_tup rest)).push (PySem.HandSPX.excO C h.objs.size)).get? (h.objs.size + 1) = some (PySem.HandSPX.excO C h.objs.size) := by heap_get
  have hcC : (Value.ref C :: bm).contains (.ref C) = true := by simp
  have i1 := hi.keeps k
  have b1 := (hb (.ref (h.objs.size + 1))).keeps k
  unfold isInstance
  repeat (first | with_reducible refine wpAny_loadPart_at hget ?_ | (with_reducible refine wpAny_isSubtype_exc hC₁ ?_; rw [hcC]) | wp_step)
  show wpAny _ _ (typeLookup (.ref C) _) _ _ _
  refine i1.at ?_
  refine wpAny_holding (wpAny_bind (b1.at ?_))
  refine wpAny_bind (wpAny_call (codeAny_mono hq fun r s' z => ?_))
  rcases r with e | (v | _ | _ | _) <;> first | exact z | exact z.elim | skip
  obtain ⟨rfl, z⟩ := z
  first
    | exact wpAny_pure (wpAny_pure z)
    | (wp_walk; exact z)
theorem baseKey : BaseX "KeyError" "LookupError.__new__" "KeyError.__init__" bmKey where
  ini := fun {prog w A R h g d t os nm q C N bs bm hdct sn sub ab col dd k0 k1 k2 k3 k5} hT {e t0 rest} hC he hr hq => by
    refine codeAny_call_builtin PyProof.Rows.excClass_KeyError.init.plain PyProof.Rows.excClass_KeyError.initEntry (key_check_init hT hC he rfl ?_)
    wp_walk
    show R _ _
    refine hq _ h.objs.size (fun b o hb ho => ?_) ?_
    rotate_left
    · rw [Heap.get?_update_self _ (Heap.get?_push_of_some _ he) rfl]
      rfl
    · rw [Heap.get?_update_other _ _ (Ne.symm hb)]
      exact Heap.get?_push_of_some _ ho
  own := fun {prog w A R h g d t os nm q C N bs bm hdct sn sub ab col dd k0 k1 k2 k3 k5} hT {rest fI} hC hi hb hr hq => by
    have f1 := tc_lookup
    have f2 := tc_bind (.ref C)
    have hTy : (⟨h, g, d, t, os⟩ : Shared).TypeIs (.ref C) "type" := ⟨_, hC, rfl⟩
    refine codeAny_of_tree ?_
    show wpAny _ _ (callAny (.ref C) _) _ _ _
    repeat (any_goals (first | assumption | with_reducible refine wpAny_loadPart_at hC ?_ | wp_step))
    refine ⟨rfl, ?_⟩
    refine codeAny_call_builtin_at (Code.quiet_builtin _ (by decide +kernel)) entry_typeCall (wpAny_check_type_call_sub hC (key_type_call hT hC hi hb hr ?_))
    refine codeAny_mono hq fun r s' z => ?_
    rcases r with e | (v | _ | _ | _) <;> exact z
  store := store_Key
  typ := by kernel_rfl
  stub := by decide +kernel
end
end PX
/-! Defs that raise own exceptions with one field. -/
namespace PX
open PySem PySem.Spec PyProof.Rows L2
/-- what a callee lets out goes out of a def that raises -/
theorem passE {X : Cx} {E : XK} (hs : X.stack = X.env :: X.outer) (hf : X.env.frame = some X.env.locals) (hex : X.ex = []) {E₁ : Value → Shared → Prop}
    (hx : X.xe = fun e s' => wpAny (model X.prog X.w) X.A (leaving X.env e) (fun _ s'' => L2.CX X.prog X.w X.outer X.H_0 X.s_0 E e s'') E₁ s') : Passes (L2.CX X.prog X.w) X E :=
  fun pins σ H s e s' I c => passes_call (takes_of hs hf hex hx) (fun _ _ _ _ h => h) pins σ H s e s' I c
/-- the promise of an own __init__ that sets one field -/
def spX1 (C : Addr) (f : Str) : Sp := fun vs H Q _ => ∃ (a : Addr) (v : V), vs = [.ref a, v] ∧ H a = some (exo a C none) ∧ ∀ dx, H dx = none → dx ≠ a → Q .non (upd (upd H dx (exd dx [(f, v)])) a (exo a C (some dx)))
/-- C(e), to be raised: its dict is new -/
def tMkX (C : Addr) (f : Str) (ta : TA) : L2.St → Hp → XK → Prop := fun σ H Q => ta σ H fun vs H1 => ∃ v, vs = [v] ∧ ∀ d, H1 d = none → Q (.ref C) (some d) (upd H1 d (.xd [(f, v)]))
section
variable {X : Cx} {e : Expr} {ta : TA} {f x : Str} {p pos : Pos} {C fI : Addr} {B newId initId : String} {bmB : List Value}
theorem pmk_x1 {CX : CXT} {k : Nat} {fd : FuncData} {ps : List Str} (BX : BaseX B newId initId bmB) (T : OwnX X.K C B newId bmB) (iC : PySem.W.findIn X.K (.ref C) "__init__" = some (some (.ref fI))) (tI : PySem.W.typeIn X.K (.ref fI) = some (.type "function"))
    (F1 : FnOk X.prog X.w X.K X.mg X.base CX k fI fd ps (spX1 C f)) (hr : Room (k + 1) X.A) (hb : Binds X.K fd ps []) (hx : Passes CX X (fun _ _ _ => False)) (hg : Gl X x) (hm : X.mg x = some (.ref C)) (ha : PA X [e] ta)
    (hdb : (x == ("__debug__" : Str)) = false := by decide) (he : starEach (e :: []) X.env = (false, eval e X.env) :: starEach [] X.env := by rfl) (hpl : (backTo pos (starEach [] X.env)).any (·.1) = false := by rfl) :
    PMk X (.Call (.Name x p) [e] [] pos) (tMkX C f ta) := by
  have cut : PA X [e] (fun σ H Q => ∃ R, ta σ H R ∧ ∀ vs H', R vs H' → Q vs H') := ⟨fun pos pins s σ H Q I ⟨R, h, k⟩ => thn (ha.run pos pins s σ H R I h) fun us s1 ⟨vs, H1, I1, r, q⟩ => ⟨vs, H1, I1, r, k vs H1 q⟩⟩
  have M := pmk_own_init (p := p) (pos := pos) BX T iC tI F1 hr hb .nil hx hg hm cut hdb he hpl
  intro pins s σ H Q I h
  refine M pins s σ H Q I ⟨_, h, fun vs H1 ⟨v, ev, q⟩ => ?_⟩
  · subst ev
    refine ⟨by show 1 ≤ 1000; decide, fun a na => ?_⟩
    refine ⟨a, v, rfl, upd_same, fun dx n ne => ⟨rfl, dx, [(f, v)], upd_same, ?_, ?_, ?_⟩⟩
    · rw [upd_ne ne, upd_same]
    · rw [upd_ne ne] at n
      exact n
    · rw [upd_ne ne] at n
      have z : upd (del (upd (upd (upd H1 a (exo a C none)) dx (exd dx [(f, v)])) a (exo a C (some dx))) a) dx (.xd [(f, v)]) = upd H1 dx (.xd [(f, v)]) := by
        funext b
        by_cases hb : b = dx
        · rw [hb, upd_same, upd_same]
        · rw [upd_ne hb, upd_ne hb]
          by_cases hc : b = a
          · rw [hc, del_same, na]
          · rw [del_ne hc, upd_ne hc, upd_ne hb, upd_ne hc]
      rw [z]
      exact q dx n
end
section
variable {P : Program} {w : World} {K : PySem.W.Frag} {mg : Str → Option Value} {base : Heap}
/-- a def f(*v) by its body, which may raise -/
theorem okStarX {x qual pv : Str} {st : Stmt} {f : Addr} {fd : FuncData} {N : List Str} {k : Nat} {sp : Sp} (F : Fun K x qual st f fd) (S : FnScope N [pv] (defScope st))
    (hb0 : ∀ (kV doc pm : Value) (an : Option Addr) (cdv ct : Value), bindArgs (PySem.W.fnOf x qual (defArgs st) (defBody st) (defScope st) .none kV doc pm an cdv ct) ⟨[], []⟩ = (newTuple [] >>= fun t => pure [(pv, t)]))
    (hb1 : ∀ (kV doc pm : Value) (an : Option Addr) (cdv ct u : Value) (us : List Value), bindArgs (PySem.W.fnOf x qual (defArgs st) (defBody st) (defScope st) .none kV doc pm an cdv ct) ⟨u :: us, []⟩ = (newTuple (u :: us) >>= fun t => pure [(pv, t)]))
    (hbody : ∀ (cdv : Value) (A : Around) (outer : List Env) (s : Shared) (H : Hp) (vs : List V) (Q : VK) (E : XK), Room k (A.deeper (envOfC qual (defScope st) s.heap.objs.size f cdv)) → sp vs H Q E →
      ∃ t, PSs (cxOf (L2.CX P w) P w K mg base N qual (defScope st) f cdv A outer s H E) (defBody st) t ∧ t { nx := fun _ H' => Q .non H', rt := Q } (start N vs) H) :
    FnR P w K mg base (L2.CX P w) (k + 1) f (fun vs H Q E => vs.length ≤ sizeLine ∧ ∀ p, H p = none → sp [V.ref p] (upd H p (.tup vs)) Q E) := by
  obtain ⟨oc, od, kV, doc, pm, an, cdv, ct, osl, rfl, lk, hcd⟩ := F.ex
  have G := StX.fn_star (P := P) (w := w) (mg := mg) (base := base) (CX := L2.CX P w) (k := k) (sp := sp) (ps := []) (pv := pv) lk hcd S StX.cxUp (fun us rest h => by
    obtain rfl : us = [] := List.length_eq_zero_iff.mp h
    cases rest with
    | nil => exact hb0 kV doc pm an cdv ct
    | cons u r => exact hb1 kV doc pm an cdv ct u r) fun A outer s H vs Q E hr hs => by
      exact hbody cdv A outer s H vs Q E hr hs
  exact G.imp fun vs H Q E h => ⟨[], vs, rfl, rfl, h.1, h.2⟩
end
/-- an error of the class at S is what «except S» names -/
theorem exm_self {K : PySem.W.Frag} {S : Addr} (h1 : PySem.W.subIn K (.ref S) (.type "BaseException") = some true) (h2 : PySem.W.isClsIn K S = true) (h3 : PySem.W.typeIn K (.ref S) = some (.type "type")) (h4 : PySem.W.subIn K (.ref S) (.ref S) = some true) :
    PySem.W.exmOne K (.ref S) (.ref S) = some true := by
  have e1 : (PySem.W.subIn K (.ref S) (.type "BaseException") == some true) = true := by rw [h1] <;> rfl
  have e2 : ((PySem.W.clsIn K S).isSome && PySem.W.typeIn K (.ref S) == some (.type "type")) = true := by
    rw [show (PySem.W.clsIn K S).isSome = true from h2, h3] <;> rfl
  show (if (PySem.W.subIn K (.ref S) (.type "BaseException") == some true) = true then (if ((PySem.W.clsIn K S).isSome && PySem.W.typeIn K (.ref S) == some (.type "type")) = true then PySem.W.subIn K (.ref S) (.ref S) else none) else none) = some true
  rw [if_pos e1, if_pos e2]
  exact h4
/-- what a law's text says of an own exception with one field -/
structure XOne (K : PySem.W.Frag) (C fI : Addr) (B newId initId : String) (bmB : List Value) (f : Str) : Prop where
  own : OwnX K C B newId bmB
  iC : PySem.W.findIn K (.ref C) "__init__" = some (some (.ref fI))
  tI : PySem.W.typeIn K (.ref fI) = some (.type "function")
  tk : PySem.W.takerIn K C f = some none
  nf : PySem.W.findIn K (.ref C) f = some none
  vI : PySem.W.findCls K (.type B) (.type "type") "__init__" = some (.val (.builtin initId))
  xf : XfC K C
  ex : PySem.W.exmOne K (.ref C) (.ref C) = some true
end PX
/-! Lambdas handed to a def: the heap but for the table of code objects; the head of such a law. -/
namespace PX
open PySem PySem.Spec PyProof.Rows L2 LamX
/-- a def whose code object stands at c -/
structure FunC (K : PySem.W.Frag) (x qual : Str) (st : Stmt) (f c : Addr) (fd : FuncData) : Prop where
  ex : ∃ (oc : Value) (od : Option Addr) (kV doc pm : Value) (an : Option Addr) (ct : Value) (osl : Array (Option Value)),
    fd = PySem.W.fnOf x qual (defArgs st) (defBody st) (defScope st) .none kV doc pm an (.ref c) ct ∧ K.lookup f = some ⟨oc, od, .func fd, osl⟩ ∧ PySem.W.codeIn K (.ref c) qual = true
section
variable {P : Program} {w : World} {K : PySem.W.Frag} {mg : Str → Option Value} {base : Heap}
theorem okGC {x qual : Str} {st : Stmt} {f c : Addr} {fd : FuncData} {N ps : List Str} {k : Nat} {sp : Sp} (F : FunC K x qual st f c fd) (S : FnScope N ps (defScope st)) (many : ∀ vs H Q E, sp vs H Q E → vs.length = ps.length)
    (hb : ∀ (A : Around) (outer : List Env) (s : Shared) (H : Hp) (vs : List V) (Q : VK) (E : XK), Room k (A.deeper (envOfC qual (defScope st) s.heap.objs.size f (.ref c))) → NoG A → sp vs H Q E →
      ∃ t, PSs (cxOf CX0 P w K mg base N qual (defScope st) f (.ref c) A outer s H E).nox (defBody st) t ∧ t { nx := fun _ H' => Q .non H', rt := Q } (start N vs) H) : FnG P w K mg base CX0 (k + 1) f fd ps sp := by
  obtain ⟨oc, od, kV, doc, pm, an, ct, osl, rfl, lk, hcd⟩ := F.ex
  refine fnG_of lk hcd S many fun A outer s H vs Q E hr hg hs => ?_
  obtain ⟨t, h, q⟩ := hb A outer s H vs Q E hr hg hs
  exact ⟨t, h.nox, q⟩
/-- what never raises, of a def that may raise -/
theorem FnOk.calm {k : Nat} {f : Addr} {fd : FuncData} {ps : List Str} {sp : Sp} (F : FnOk P w K mg base (L2.CX P w) k f fd ps sp) : FnOk P w K mg base CX0 k f fd ps (fun vs H Q _ => sp vs H Q fun _ _ _ => False) := by
  refine ⟨fun vs H Q _ h => F.len vs H Q _ h, fun A outer s H args us vs Q E hr e0 hb r h => ?_⟩
  refine codeAny_mono (F.run A outer s H args us vs Q (fun _ _ _ => False) hr e0 hb r h) fun r s' z => ?_
  match r, z with
  | .error e, z =>
    obtain ⟨_, _, _, _, _, _, _, _, _, _, _, _, _, _, _, z⟩ := z
  | .ok .next, z => exact z
  | .ok .brk, z => exact z
  | .ok .cont, z => exact z
  | .ok (.ret u), z => exact z
end
/-- what is asked of a code object, asked of it alone -/
theorem codeHd_by {K : PySem.W.Frag} {c P : Addr} {o : Obj} (hk : K.lookup c = some o) (h : PySem.W.codeHdIn [(c, o)] c P = true) : PySem.W.codeHdIn K c P = true := by
  have e : List.lookup c [(c, o)] = some o := by simp [List.lookup]
  unfold PySem.W.codeHdIn at h ⊢
  rw [e] at h
  rw [hk]
  exact h
/-! ### the head -/
theorem law_callT {P : Program} {w : World} {K : PySem.W.Frag} {mg mb : Str → Option Value} {CX : CXT} {k : Nat} {fa a c T : Addr} {fd : FuncData} {x : Str} {sp : Sp} {s₁ : Shared} {vs : List Value} {ns : List Int}
    (KX : K.In s₁.heap) (hns : s₁.heap.Ns mainGlobals mg) (hb : s₁.heap.Ns builtinsNs mb) (hbb : ∀ x : Str, x ≠ "__name__" → mb x = bootBuiltins x) (hlim : s₁.heap.NoLimit) (hg : s₁.gens = #[])
    (hTab : s₁.heap.get? T = some { cls := .none, data := .fields #[] }) (nTab : K.lookup T = none) (hCode : PySem.W.CodeHd s₁.heap c T)
    (hmain : ∃ (bm : Addr) (ob : Obj), mg "__builtins__" = some (.ref bm) ∧ bm ≠ builtinsNs ∧ s₁.heap.get? bm = some ob ∧ ob.cls = .type "module" ∧ ob.dict = some builtinsNs ∧ ob.data = .plain)
    (ha : s₁.heap.get? a = some { cls := .type "list", data := .seq vs.toArray }) (hi : IntsAre vs ns) (hl : ns.length ≤ sizeLine) (hr : Room k callerA)
    (F : ∀ base : Heap, K.In base → base.Ns mainGlobals mg → TabB base mg c T → FnG P w K mg base CX k fa fd [x] sp) (hbind : ∀ (s : Shared) (u : Value), BindsTo s fd ⟨[u], []⟩ [(x, u)])
    (hsp : ∀ H : Hp, H T = some (.tbl #[]) → SqL K H a (ns.map V.int) → sp [.ref a] H (fun v _ => v = .bl true) fun _ _ _ => False)
    (hCX : ∀ H e s', CX [] H s₁ (fun _ _ _ => False) e s' → False) :
    codeAny (model P w) callerA (.call (.ref fa) ⟨[.ref a], []⟩) (fun r s' => r = .ok (.ret (.bool true)) ∧ OldK s₁.heap s'.heap ∧ s'.os = s₁.os ∧ AllBare s'.gens) s₁ := by
  have rv := vals_ints hi
  have lenV := hi.length
  have aT : a ≠ T := fun z => by
    rw [z, hTab] at ha
    cases (show Data.fields #[] = Data.seq vs.toArray _ from congrArg Obj.data (Option.some.inj ha))
  have main : ∀ H : Hp, H T = some (.tbl #[]) → (∀ b, H b = none ∨ b = T ∨ ∃ o xs, H b = some (.frz o (.lst xs))) → SqL K H a (ns.map V.int) → HOk P w H s₁.heap → (∀ b, H b ≠ none → b = a ∨ b = T) → (H a ≠ none → K.lookup a = none) →
      codeAny (model P w) callerA (.call (.ref fa) ⟨[.ref a], []⟩) (fun r s' => r = .ok (.ret (.bool true)) ∧ OldK s₁.heap s'.heap ∧ s'.os = s₁.os ∧ AllBare s'.gens) s₁ := by
    intro H hT hO hS hok hA hK
    have free_of : ∀ {b : Addr} {o : Obj}, s₁.heap.get? b = some o → (∀ n, o.data ≠ .seq vs.toArray n) → o.data ≠ .fields #[] → H b = none := fun {b o} e n1 n2 => by
      cases q : H b with
      | none => rfl
      | some u =>
        rcases hA b (by rw [q]; exact fun y => nomatch y) with z | z
        · rw [z, ha] at e
          cases e
          exact (n1 _ rfl).elim
        · rw [z, hTab] at e
          cases e
          exact (n2 rfl).elim
    have at_ : ∀ {b : Addr} {o : Obj}, s₁.heap.get? b = some o → (∀ n, o.data ≠ .seq vs.toArray n) → o.data ≠ .fields #[] → (hidT s₁.heap H).get? b = some o := fun e n1 n2 => hidT_get e (free_of e n1 n2)
    have nsT : ∀ {b : Addr} {m : Str → Option Value}, s₁.heap.Ns b m → (hidT s₁.heap H).Ns b m := fun {b m} z => by
      obtain ⟨o, es, ep, e, d, r⟩ := z
      exact ⟨o, es, ep, at_ e (fun n z => by rw [d] at z; cases z) (fun z => by rw [d] at z; cases z), d, r⟩
    have hKb : K.In (hidT s₁.heap H) := fun b o e => hidT_get (KX b o e) (by
      cases q : H b with
      | none => rfl
      | some u =>
        rcases hA b (by rw [q]; exact fun y => nomatch y) with e' | e'
        · rw [e'] at e q
          rw [hK (by rw [q]; exact fun y => nomatch y)] at e
          cases e
        · rw [e', nTab] at e
          cases e)
    have hM : Mod K mg (hidT s₁.heap H) := ⟨hKb, nsT hns, ⟨mb, nsT hb, hbb⟩, by obtain ⟨mc, h1, h2⟩ := hlim; exact ⟨mc, nsT h1, h2⟩⟩
    have gT : mainGlobals ≠ T := fun z => by
      obtain ⟨o, es, ep, e, d, _⟩ := hns
      rw [z, hTab] at e
      cases e
      cases d
    have hTB : TabB (hidT s₁.heap H) mg c T := by
      refine ⟨?_, ?_, gT⟩
      · obtain ⟨o, us, v1, v2, v3, v4, v5, v6, v7, e1, r1, r2, r3, r4⟩ := hCode
        refine ⟨o, us, v1, v2, v3, v4, v5, v6, v7, at_ e1 (fun n z => by rw [r2] at z; cases z) (fun z => ?_), r1, r2, r3, r4⟩
        rw [r2] at z
        injection z with z
        rw [z] at r3
        cases r3
      · obtain ⟨bm, ob, b1, b2, b3, b4, b5, b6⟩ := hmain
        refine ⟨bm, ob, b1, b2, fun z => ?_, fun z => ?_, at_ b3 (fun n z => by rw [b6] at z; cases z) (fun z => by rw [b6] at z; cases z), b4, b5, b6⟩
        · obtain ⟨o, es, ep, e, d, _⟩ := hns
          rw [z, e] at b3
          cases b3
          rw [d] at b6
          cases b6
        · rw [z, hTab] at b3
          cases b3
          cases b6
    have e0 : Env0 P w K mg (hidT s₁.heap H) callerA [] s₁ H := ⟨rfl, hM, fun b o e => of_hidT e, Nat.le_of_eq (hidT_size _ _), True.intro, fun b hb => absurd (show b ∈ ([] : List Addr) from hb) List.not_mem_nil, hok, .of_eq hg⟩
    refine codeAny_mono ((F _ hKb (nsT hns) hTB).goes callerA [] s₁ H ⟨[.ref a], []⟩ [.ref a] [.ref a] _ _ hr rfl e0 (hbind s₁ (.ref a)) (.cons rfl .nil) (hsp H hT hS)) fun r s' h => ?_
    match r, h with
    | .error e, h => exact (hCX H e s' h).elim
    | .ok .next, h => exact False.elim h
    | .ok .brk, h => exact False.elim h
    | .ok .cont, h => exact False.elim h
    | .ok (.ret u), h =>
      obtain ⟨v, H', os, bare, un, hok', r', q⟩ := h
      obtain rfl : v = V.bl true := q
      obtain rfl : u = Value.bool true := r'
      obtain ⟨more, zT⟩ := un.tbls T #[] hT
      have newT : s'.heap.get? T = some { cls := .none, data := .fields more } := by
        have := hok' T _ zT
        rw [Array.empty_append] at this
        exact this
      have stay : ∀ b o, b ≠ T → s₁.heap.get? b = some o → s'.heap.get? b = some o := fun b o nb e => by
        rcases hO b with z | z | ⟨ob, xs, z⟩
        · exact un.keep b o e z (fun y => absurd (show b ∈ ([] : List Addr) from y) List.not_mem_nil) List.not_mem_nil
        · exact absurd z nb
        · have e1 := (hok b _ z).1
          have e2 := (hok' b _ (un.frzs b ob _ z)).1
          rw [e] at e1
          cases e1
          exact e2
      refine ⟨rfl, ⟨fun b o e => ?_, fun b o e => ?_⟩, os, bare⟩
      · by_cases nb : b = T
        · subst nb
          rw [hTab] at e
          cases e
          exact .inr (.inl ⟨(hCode.tab hTab).isCodeTable, rfl, #[], more, rfl, by rw [Array.empty_append]; exact newT⟩)
        · exact .inl (stay b o nb e)
      · by_cases nb : b = T
        · subst nb
          exact ⟨_, newT⟩
        · exact ⟨o, stay b o nb e⟩
  cases hk : K.lookup a with
  | some o =>
    have e := KX a o hk
    rw [ha] at e
    cases e
    refine main (fun b => if b = T then some (.tbl #[]) else none) (if_pos rfl) (fun b => ?_) (.inr ⟨_, vs.toArray, _, hk, rfl, rfl, rfl, by rw [List.size_toArray, lenV]; exact hl, by simpa using rv⟩) (fun b u z => ?_) (fun b z => ?_) fun z => absurd (if_neg aT) z
    · by_cases hb : b = T
      · exact .inr (.inl hb)
      · exact .inl (if_neg hb)
    · by_cases hb : b = T
      · have z' := (if_pos hb).symm.trans z
        cases z'
        subst hb
        exact hTab
      · have z' := (if_neg hb).symm.trans z
        cases z'
    · by_cases hb : b = T
      · exact .inr hb
      · exact absurd (if_neg hb) z
  | none =>
    refine main (fun b => if b = a then some (.frz { cls := .type "list", data := .seq vs.toArray } (.lst (ns.map V.int))) else if b = T then some (.tbl #[]) else none) ((if_neg aT.symm).trans (if_pos rfl)) (fun b => ?_) (.inl (.inr ⟨{ cls := .type "list", data := .seq vs.toArray }, if_pos rfl⟩)) (fun b u z => ?_) (fun b z => ?_) fun _ => hk
    · by_cases hb : b = a
      · exact .inr (.inr ⟨_, _, if_pos hb⟩)
      · by_cases hb2 : b = T
        · exact .inr (.inl hb2)
        · exact .inl ((if_neg hb).trans (if_neg hb2))
    · by_cases hb : b = a
      · have z' := (if_pos hb).symm.trans z
        cases z'
        subst hb
        exact ⟨ha, by rw [List.length_map]; exact hl, vs, _, rv, ha⟩
      · have z1 := (if_neg hb).symm.trans z
        by_cases hb2 : b = T
        · have z' := (if_pos hb2).symm.trans z1
          cases z'
          subst hb2
          exact hTab
        · have z' := (if_neg hb2).symm.trans z1
          cases z'
    · by_cases hb : b = a
      · exact .inl hb
      · by_cases hb2 : b = T
        · exact .inr hb2
        · exact absurd ((if_neg hb).trans (if_neg hb2)) z
theorem walkT {l : PySem.W.OpenLaw} {n k : Nat} {q : Program} {loose : List Str} {XP : (Str → Option Value) → Heap → Prop} {YP : World → Heap → Prop} {d : DefRec} {K : Params → PySem.W.Frag} {CX : World → CXT} {sp : World → Addr → Sp} {x : Str}
    (hn : l.most = some n) (hn2 : n ≤ sizeLine) (hdf : d.params.defaults = []) (hr : Room k callerA) (hrec : ((recsOf q).any fun e => e.name == d.name) = true)
    (hY : ∀ (w : World) (h : Heap), YP w h → (K w.params).In h)
    (F : ∀ (w : World) (mg : Str → Option Value) (fa : Addr) (h : Heap), (K w.params).In h → h.Ns mainGlobals mg → mg d.name = some (.ref fa) →
      ∃ (fd : FuncData) (c T : Addr) (e : Value) (dd : Option Addr) (sl : Array (Option Value)), (∀ (s : Shared) (u : Value), BindsTo s fd ⟨[u], []⟩ [(x, u)]) ∧ (K w.params).lookup fa = some ⟨e, dd, .func fd, sl⟩ ∧ fd.code = .ref c ∧ PySem.W.codeHdIn (K w.params) c T = true ∧ (K w.params).lookup T = none ∧
        ∀ base : Heap, (K w.params).In base → base.Ns mainGlobals mg → TabB base mg c T → FnG l.prog w (K w.params) mg base (CX w) k fa fd [x] (sp w T))
    (hsp : ∀ (w : World) (T : Addr) (H : Hp) (a : Addr) (ns : List Int), ns.length ≤ n → H T = some (.tbl #[]) → SqL (K w.params) H a (ns.map V.int) → sp w T [.ref a] H (fun v _ => v = .bl true) fun _ _ _ => False)
    (hCX : ∀ (w : World) (H : Hp) (s : Shared) (e : Value) (s' : Shared), CX w [] H s (fun _ _ _ => False) e s' → False) :
    PySem.W.WalkO q loose XP YP l.row.toRowW d [] (fun f vs => PySem.call f vs) := by
  refine Att.attach_callB hn hdf fun w s₀ s₁ mg mb fa o pm cd doc a vs ns G Y ho hd hcd hmg hobj hints hlen hbits hg => ?_
  have KX := hY w _ Y
  obtain ⟨fd, c, T, e, dd, sl, hb, hlk, hfc, hch, nT, hF⟩ := F w mg fa _ KX G.T.g hmg
  have hC := PySem.W.codeHd_of_K KX hch
  obtain ⟨dL, hm, hname⟩ := List.any_eq_true.mp hrec
  obtain ⟨a', o', fd', c', P', h1, h2, h3, h4, h5, ⟨oc, vc, e1, _, e3, e4⟩, hP⟩ := G.T.tab dL hm
  rw [show dL.name = d.name from beq_iff_eq.mp hname, hmg] at h1
  cases h1
  rw [KX _ _ hlk] at h2
  cases h2
  cases h3
  rw [hfc] at h4
  cases h4
  have eT : P' = T := by
    obtain ⟨o2, us, _, _, _, _, _, _, _, f1, _, f3, f4, _⟩ := hC
    rw [e1] at f1
    cases f1
    rw [e3] at f3
    cases f3
    rw [e4] at f4
    cases f4
    rfl
  subst eT
  exact law_callT KX G.T.g G.T.b G.T.builtins G.T.nolimit hg hP nT hC G.T.bmain hobj hints (Nat.le_trans hlen hn2) hr hF hb (fun H hH hS => hsp w P' H a ns hlen hH hS) fun H e s' => hCX w H s₁ e s'
/-! ### the call -/
section
variable {X : Cx}
/-- x(lambda: body), x a def of the module -/
theorem pe_lamF {x a : Str} {st : Stmt} {g c P : Addr} {fd : FuncData} {Ng : List Str} {k : Nat} {params : Arguments} {body : Expr} {scope : Scope} {t : XK → TE} {TT : (XK → Hp → VK → Prop) → Hp → VK → Prop} {p lpos pos : Pos}
    (F : Fun X.K x x st g fd) (hm : X.mg x = some (.ref g)) (hb : L2.Binds X.K fd [a] []) (Sg : FnScope Ng [a] (defScope st)) (hNg : Ng[0]? = some a) (hva : Vis (defScope st) a)
    (hG : ∀ cdg : Value, GivesTo X Ng x (defScope st) g cdg (defBody st) a (X.env.qual ++ "<lambda>") TT) (TB : TabB X.base X.mg c P) (hcode : X.env.code = .ref c) (hg : Gl X x) (hr : Room (k + 2) X.A) (L : LamS X.env.scope scope) (hdef : defaultsOf params X.env = ([], []))
    (hbind : ∀ (q : Str) (cl : List (Str × Addr)) (pm cv ctv : Value), bindArgs (PySem.W.kla_fn "<lambda>" q params body scope cl pm cv ctv) ⟨[], []⟩ = pure [])
    (hbody : ∀ (A : Around) (outer : List Env) (s : Shared) (H : Hp) (E : XK) (f c' : Addr), Room k (A.deeper (lamEnv X scope s.heap.objs.size f c')) → PE (lamCx X A outer s H E scope f c') body (t E))
    (hdb : (x == ("__debug__" : Str)) = false := by decide) (hd : (a == ("__debug__" : Str)) = false := by decide) (hcd : (a == ("__classdict__" : Str)) = false := by decide) :
    PE X (.Call (.Name x p) [.Lambda params body scope lpos] [] pos) (tLam [(P, X.env.qual ++ "<lambda>")] TT t) := by
  obtain ⟨oc, od, kV, doc, pm, an, cdv, ct, osl, rfl, lk, hcd2⟩ := F.ex
  exact pe_lamcall hg hm F.kp lk hcd2 hb Sg hNg hva (hG cdv) TB hcode (List.mem_singleton.mpr rfl) (fun q hq _ => by rw [List.mem_singleton.mp hq]) hr L hdef hbind hbody hdb hd hcd
end
/-- the slots are as many as the names -/
theorem takesLen {Z : Cx} {W : WX} (tk : Takes Z W) : Takes Z (fun cls d σ H => σ.length = Z.N.length → W cls d σ H) := fun u s' ⟨a, B, sI, pins, σ, H, cls, d, e, I, nb, up, sky, na, os, ag, w⟩ =>
  tk u s' ⟨a, B, sI, pins, σ, H, cls, d, e, I, nb, up, sky, na, os, ag, w I.len⟩
/-- a(), a the lambda that was handed in, in a try -/
theorem pe_actW {Z : Cx} {W : WX} {f c' : Addr} {q a : Str} {tl : XK → Hp → VK → Prop} {pn : List (Addr × Obj)} {xe : Value → Shared → Prop} {p1 p2 : Pos}
    (act : ∀ (W : WX) (pn : List (Addr × Obj)) (xe : Value → Shared → Prop) (E : XK) (p1 p2 : Pos), Takes (Z.tr pn xe) W → (∀ cls d σ' H', E cls d H' → W cls d σ' H') →
      PE (Z.tr pn xe) (.Call (.Name a p1) [] [] p2) (fun σZ HZ Q => σZ[0]? = some (some (.ref f)) ∧ HZ c' = some (CodeO c' q) ∧ tl E HZ Q)) (tk : Takes (Z.tr pn xe) W) :
    PE (Z.tr pn xe) (.Call (.Name a p1) [] [] p2) (fun σZ HZ Q => ∃ Ech : XK, (∀ (cls : Value) (d : Option Addr) (σ' : L2.St) (H' : Hp), σ'.length = Z.N.length → Ech cls d H' → W cls d σ' H') ∧ σZ[0]? = some (some (.ref f)) ∧ HZ c' = some (CodeO c' q) ∧ tl Ech HZ Q) :=
  ⟨fun pins s σ H Q I ⟨Ech, hW, h1, h2, h3⟩ => (act _ pn xe Ech p1 p2 (takesLen tk) (fun cls d σ' H' e l => hW cls d σ' H' l e)).run pins s σ H Q I ⟨h1, h2, h3⟩⟩
/-! ### heaps but for the tables -/
theorem ExtN.gr {H H1 H2 : Hp} {p : Addr} (e : ExtN H H1) (g : Gr p H1 H2) (hp : H p = none) : ExtN H H2 := fun b o h n => g _ _ (ne_of_none h hp) (e b o h n)
theorem ExtN.same {H H1 H2 : Hp} (e : ExtN H H1) (s : Same H1 H2) : ExtN H H2 := fun b o h n => s _ _ (e b o h n)
theorem Tabs.keep {T : List (Addr × Str)} {H H' : Hp} (t : Tabs T H) (s : ∀ b o, H b = some o → (∀ xs, o ≠ .lst xs) → H' b = some o) : Tabs T H' := fun p hp => by
  obtain ⟨ps, h1, h2, h3⟩ := t p hp
  refine ⟨ps, s _ _ h1 (fun _ z => nomatch z), h2, fun pos cv hc => ?_⟩
  obtain ⟨c, e1, e2⟩ := h3 pos cv hc
  exact ⟨c, e1, s _ _ e2 fun xs z => by unfold CodeO at z; cases z⟩
/-- what is no list and no table stays -/
abbrev KeepN (H H' : Hp) : Prop := ∀ b o, H b = some o → (∀ xs, o ≠ .lst xs) → (∀ ps, o ≠ .tbl ps) → H' b = some o
mutual
theorem RuleAt.keepN {C : Addr} {H H' : Hp} (s : KeepN H H') : ∀ (r : RT) (a : Addr), RuleAt C H r a → RuleAt C H' r a
  | .base n, a, h => by
    obtain ⟨dx, t, f, b, h1, h2, h3, h4⟩ := h
    exact ⟨dx, t, f, b, s _ _ h1 (fun _ z => nomatch z) (fun _ z => nomatch z), s _ _ h2 (fun _ z => nomatch z) (fun _ z => nomatch z), s _ _ h3 (fun _ z => nomatch z) (fun _ z => nomatch z), s _ _ h4 (fun _ z => nomatch z) (fun _ z => nomatch z)⟩
  | .op w ps, a, h => by
    obtain ⟨dx, t, f, b, ls, ns, h1, h2, h3, h4, h5, h6⟩ := h
    exact ⟨dx, t, f, b, ls, ns, s _ _ h1 (fun _ z => nomatch z) (fun _ z => nomatch z), s _ _ h2 (fun _ z => nomatch z) (fun _ z => nomatch z), RulesAt.keepN s ps ls h3, s _ _ h4 (fun _ z => nomatch z) (fun _ z => nomatch z), s _ _ h5 (fun _ z => nomatch z) (fun _ z => nomatch z), h6⟩
theorem RulesAt.keepN {C : Addr} {H H' : Hp} (s : KeepN H H') : ∀ (ps : List RT) (ls : List Addr), RulesAt C H ps ls → RulesAt C H' ps ls
  | [], _, h => h
  | p :: ps, _, h => by
    obtain ⟨a, r, e, h1, h2⟩ := h
    exact ⟨a, r, e, RuleAt.keepN s p a h1, RulesAt.keepN s ps r h2⟩
end
theorem ExtN.keepN {H H' : Hp} (e : ExtN H H') : KeepN H H' := fun b o h _ n => e b o h n
/-- weaker facts suffice -/
theorem FnOk.weaken {P : Program} {w : World} {K : PySem.W.Frag} {mg : Str → Option Value} {base : Heap} {CX : CXT} {k : Nat} {f : Addr} {fd : FuncData} {ps : List Str} {sp sp' : Sp} (F : FnOk P w K mg base CX k f fd ps sp) (h : ∀ vs H Q E, sp' vs H Q E → sp vs H Q E) : FnOk P w K mg base CX k f fd ps sp' :=
  ⟨fun vs H Q E z => F.len vs H Q E (h _ _ _ _ z), fun A outer s H args us vs Q E hr e0 hb r z => F.run A outer s H args us vs Q E hr e0 hb r (h _ _ _ _ z)⟩
end PX
/-! try with several clauses 'except C as e'; isinstance(e, ..) of a caught exception with fields; C.m(..) in a try. -/
namespace PX
open PySem PySem.Spec PyProof.Rows L2
/-- what the clauses wish of an exception of the body, one after the other -/
def wManyAs (K : PySem.W.Frag) (Wout : WX) (D : Ends) : List (Value × Nat × (Addr → Value → Option Addr → TS)) → WX
  | [] => Wout
  | (c, i, ts) :: r => fun cls d σ H => ∃ b, PySem.W.exmOne K cls c = some b ∧
      (b = true → ∀ a, H a = none → ts a cls d { nx := fun σ' H' => D.nx (σ'.set i none) H', rt := D.rt, bk := fun σ' H' => D.bk (σ'.set i none) H', ct := fun σ' H' => D.ct (σ'.set i none) H' } (σ.set i (some (.ref a))) H) ∧
      (b = false → wManyAs K Wout D r cls d σ H)
inductive HdsAs (X : Cx) : List ExceptHandler → List (Value × Nat × (Addr → Value → Option Addr → TS)) → Prop
  | nil : HdsAs X [] []
  | cons {x n : Str} {c : Value} {i : Nat} {ts : Addr → Value → Option Addr → TS} {b₀ : Stmt} {suite : List Stmt} {np pos' : Pos} {hds : List ExceptHandler} {l : List (Value × Nat × (Addr → Value → Option Addr → TS))} (hi : X.N[i]? = some n) (hln : X.env.kindOf n = some .local) (hc : Names X x c)
      (hsu : ∀ (a : Addr) (oe : Obj) (cls : Value) (d : Option Addr) (pn : List (Addr × Obj)), Zc cls d oe → (∃ vs, oe.data = .fields vs) → PSs (X.suite a ((a, oe) :: pn)) (b₀ :: suite) (ts a cls d)) (r : HdsAs X hds l) :
      HdsAs X (.ExceptHandler (some (.Name x np)) (some n) (b₀ :: suite) pos' :: hds) ((c, i, ts) :: l)
section
variable {X : Cx} {body : List Stmt} {h₀ : ExceptHandler} {hds : List ExceptHandler} {l : List (Value × Nat × (Addr → Value → Option Addr → TS))} {pos : Pos} {tb : WX → TS} {Wout : WX}
theorem ps_try_asM (hs : X.stack = X.env :: X.outer) (hf : X.env.frame = some X.env.locals) (hN : X.N.Nodup) (tk : Takes X Wout)
    (hb : ∀ (W : WX) (pn : List (Addr × Obj)) (xe : Value → Shared → Prop), Takes (X.tr pn xe) W → PassesOwn (model X.prog X.w) X.A X.env xe → PSs (X.tr pn xe) body (tb W))
    (hh : HdsAs X (h₀ :: hds) l) : PS X (.Try body (h₀ :: hds) [] [] pos) (fun D σ H => tb (wManyAs X.K Wout D l) D σ H) := by
  refine ⟨fun pins s σ H D I h => ?_⟩
  have ok := I.ok
  have hfr : X.A.frames = some (X.env :: X.outer) := by rw [ok.frames, hs]
  refine wpAny_Try_except ?_
  refine wpAny_mono ((hb (wManyAs X.K Wout D l) (X.pn ++ pins) (fun e s₁ => wpAny (model X.prog X.w) X.A (noteFrame e X.env) (fun _ s₂ => wpAny (model X.prog X.w) X.A (setFlight e none) (fun _ s₃ =>
    wpAny (model X.prog X.w) X.A (handleBy e X.env (h₀ :: hds)) (SP X pins D) X.xe s₃) X.xe s₂) X.xe s₁) (fun u s' xx => ?_) PassesOwn.looking).run [] s σ H D (I.toTry _) h) (fun f s1 hsp => ?_) (fun e s1 he => he)
  · -- the catch
    obtain ⟨a, B, sI, pins', σ', H', cls, d, rfl, J', nb, up, sky, na, os, ag, w⟩ := xx
    have J : Inv X pins σ' H' sI := J'.ofTry ok
    have sky' : Sky B (X.env :: X.outer) a (Zc cls d) X.env.locals s'.heap := by rw [← hs]; exact sky
    show wpAny (model X.prog X.w) X.A (noteFrame (.ref a) X.env) _ _ _
    refine Sky.land Zc.steady hfr hf sky' fun h3 fl3 up3 => ?_
    have J3 : Inv X pins σ' H' { s' with heap := h3 } := J.landed nb fl3.1 (up.trans up3) os ag
    obtain ⟨oe3, vs3, he3, hz3, hd3⟩ := fl3.there
    have notFr : ∀ {h : Heap} {o : Obj} {vs : Array Value}, h.FunFrames B (X.env :: X.outer) → h.get? a = some o → o.data = .fields vs → a ∉ frs (X.env :: X.outer) := fun {h o vs} ff e dd hm => by
      obtain ⟨_, o', e', hnf⟩ := ff.mem hm
      rw [e] at e'; cases e'
      exact hnf _ dd
    have nfr := notFr fl3.2.2.1 he3 hd3
    have nL : a ≠ X.env.locals := fun z => nfr (List.mem_filterMap.mpr ⟨X.env, List.mem_cons_self, by rw [hf, z]⟩)
    have nF : a ∉ X.fs := fun hm => by
      obtain ⟨e, he, q⟩ := List.mem_filterMap.mp hm
      exact nfr (List.mem_filterMap.mpr ⟨e, List.mem_cons_of_mem _ he, q⟩)
    have S3 := J3.suite he3 hd3 na nL nF
    have go : ∀ {hds' : List ExceptHandler} {l' : List (Value × Nat × (Addr → Value → Option Addr → TS))}, HdsAs X hds' l' → wManyAs X.K Wout D l' cls d σ' H' →
        wpAny (model X.prog X.w) X.A (handleBy (.ref a) X.env hds') (SP X pins D) X.xe { s' with heap := h3 } := by
      intro hds' l' hk
      induction hk with
      | nil =>
        intro w
        refine wpAny_handleBy_nil ?_
        obtain ⟨k1, k2, k3, oe, vs, T, oT, ts', he, hz, hd, h1, hr⟩ := id fl3
        unfold PySem.passOn
        refine wpAny_bind (wpAny_field he hd h1 ?_)
        rw [if_neg (show ¬ ((Value.ref T == Value.none) = true) from by simp)]
        have fin : wpAny (model X.prog X.w) X.A (setFlight (.ref a) X.env.frame) (fun _ s4 => wpAny (model X.prog X.w) X.A (throw (.ref a) : Sem Flow) (SP X pins D) X.xe s4) X.xe { s' with heap := h3 } := by
          rw [hf]
          refine HandSPX.setFlight_upZ fl3 fun h4 hh4 up4 => wpAny_throw (tk _ _ ?_)
          exact ⟨a, B, sI, pins, σ', H', cls, d, rfl, J, nb, (up.trans up3).trans up4, .inr (.inr (by rw [hs]; exact hh4)), na, os, ag, w⟩
        first
          | exact wpAny_bind (wpAny_pure (wpAny_bind fin))
          | exact wpAny_bind fin
      | @cons x n c i ts b₀ suite np pos' hds2 l2 hi hln hc hsu r ih =>
        intro w
        obtain ⟨b, hb1, hyes, hno⟩ := w
        refine wpAny_handleBy_cons (codeAny_handlers_test ?_) (by intro q; cases q)
        have LT : PySem.W.Looks (model X.prog X.w) h3 (typeOf (.ref a)) cls := fun A Q E s k q => wpAny_typeOf_ref (k _ _ he3) (by rw [hz3.1]; exact q)
        have LM := PySem.W.exm_one (M := model X.prog X.w) (J3.kIn) LT hb1
        have test : ∀ {Q : Value → Shared → Prop} {E : Value → Shared → Prop}, Q c { s' with heap := h3 } → wpAny (model X.prog X.w) (X.A.mark (some (.ref a))) (eval (.Name x np) X.env) Q E { s' with heap := h3 } := fun {Q E} q => by
          obtain ⟨hg, hdbg, hm | ⟨hm, hv, hnn⟩⟩ := hc
          · exact ld_glob (X := X.suite a ((a, oe3) :: (X.pn ++ pins))) S3 hg hm q hdbg
          · exact ld_blt (X := X.suite a ((a, oe3) :: (X.pn ++ pins))) S3 hg hm hv q hnn hdbg
        refine test (LM.here ?_)
        cases b with
        | true =>
          refine codeAny_handlers_suite_as ?_
          refine HandSPX.lands_againZ fl3 fun h4 fl4 up4 => ?_
          have J4 : Inv X pins σ' H' { s' with heap := h4 } := J.landed nb fl4.1 ((up.trans up3).trans up4) os ag
          obtain ⟨oe4, vs4, he4, hz4, hd4⟩ := fl4.there
          have S4 := J4.suite he4 hd4 na nL nF
          refine store_ok (X := X.suite a ((a, oe4) :: (X.pn ++ pins))) (v := .ref a) S4 hN hi (.inl hln) rfl (fun s5 S5 => ?_) (.inr hln)
          refine wpAny_mono ((hsu a oe4 cls d (X.pn ++ pins) hz4 ⟨_, hd4⟩).run [] s5 _ H' _ S5 (hyes rfl a na)) (fun f s6 hsp => ?_) (fun _ _ z => False.elim z)
          have end_ : ∀ {σ6 : L2.St} {H6 : Hp} {Q : Shared → Prop}, Inv (X.suite a ((a, oe4) :: (X.pn ++ pins))) [] σ6 H6 s6 → (∀ s7, Inv X pins (σ6.set i none) H6 s7 → Q s7) →
              wpAny (model X.prog X.w) X.A (do bindName X.env n .none; unbindBehindTheSuite X.env n pos') (fun _ s7 => Q s7) X.xe s6 := fun {σ6 H6 Q} S6 hq => gone_ok (S6.unsuite ok) hN hi hln hq
          cases f with
          | next =>
            obtain ⟨σ6, H6, S6, q6⟩ := hsp
            exact end_ S6 fun s7 J7 => ⟨_, _, J7, q6⟩
          | brk =>
            obtain ⟨σ6, H6, S6, q6⟩ := hsp
            exact end_ S6 fun s7 J7 => ⟨_, _, J7, q6⟩
          | cont =>
            obtain ⟨σ6, H6, S6, q6⟩ := hsp
            exact end_ S6 fun s7 J7 => ⟨_, _, J7, q6⟩
          | ret u =>
            obtain ⟨v6, σ6, H6, S6, r6, q6⟩ := hsp
            exact end_ S6 fun s7 J7 => ⟨_, _, _, J7, r6, q6⟩
        | false =>
          show wpAny _ X.A (handleBy (.ref a) X.env hds2) _ _ _
          exact ih (hno rfl)
    exact go hh w
  · cases f with
    | next =>
      obtain ⟨σ', H', J', q⟩ := hsp
      exact wpAny_execs_nil ⟨σ', H', J'.ofTry ok, q⟩
    | brk =>
      obtain ⟨σ', H', J', q⟩ := hsp
      exact ⟨σ', H', J'.ofTry ok, q⟩
    | cont =>
      obtain ⟨σ', H', J', q⟩ := hsp
      exact ⟨σ', H', J'.ofTry ok, q⟩
    | ret u =>
      obtain ⟨v, σ', H', J', r, q⟩ := hsp
      exact ⟨v, σ', H', J'.ofTry ok, r, q⟩
end
section
variable {prog : Program} {w : World} {A : Around} {E : Value → Shared → Prop} {s : Shared} {K : PySem.W.Frag} {x D : Addr} {ox od : Obj}
open PySem.W
theorem kin_classD {Q : Option Value → Shared → Prop} (hga : findIn K (.ref D) "__getattribute__" = some (some (.builtin "BaseException.__getattribute__"))) (hgt : findIn K (.ref D) "__getattr__" = some none) (hsub : subIn K (.ref D) (.type "BaseException") = some true)
    (hdct : hasDictIn K D = true) (ha : findIn K (.ref D) "__class__" = some (some (.builtin "object.__class__")))
    (hn : specialIn K (.builtin "object.__class__") "__get__" = some (some (.builtin "getset_descriptor.__get__"))) (htk : takesIn K (.builtin "object.__class__") = some true) (hm : mroIn K D (.type "object") = some true)
    (X : K.In s.heap) (I : InstAt s.heap x ox D (some od)) (h : Q (some (.ref D)) { s with toks := s.toks + 1 }) : wpAny (model prog w) A (getAttr? (.ref x) "__class__") Q E s := by
  have hf : findObj K D (some od) "__class__" = some (.bind (.builtin "getset_descriptor.__get__") (.builtin "object.__class__")) := findObj_data (by obtain ⟨cd, hc, _⟩ := any_some hdct; rw [hc]; rfl) ha hn htk
  obtain ⟨hp, g, d, t, os⟩ := s
  have L0 := I.type (M := model prog w)
  have L1 := looks_findIn (M := model prog w) X hga
  have L2 := looks_findIn (M := model prog w) X hgt
  have L3 := looks_find (M := model prog w) X I hf
  have sub : Looks (model prog w) hp (isInstance (.ref x) (.type "BaseException")) true := L0.andThen (looks_subIn X hsub)
  have hx0 : (false && onTheHeap (Value.builtin "BaseException.__getattribute__")) = false := rfl
  have hx2 : (Value.builtin "BaseException.__getattribute__" == Value.builtin "object.__getattribute__") = false := by decide +kernel
  have hx1 : (onTheHeap (Value.ref D) && Value.builtin "BaseException.__getattribute__" == Value.builtin "object.__getattribute__") = false := by rw [hx2]; rfl
  unfold getAttr? getAttrBy? getAttrBy
  refine wpAny_bind (wpAny_mkText (wpAny_bind (wpAny_attempt (wpAny_holding (wpAny_bind (L0.at (wpAny_bind (L1.at ?_))))))))
  show wpAny _ _ (if (onTheHeap (Value.ref D) && Value.builtin "BaseException.__getattribute__" == Value.builtin "object.__getattribute__") = true then _ else _) _ _ _
  rw [hx1, if_neg Bool.false_ne_true]
  unfold getAttrByItsOwn hookBefore
  refine wpAny_bind ?_
  rw [if_pos (show onTheHeap (Value.ref D) = true from rfl)]
  refine L2.at ?_
  refine wpAny_bind (wpAny_attempt (wpAny_holding ?_))
  unfold callGetattribute
  rw [hx0, if_neg Bool.false_ne_true]
  unfold boundAndCalled
  rw [PySem.F.excAttr_ValueError.ga.bind (.ref x)]
  refine wpAny_bind (wpAny_pure ?_)
  show wpAny _ _ (call (.builtin "BaseException.__getattribute__") [.ref x, .str "__class__" t]) _ _ _
  refine wpAny_call (codeAny_call_builtin PySem.F.excAttr_ValueError.ga.plain PySem.F.entry_bexc_ga ?_)
  refine @check_slot (model prog w) _ _ ⟨hp, g, d, t + 1, os⟩ "BaseException.__getattribute__" "BaseException" "__getattribute__" (.ref x) [.str "__class__" t] [] _ (by decide +kernel) (by decide +kernel) sub (PySem.F.args_bexc_ga (.ref x) (.str "__class__" t)) ?_
  unfold Builtin.«object.__getattribute__»
  refine wpAny_bind (wpAny_of_eq (a := ((Value.ref x : Value), [Value.str "__class__" t])) (by first | rfl | (simp only [slotArgs]; rfl)) ?_)
  refine wpAny_bind (wpAny_pure (wpAny_bind (L0.at (wpAny_bind (L3.at ?_)))))
  show wpAny _ _ (holding [Value.builtin "object.__class__"] (call (.builtin "getset_descriptor.__get__") [.builtin "object.__class__", .ref x, .ref D]) >>= ret) _ _ _
  refine wpAny_bind (wpAny_holding (wpAny_call (class_get (s := ⟨hp, g, d, t + 1, os⟩) (ox := ox) (od := some od) X I hm ?_)))
  refine wpAny_pure ?_
  show wpAny _ _ (handedOut (.ref D)) _ _ _
  rw [handedOut_of (v := .ref D) rfl]
  first
    | exact wpAny_pure (wpAny_pure h)
    | exact wpAny_pure h
    | exact wpAny_pure (wpAny_bind (wpAny_pure (wpAny_pure h)))
theorem kitx_excD (hga : findIn K (.ref D) "__getattribute__" = some (some (.builtin "BaseException.__getattribute__"))) (hgt : findIn K (.ref D) "__getattr__" = some none) (hsub : subIn K (.ref D) (.type "BaseException") = some true) (hdct : hasDictIn K D = true) (ha : findIn K (.ref D) "__class__" = some (some (.builtin "object.__class__")))
    (hn : specialIn K (.builtin "object.__class__") "__get__" = some (some (.builtin "getset_descriptor.__get__"))) (htk : takesIn K (.builtin "object.__class__") = some true) (hm : mroIn K D (.type "object") = some true) :
    KitX K (.ref x) (.ref D) (fun h => ∃ od, InstAt h x ox D (some od)) where
  ty := fun _ _ _ ⟨_, I⟩ => I.type
  it := fun _ _ X _ => by
    obtain ⟨cdD, hcD, _⟩ := any_some hdct
    unfold clsIn at hcD
    split at hcD
    · rename_i c' d' cd' sl' ho
      intro A' Q' E' s' k q
      unfold isType loadHead
      exact wpAny_bind (wpAny_loadPart (k _ _ (X _ _ ho)) (wpAny_pure q))
    · cases hcD
  ne := fun h tp dd its n sl X htp => by
    obtain ⟨cdD, hcD, _⟩ := any_some hdct
    refine Bool.eq_false_iff.mpr fun q => ?_
    have e : D = tp := Value.ref.inj (beq_iff_eq.mp q)
    subst e
    unfold clsIn at hcD
    split at hcD
    · rename_i c' d' cd' sl' ho
      have z := (X _ _ ho).symm.trans htp
      cases z
    · cases hcD
  ca := fun X ⟨_, I⟩ k => kin_classD hga hgt hsub hdct ha hn htk hm X I k
end
/-- isinstance(e, c), e the exception that the suite holds, c a class or a tuple of classes that was just laid -/
def rIsED (K : PySem.W.Frag) (D a : Addr) (cls : Value) (d : Option Addr) : List V → Hp → VK → Prop := fun xs H Q => ∃ (c : V) (cv : Value) (b : Bool) (dd : Addr) (fs : List (Str × V)), xs = [.ref a, c] ∧ cls = .ref D ∧ d = some dd ∧ H dd = some (.xd fs) ∧ ClsV c cv ∧ PySem.W.kitOne K (.ref D) cv = some b ∧ Q (.bl b) H
def rIsEDT (K : PySem.W.Frag) (D a : Addr) (cls : Value) (d : Option Addr) : List V → Hp → VK → Prop := fun xs H Q => ∃ (tp : Addr) (cs : List V) (us : List Value) (b : Bool) (dd : Addr) (fs : List (Str × V)), xs = [.ref a, .ref tp] ∧ cls = .ref D ∧ d = some dd ∧ H dd = some (.xd fs) ∧ H tp = some (.tup cs) ∧ Paired ClsV cs us ∧ PySem.W.kitAny K (.ref D) us = some b ∧ Q (.bl b) H
section
variable {X : Cx} {a D : Addr} {oe : Obj} {pn : List (Addr × Obj)} {cls : Value} {d : Option Addr}
theorem inst_xd {pins : List (Addr × Obj)} {σ : L2.St} {H : Hp} {s : Shared} {dd : Addr} {fs : List (Str × V)} (I : Inv (X.suite a ((a, oe) :: pn)) pins σ H s) (hz : Zc (.ref D) (some dd) oe) (hf : ∃ vs, oe.data = .fields vs) (ea : H dd = some (.xd fs)) : ∃ od, PySem.W.InstAt s.heap a oe D (some od) := by
  obtain ⟨ha, _⟩ := I.pin (a, oe) (List.mem_append_left _ List.mem_cons_self)
  obtain ⟨vs, hd⟩ := hf
  have hx : ObjOk X.prog X.w H s.heap dd (.xd fs) := I.hok dd _ ea
  obtain ⟨mA, hns, hr⟩ := hx
  obtain ⟨od, ho, hl⟩ := lookIn_ns hns
  exact ⟨od, ha, hz.1, by unfold PySem.W.notCls; rw [hd] <;> rfl, by rw [hz.2]; exact ho⟩
theorem call_isED (C : ExcC X.K D) (hz : Zc cls d oe) (hf : ∃ vs, oe.data = .fields vs) : CallR (X.suite a ((a, oe) :: pn)) (.builtin "isinstance") (rIsED X.K D a cls d) := by
  intro pins s σ H xs us Q I r h
  obtain ⟨c, cv, b, dd, fs, rfl, rfl, rfl, ed, hcv, e, q⟩ := h
  obtain ⟨u1, u2, rfl, r1, r2⟩ := vals2 r
  cases r1
  have ec := hcv.eq r2
  subst ec
  exact PySem.W.kia_one (kitx_excD C.hg C.hk C.hs C.hd C.ha C.hn C.ht C.hm) I.kIn (inst_xd I hz hf ed) e (fun z => nomatch z) fun tk => ⟨.bl b, H, I.kept (t' := tk) fun _ _ z => z, rfl, q⟩
theorem call_isEDT (C : ExcC X.K D) (hz : Zc cls d oe) (hf : ∃ vs, oe.data = .fields vs) : CallR (X.suite a ((a, oe) :: pn)) (.builtin "isinstance") (rIsEDT X.K D a cls d) := by
  intro pins s σ H xs us Q I r h
  obtain ⟨tp, cs, ws, b, dd, fs, rfl, rfl, rfl, ed, hT, hcv, e, q⟩ := h
  obtain ⟨u1, u2, rfl, r1, r2⟩ := vals2 r
  cases r1
  cases (show u2 = Value.ref tp from r2)
  obtain ⟨_, its, rv, o, h1, h2, n, h3⟩ := (show ObjOk X.prog X.w H s.heap tp (.tup cs) from I.hok tp _ hT)
  have e3 := ClsV.all hcv rv
  subst e3
  obtain ⟨oc, od, dt, sl⟩ := o
  simp only at h2 h3
  subst h2 h3
  exact PySem.W.kia_tup (kitx_excD C.hg C.hk C.hs C.hd C.ha C.hn C.ht C.hm) I.kIn (inst_xd I hz hf ed) h1 e (fun z => nomatch z) fun tk => ⟨.bl b, H, I.kept (t' := tk) fun _ _ z => z, rfl, q⟩
end
/-! ### C.m(..) in a try -/
def tSMethS (C : Addr) (sp : Sp) (E : L2.St → XK) (ta : TE) (t : TA) : TE := fun σ H Q => ta σ H fun x H1 => x = .ref C ∧ t σ H1 fun vs H2 => sp vs H2 Q (E σ)
section
variable {X : Cx} {CX : CXT} {k : Nat} {C p g : Addr} {fd : FuncData} {ps : List Str} {mc : Value} {sp : Sp} {E : L2.St → XK} {o e : Expr} {es : List Expr} {m : Str} {pos apos : Pos} {ta : TE} {t : TA} {pl : Sem Bool}
theorem pe_smethS (he : PE X o ta) (r : ClX.CRead X.K C mc) (c : SMet X.K C mc m p g) (F : FnOk X.prog X.w X.K X.mg X.base CX k g fd ps sp) (hr : Room k X.A) (hk : PySem.W.keepIn X.K (.ref g) = true) (hb : Binds X.K fd ps []) (hx : ∀ σ, PassesAt CX X σ (E σ)) (ha : PA X (e :: es) t)
    (hst : starEach (e :: es) X.env = (false, eval e X.env) :: starEach es X.env := by rfl) (hpl : (backTo pos (starEach es X.env)).any (·.1) = false := by rfl)
    (ht : eval (.Call (.Attribute o m apos) (e :: es) [] pos) X.env = (do
      let v ← eval o X.env
      standAt apos.atName
      let (f, first) ← holding [v] (getMethod v m pl)
      callWith pos f first (backTo pos (starEach (e :: es) X.env)) (backToKw pos (keywordEach [] X.env))) := by rfl) :
    PE X (.Call (.Attribute o m apos) (e :: es) [] pos) (tSMethS C sp E ta t) := by
  constructor
  intro pins s σ H Q I h
  refine PySem.W.methodCall_KW (pl := pl) (thn (he.run pins s σ H _ I h) fun u s1 z => ?_) ht
  obtain ⟨x, H1, I1, rx, rfl, q⟩ := z
  cases rx
  obtain ⟨rest, hp⟩ := c.rc
  refine PySem.W.method_cls I1.kIn r.ga ?_
  refine PySem.W.cls_bind I1.kIn r.rd c.at_ (wpAny_call (PySem.W.sm_get (s := { s1 with toks := s1.toks + 1 }) I1.kIn hp (PySem.W.handed_on rfl ?_)))
  have I2 : Inv X pins σ H1 { s1 with toks := s1.toks + 1 } := I1.tok _
  refine PySem.W.callWith_K (first := []) (h₀ := X.base) I2.ok.mod.kin hk (thn (ha.run pos pins _ σ H1 _ I2 q) fun us s3 z => ?_) hst hpl
  obtain ⟨vs, H2, I3, rv, q2⟩ := z
  refine ⟨I3.kIn, ?_⟩
  exact run_fnS F hr hb (hx σ) I3 rv q2
end
end PX
/-! repr of a list with one instance in it, whose class has an own __repr__; repr of data with dicts; repr of scalars. -/
namespace PySem.W
open PySem PySem.Spec PySem.Calls PyProof.Rows PySem.StrLaws
section
variable {prog : Program} {w : World} {A : Around} {E : Value → Shared → Prop} {s : Shared} {K : Frag} {x C f : Addr} {ox : Obj} {od : Option Obj}
theorem boundBy_K {M : Model} {name : Str} {last : Value → List Value → Sem Value} {Q : Option Value → Shared → Prop} (X : K.In s.heap) (I : InstAt s.heap x ox C od) (hs : findIn K (.ref C) name = some (some (.ref f))) (hf : isFn K (.ref f) = true)
    (h : wpAny M A (last (.ref f) [.ref x]) (fun v => Q (some v)) E s) : wpAny M A (callSpecialIfBoundBy? last (.ref x) name) Q E s := by
  simp only [callSpecialIfBoundBy?, bindSpecialIfBound?]
  refine wpAny_holding (wpAny_bind (wpAny_bind (wpAny_bind (I.type.here ((looks_findIn X hs).here ?_)))))
  refine wpAny_bind (wpAny_askSetting (wpAny_ite ?_))
  have fin : wpAny M A (last (.ref f) [.ref x] >>= fun v => pure (some v)) Q E s := wpAny_bind (wpAny_mono h (fun v s' h' => wpAny_pure h') fun _ _ h' => h')
  split
  · exact wpAny_bind ((bind_fn X _ (beq_iff_eq.mp hf)).here (wpAny_pure (by exact fin)))
  · exact wpAny_tryCatch (wpAny_bind ((bind_fn X _ (beq_iff_eq.mp hf)).here (wpAny_pure (by exact fin))))
theorem reprUnder_K {base : Nat} {Q : Str → Shared → Prop} (hb : base ≤ sizeLine) (hu : A.units < cLine) (X : K.In s.heap) (I : InstAt s.heap x ox C od) (hs : findIn K (.ref C) "__repr__" = some (some (.ref f))) (hf : isFn K (.ref f) = true)
    (h : wpAny (model prog w) A (call (.ref f) [.ref x]) (fun v s' => ∃ y t, v = .str y t ∧ Q y s') E s) : wpAny (model prog w) A (pyReprUnder base (.ref x)) Q E s := by
  refine wpAny_pyReprUnder_ref hb ?_
  unfold pyReprObjUnder pyReprObjBy
  refine wpAny_bind (wpAny_cRoomFor hu ?_)
  refine wpAny_bind (wpAny_bind (I.type.here ((looks_findIn X hs).here ?_)))
  show wpAny _ _ (if (some (Value.ref f)).isNone = true then _ else _) _ _ _
  rw [if_neg (by simp)]
  refine wpAny_bind (m := callSpecialIfBoundBy? _ (.ref x) (Str.ofString "__repr__")) (boundBy_K X I hs hf ?_)
  show wpAny _ _ (call (.ref f) ([Value.ref x] ++ [])) _ _ _
  refine wpAny_mono h (fun r s' hr => ?_) fun _ _ y => y
  obtain ⟨y, t, rfl, hq⟩ := hr
  refine wpAny_bind (wpAny_isInstance (typeIs_str _ _ _) isSubtype_str_str ?_)
  first
    | exact wpAny_pure ⟨_, _, rfl, hq⟩
    | (rw [if_pos rfl]; exact wpAny_pure ⟨_, _, rfl, hq⟩)
    | (simp only [if_true]; exact wpAny_pure ⟨_, _, rfl, hq⟩)
end
end PySem.W
namespace PX
open PySem PySem.Spec PyProof.Rows L2
theorem loop_depth {A : Around} {args : Args} : (A.under (.builtin "list.__repr__.loop" args)).depth ≤ A.depth + 1 := by
  first | exact Nat.le_refl _ | simp [Around.under, Code.weight, Code.isCreation, Code.isGuard, Code.isCaller, Code.frames, Code.isFrame, guardIds]
theorem Room.loop {k : Nat} {A : Around} (r : Room (k + 1) A) (args : Args) : Room k (A.under (.builtin "list.__repr__.loop" args)) :=
  ⟨r.hd, by have := r.dp; have := @loop_depth A args; omega, by have := r.un; rw [units_under_list_loop]; omega⟩
theorem RoomH.loop {k : Nat} {A : Around} (r : L2H.RoomH (k + 1) A) (args : Args) : L2H.RoomH k (A.under (.builtin "list.__repr__.loop" args)) :=
  ⟨by have := r.dp; have := @loop_depth A args; omega, by have := r.un; rw [units_under_list_loop]; omega⟩
theorem RoomH.in1 {k : Nat} {A : Around} (r : L2H.RoomH (k + 1) A) : L2H.RoomH k A.in1 :=
  ⟨by have := r.dp; show A.depth + 3 * k + 5 < _; omega, by have := r.un; show A.units + 1 + 16 * k + 200 < _; omega⟩
theorem Env0.loop {P : Program} {w : World} {K : PySem.W.Frag} {mg : Str → Option Value} {base : Heap} {A : Around} {outer : List Env} {s : Shared} {H : Hp} (e : Env0 P w K mg base A outer s H) (args : Args) :
    Env0 P w K mg base (A.under (.builtin "list.__repr__.loop" args)) outer s H :=
  ⟨by first | exact e.frames | (simpa [Around.under, Code.envs, Code.isFrame, pushEnvs] using e.frames), e.mod, e.bs, e.bsz, e.funs, e.frf, e.hok, e.bare⟩
/-! ### a def's promise where anything may be handled -/
structure FnP (P : Program) (w : World) (K : PySem.W.Frag) (mg : Str → Option Value) (base : Heap) (CX : CXT) (k : Nat) (f : Addr) (fd : FuncData) (ps : List Str) (sp : Sp) : Prop where
  len : ∀ vs H Q E, sp vs H Q E → vs.length = ps.length
  run : ∀ (A : Around) (outer : List Env) (s : Shared) (H : Hp) (args : Args) (us : List Value) (vs : List V) (Q : VK) (E : XK) (p : Addr × Obj), L2H.RoomH k A → L2H.PinOk outer H s p → Env0 P w K mg base A outer s H → BindsTo s fd args (ps.zip us) → Vals vs us → sp vs H Q E →
    codeAny (model P w) A (.call (.ref f) args) (CR CX outer P w H s Q E) s
theorem fn_ofP {CX : CXT} {P : Program} {w : World} {K : PySem.W.Frag} {mg : Str → Option Value} {base : Heap} {k : Nat} {f : Addr} {name qual : Str} {params : Arguments} {body : List Stmt} {scope : Scope} {dV kV doc pm cdv ct oc : Value} {an od : Option Addr}
    {osl : Array (Option Value)} {N ps : List Str} {sp : Sp} (lk : K.lookup f = some ⟨oc, od, .func (PySem.W.fnOf name qual params body scope dV kV doc pm an cdv ct), osl⟩) (hcd : PySem.W.codeIn K cdv qual = true) (S : FnScope N ps scope)
    (len : ∀ vs H Q E, sp vs H Q E → vs.length = ps.length)
    (hbody : ∀ (A : Around) (outer : List Env) (s : Shared) (H : Hp) (vs : List V) (Q : VK) (E : XK) (p : Addr × Obj), L2H.RoomH k (A.deeper (envOfC qual scope s.heap.objs.size f cdv)) → sp vs H Q E →
      ∃ t, PSs (L2H.cxH CX P w K mg base N qual scope f cdv A outer s H E p) body t ∧ t { nx := fun _ H' => Q .non H', rt := Q } (L2.start N vs) H) :
    FnP P w K mg base CX (k + 1) f (PySem.W.fnOf name qual params body scope dV kV doc pm an cdv ct) ps sp := by
  refine ⟨len, fun A outer s H args us vs Q E p hr hpin e0 hb r hsp => ?_⟩
  have hl := len _ _ _ _ hsp
  have KX : K.In s.heap := e0.mod.kin.keeps fun b o e => (e0.bs b o e).1
  have lim : s.heap.NoLimit := e0.mod.nolimit.keeps fun b o e => (e0.bs b o e).1
  have hkind : ∀ y ∈ ps.zip us, scope.names.lookup y.1 = some .local ∨ (scope.names.lookup y.1 = some .cell ∧ ((cellsFrom (s.heap.objs.size + 1) scope.names []).lookup y.1).isSome = true) := fun ⟨n, v⟩ hy => by
    rcases S.par n (List.of_mem_zip hy).1 with q | q
    · exact .inl q
    · exact .inr ⟨q, PySem.W.cellsFrom_some _ _ _ (.inl q)⟩
  refine codeAny_call_function hr.depth (KX _ _ lk) rfl S.co S.gen rfl (PySem.W.codeRec_of KX hcd) (hb _ _ _ _ ?_)
  refine wpAny_newFunctionEnv_cells S.kind hkind fun env he s1 x => ?_
  subst he
  refine ⟨lim.keeps x.toInCall.keep, codeAny_func ?_⟩
  obtain ⟨t, ht, hq⟩ := hbody A outer s H vs Q E p (hr.deeper _) hsp
  have I : Inv (L2H.cxH CX P w K mg base N qual scope f cdv A outer s H E p) [] (L2.start N vs) H s1 := L2H.inv_startH S hpin e0 hl r x
  refine wpAny_mono (ht.run [] s1 (L2.start N vs) H _ I hq) (fun fl s' hs => ?_) fun e s' hs => hs
  have fin : ∀ {σ' : L2.St} {H' : Hp} {v : V} {u : Value}, Inv (L2H.cxH CX P w K mg base N qual scope f cdv A outer s H E p) [] σ' H' s' → RelV v u → Q v H' → CE outer P w H s Q u s' :=
    fun {σ' H' v u} J rv q => ⟨v, H', J.os, J.bare, J.base, J.hok, rv, q⟩
  cases fl with
  | ret u =>
    obtain ⟨v, σ', H', J, rv, q⟩ := hs
    exact fin J rv q
  | next =>
    obtain ⟨σ', H', J, q⟩ := hs
    exact fin (v := V.non) (u := Value.none) J rfl q
  | brk =>
    obtain ⟨_, _, _, q⟩ := hs
    exact False.elim q
  | cont =>
    obtain ⟨_, _, _, q⟩ := hs
    exact False.elim q
/-- f runs at B as sp says -/
def RunsAt (X : Cx) (f : Addr) (sp : Sp) (E : XK) (B : Around) : Prop :=
  ∀ (pins : List (Addr × Obj)) (s : Shared) (σ : L2.St) (H : Hp) (Q : VK) (Er : Value → Shared → Prop) (vs : List V) (us : List Value), Inv X pins σ H s → Env0 X.prog X.w X.K X.mg X.base B X.stack s H → Vals vs us → sp vs H Q E → wpAny (model X.prog X.w) B (call (.ref f) us) (EP X pins σ Q) Er s
theorem RunsAt.ofOk {X : Cx} {CX : CXT} {k : Nat} {f : Addr} {fd : FuncData} {ps : List Str} {sp : Sp} {E : XK} {B : Around} (F : FnOk X.prog X.w X.K X.mg X.base CX k f fd ps sp) (hB : Room k B) (hb : Binds X.K fd ps []) (hx : Passes CX X.nox E) : RunsAt X f sp E B :=
  fun _ _ _ _ _ _ _ _ I eB r h => own_run hB eB F hb hx I r h
theorem RunsAt.ofP {X : Cx} {CX : CXT} {k : Nat} {f : Addr} {fd : FuncData} {ps : List Str} {sp : Sp} {E : XK} {B : Around} {p : Addr × Obj} (F : FnP X.prog X.w X.K X.mg X.base CX k f fd ps sp) (hp : p ∈ X.pn) (hB : L2H.RoomH k B) (hb : Binds X.K fd ps []) (hx : Passes CX X.nox E) : RunsAt X f sp E B := by
  intro pins s σ H Q Er vs us I eB r h
  have hl : us.length = ps.length := r.length.symm.trans (F.len _ _ _ _ h)
  have hz := hb s us I.kIn (by rw [List.append_nil]; exact hl)
  rw [List.append_nil] at hz
  have P1 := I.pin p (List.mem_append_left _ hp)
  have hpin : L2H.PinOk X.stack H s p := ⟨P1.1, P1.2.1, fun hm => (List.mem_cons.mp (I.stkSub p.1 hm)).elim P1.2.2.1 P1.2.2.2.1, P1.2.2.2.2⟩
  refine wpAny_call (codeAny_mono (F.run B X.stack s H ⟨us, []⟩ us vs Q E p hB hpin eB hz r h) fun res s' hq => ?_)
  match res, hq with
  | .error er, hq => exact (hx pins σ H s er s' (I.wish _) hq).elim
  | .ok (.ret u), hq => exact I.after hq
  | .ok .next, hq => exact hq.elim
  | .ok .brk, hq => exact hq.elim
  | .ok .cont, hq => exact hq.elim
section
variable {X : Cx} {C f : Addr} {sp : Sp} {E : XK}
/-- repr([x]), x an instance with an own __repr__ -/
theorem call_reprL1 (M : OwnM X.K C "__repr__" f) (R : ∀ args, RunsAt X f sp E (X.A.in1.under (.builtin "list.__repr__.loop" args))) (hu : X.A.units + 64 < cLine) (hg : NoG X.A) :
    CallR X (.builtin "repr") (fun xs H Q => ∃ (l a dx : Addr) (fs : List (Str × V)), xs = [.ref l] ∧ SqL X.K H l [.ref a] ∧ H a = some (.ins C dx fs) ∧
      ∀ p, H p = none → sp [.ref a] (upd H p (.lst [])) (fun v H' => ∃ z : Str, v = .str z ∧ H' = upd H p (.lst []) ∧ z.length ≤ 1000000 ∧ Q (.str (listText [z])) (upd H p (.lst [.str z]))) E) := by
  intro pins s σ H xs us Q I r h
  obtain ⟨l, a, dx, fs, rfl, hl, ea, q⟩ := h
  obtain ⟨u0, rfl, rx⟩ := vals1 r
  cases rx
  obtain ⟨its, rv, ⟨o, n, ho, hc, hod, hd⟩, _⟩ := I.list hl
  obtain ⟨ua, rfl, ra⟩ := vals1 rv
  cases ra
  have nP := I.fresh
  have q := q _ nP
  refine call_repr_slot (by omega) ⟨o, ho, hc⟩ F.slot_list_repr.toG ?_
  refine wpAny_call (codeAny_call_builtin F.slot_list_repr.plain F.entry_list_repr (F.slot_list_repr.check _ _ _ _ _ _ _ _ ⟨o, ho, hc⟩ (F.args_list_repr_1 _) ?_))
  refine wpAny_list_repr_head (A := X.A.in1.in1) (g := []) hg (fun _ _ _ hm => nomatch hm) ho hd ?_
  refine wpAny_bind (m := newList []) (wpAny_newObj_type ?_)
  refine wpAny_pure ⟨F.quiet_list_repr_loop _, ?_⟩
  have I1 := I.lnew (t' := s.toks) (ys := []) (its := []) .nil (by show 0 ≤ sizeLine; decide)
  have hl1 : (s.heap.push { cls := .type "list", data := .seq #[] }).get? l = some o := Heap.get?_push_of_some _ ho
  refine codeAny_builtin F.entry_list_repr_loop ?_
  show wpAny _ _ (Builtin.«list.__repr__.loop» ⟨[.ref l, .int (0 : Nat) 0, .ref s.heap.objs.size, .int ((0 : Nat) : Int) 0], []⟩) _ _ _
  rw [repr_loop_tree]
  refine wpAny_bind (wpAny_listItems hl1 hd ?_)
  have hnP : a ≠ s.heap.objs.size := ne_of_none ea nP
  have ea1 : (upd H s.heap.objs.size (.lst [])) a = some (.ins C dx fs) := by rw [upd_ne hnP]; exact ea
  obtain ⟨mA, O, _⟩ := ins_get I1.hok ea1
  obtain ⟨od, J, _⟩ := O.look
  refine wpAny_bind (wpAny_holding (PySem.W.reprUnder_K (by rw [sizeLine_eq]; decide) (by rw [units_under_list_loop]; show _ + 1 + 1 < _; omega) I1.kIn J M.at_ M.fn ?_))
  refine wpAny_mono (R _ _ _ _ _ _ _ [.ref a] _ I1 (Env0.loop I1.env0.in1 _) (.cons rfl .nil) q) (fun u s2 z => ?_) fun _ _ z => z
  obtain ⟨v, H2, I2, ru, z, ev, rfl, hz, q2⟩ := z
  subst ev
  obtain ⟨t, rfl⟩ := ru
  refine ⟨z, t, rfl, ?_⟩
  refine wpAny_bind (wpAny_mkStr ?_ (by rw [sizeLine_eq]; omega))
  refine wpAny_bind ?_
  show wpAny _ _ (updateSeq s.heap.objs.size _) _ _ _
  obtain ⟨_, its2, n2, r2, _, e2⟩ := I2.lstM upd_same
  cases r2
  refine wpAny_updateSeq e2 rfl (wpAny_pure ⟨F.quiet_list_repr_loop _, ?_⟩) (by rw [sizeLine_eq]; decide)
  have hlen : (listText [z]).length ≤ sizeLine := by
    have e1 : (("[" : String) : Str).length = 1 := rfl
    have e2 : (("]" : String) : Str).length = 1 := rfl
    show (("[" : Str) ++ (if 0 > 0 then ", " else "" : String) ++ z ++ "]").length ≤ _
    rw [strLen_append, strLen_append, strLen_append, e1, e2, sizeLine_eq]
    have e3 : (((if 0 > 0 then ", " else "" : String) : String) : Str).length = 0 := rfl
    rw [e3]
    omega
  have I3 := I2.lset (its' := [.str z s2.toks]) (ys := [.str z]) (f := (·.push (.str z s2.toks))) (t' := s2.toks + 1) upd_same e2 (by rfl) (.cons ⟨_, rfl⟩ .nil) (by show 1 ≤ sizeLine; decide)
  rw [upd_upd] at I3
  have st : Same H (upd H s.heap.objs.size (.lst [.str z])) := Same.mk1 nP
  obtain ⟨its3, rv3, ⟨o3, n3, ho3, hc3, _, hd3⟩, _⟩ := I3.list (sqL_same st hl)
  obtain ⟨_, its4, n4, r4, _, e4⟩ := I3.lstM upd_same
  obtain ⟨ua4, rfl, tk4, rfl⟩ := vals1 r4
  obtain ⟨ua3, rfl, ra3⟩ := vals1 rv3
  cases ra3
  refine codeAny_builtin F.entry_list_repr_loop ?_
  show wpAny _ _ (Builtin.«list.__repr__.loop» ⟨[.ref l, .int ((0 : Nat) + 1) 0, .ref s.heap.objs.size, .int (0 + (z.length + 2) : Nat) 0], []⟩) _ _ _
  rw [repr_loop_tree]
  refine wpAny_bind (wpAny_listItems ho3 hd3 ?_)
  show wpAny _ _ (reprEnd (.ref s.heap.objs.size)) _ _ _
  unfold reprEnd
  refine wpAny_bind (wpAny_listItems e4 rfl ?_)
  have ef : (forIn (([.str z tk4] : List Value).zipIdx) ("[" : Str) reprBody : Sem Str) = pure (textFrom 0 "[" [z]) := repr_fold [(z, tk4)] 0 "["
  rw [ef]
  refine wpAny_bind (wpAny_pure ?_)
  refine wpAny_bind (wpAny_mkStr (wpAny_pure ?_) hlen)
  exact ⟨_, _, rfl, .str (listText [z]), _, I3.tok _, ⟨_, rfl⟩, q2⟩
/-- repr of what is no object -/
def scT : V → Option Str
  | .non => some "None"
  | .bl b => some (if b then "True" else "False")
  | .int i => if i.natAbs.log2 < 1920 then some (toString i) else none
  | .str x => if (reprText x).length ≤ sizeLine then some (reprText x) else none
  | _ => none
theorem call_reprSc : CallR X (.builtin "repr") (fun xs H Q => ∃ (v : V) (t : Str), xs = [v] ∧ scT v = some t ∧ Q (.str t) H) := by
  intro pins s σ H xs us Q I r h
  obtain ⟨v, t, rfl, ht, q⟩ := h
  obtain ⟨u, rfl, ru⟩ := vals1 r
  cases v with
  | non =>
    cases ht
    cases ru
    exact PySem.P.repr_of_none ⟨.str _, H, I.tok _, ⟨_, rfl⟩, q⟩
  | bl b =>
    cases ht
    cases ru
    exact PySem.P.repr_of_bool ⟨.str _, H, I.tok _, ⟨_, rfl⟩, q⟩
  | int i =>
    obtain ⟨k, rfl⟩ := ru
    have ht : (if i.natAbs.log2 < 1920 then some (toString i : Str) else none) = some t := ht
    split at ht
    · rename_i hi
      cases ht
      exact PySem.P.repr_of_int hi ⟨.str _, H, I.tok _, ⟨_, rfl⟩, q⟩
    · cases ht
  | str x =>
    obtain ⟨k, rfl⟩ := ru
    have ht : (if (reprText x).length ≤ sizeLine then some (reprText x) else none) = some t := ht
    split at ht
    · rename_i hi
      cases ht
      exact PySem.P.repr_of_str ⟨.str _, H, I.tok _, ⟨_, rfl⟩, q⟩ hi
    · cases ht
  | _ => cases ht
/-- repr({x: i}) -/
theorem call_reprD1 (hu : X.A.units + 64 < cLine) (hg : NoG X.A) : CallR X (.builtin "repr") (fun xs H Q => ∃ (a : Addr) (x : Str) (i : Int), xs = [.ref a] ∧ H a = some (.dK [(Sum.inr x, .int i)]) ∧ (PyData.dict [(.str x, .int i)]).showable = true ∧ (PyData.dict [(.str x, .int i)]).shown.length ≤ sizeLine ∧ Q (.str (PyData.dict [(.str x, .int i)]).shown) H) := by
  intro pins s σ H xs us Q I r h
  obtain ⟨a, x, i, rfl, ea, hs, hz, q⟩ := h
  obtain ⟨u, rfl, ru⟩ := vals1 r
  cases ru
  obtain ⟨_, hsys, vs, kv, o, es, ep, ho, hc, hd, _, hp, _⟩ := dk_of I.hok ea
  cases kv with
  | @cons _ p _ ps hq t =>
    cases t
    obtain ⟨p1, p2⟩ := p
    obtain ⟨e1, tk, e2⟩ := hq
    dsimp only at e1 e2
    subst e1 e2
    have rd : Reads s.heap (.ref a) (.dict [(.str x, .int i)]) ([a] ++ []) := by
      generalize hes : es.toList = l at hp
      cases hp with
      | @cons e _ l' _ h1 h2 h3 =>
        cases h3
        obtain ⟨t1, e1⟩ := Value.isStrOf_shape (x := x) (v := e.key) h1
        refine Reads.dict (as := []) (bs := []) ho hc.1 hd ?_ ?_
        · rw [hes]
          show ReadsAll _ [e.key] [.str x] ([] ++ [])
          rw [e1]
          exact .cons (.str x t1) .nil
        · rw [hes]
          show ReadsAll _ [e.val] [.int i] ([] ++ [])
          rw [h2]
          exact .cons (.int i tk) .nil
    exact repr_of_reads' rd hs (fun _ hm => by
      rw [List.append_nil, List.mem_singleton] at hm
      rw [← hm] at hsys
      cases hsys) hg (by show _ + (PyData.depth _ + 1) < _; simp only [PyData.depth, PyData.depthKv]; omega) (fun _ _ e => e) (fun h' u tk kp => ⟨.str _, H, I.kept kp, ⟨u, rfl⟩, q⟩) hz
/-- repr(x) by the class's own method -/
theorem call_reprI (M : OwnM X.K C "__repr__" f) (R : RunsAt X f sp E X.A.in1) (hu : X.A.units + 64 < cLine) :
    CallR X (.builtin "repr") (fun xs H Q => ∃ (a dx : Addr) (fs : List (Str × V)), xs = [.ref a] ∧ H a = some (.ins C dx fs) ∧ sp [.ref a] H (fun v H' => ∃ z : Str, v = .str z ∧ Q (.str z) H') E) := by
  intro pins s σ H xs us Q I r h
  obtain ⟨a, dx, fs, rfl, ea, q⟩ := h
  obtain ⟨u0, rfl, rx⟩ := vals1 r
  cases rx
  obtain ⟨mA, O, _⟩ := ins_get I.hok ea
  obtain ⟨od, J, _⟩ := O.look
  obtain ⟨m, hF⟩ := I.fr
  refine PySem.W.repr_K (by show X.A.units + 1 < _; omega) hF I.ok.mod.kin J M.at_ M.fn ?_
  refine wpAny_mono (R _ _ _ _ _ _ [.ref a] _ I I.env0.in1 (.cons rfl .nil) q) (fun u s' z => ?_) fun _ _ z => z
  obtain ⟨v, H', I', rv, y, ev, q'⟩ := z
  subst ev
  obtain ⟨t, rfl⟩ := rv
  exact ⟨.str y, H', I', ⟨t, rfl⟩, q'⟩
/-- repr of data without dicts -/
theorem call_reprDt (hu : X.A.units + 64 < cLine) (hg : NoG X.A) : CallR X (.builtin "repr") (rRepr X.K) := by
  intro pins s σ H xs us Q I r h
  obtain ⟨a, d, rfl, hd, hs, hn, hp, hz, q⟩ := h
  obtain ⟨u, rfl, ru⟩ := vals1 r
  obtain ⟨as, rd⟩ := Dp.reads I d _ u hd ru
  obtain rfl : u = Value.ref a := ru
  exact repr_of_reads' rd hs (PyData.noDict_hsm hn) hg (by omega) (fun _ _ e => e) (fun h' u tk kp => ⟨.str d.shown, H, I.kept kp, ⟨u, rfl⟩, q⟩) hz
end
/-! ### any value -/
/-- t is the text of v -/
inductive ShV (K : PySem.W.Frag) (C : Addr) (H : Hp) : V → Str → Prop
  | sc {v : V} {t : Str} : scT v = some t → ShV K C H v t
  | dat {a : Addr} {d : PyData} : Dp K H (.ref a) d → d.showable = true → d.hasDict = false → d.depth ≤ 60 → d.shown.length ≤ sizeLine → ShV K C H (.ref a) d.shown
  | dic {a : Addr} {x : Str} {i : Int} : H a = some (.dK [(Sum.inr x, .int i)]) → (PyData.dict [(.str x, .int i)]).showable = true → (PyData.dict [(.str x, .int i)]).shown.length ≤ sizeLine → ShV K C H (.ref a) (PyData.dict [(.str x, .int i)]).shown
  | rul {a : Addr} {r : RT} : RuleAt C H r a → r.text.length ≤ 900000 → ShV K C H (.ref a) ("Rule(" ++ r.text ++ ")")
  | rli {l a : Addr} {r : RT} : SqL K H l [.ref a] → RuleAt C H r a → r.text.length ≤ 900000 → ShV K C H (.ref l) (listText ["Rule(" ++ r.text ++ ")"])
theorem ShV.same {K : PySem.W.Frag} {C : Addr} {H H' : Hp} {v : V} {t : Str} (s : Same H H') (h : ShV K C H v t) : ShV K C H' v t := by
  cases h with
  | sc e => exact .sc e
  | dat h1 h2 h3 h4 h5 => exact .dat (dp_same s _ _ h1) h2 h3 h4 h5
  | dic h1 h2 h3 => exact .dic (s _ _ h1) h2 h3
  | rul h1 h2 => exact .rul (h1.same s) h2
  | rli h1 h2 h3 => exact .rli (sqL_same s h1) (h2.same s) h3
/-- what Rule.__repr__ promises -/
def spRepr (C : Addr) : Sp := fun vs H Q _ => ∃ (a : Addr) (r : RT), vs = [.ref a] ∧ RuleAt C H r a ∧ r.text.length ≤ 1000000 ∧ Q (.str ("Rule(" ++ r.text ++ ")")) H
def rReprV (K : PySem.W.Frag) (C : Addr) : List V → Hp → VK → Prop := fun xs H Q => ∃ (v : V) (t : Str), xs = [v] ∧ ShV K C H v t ∧ ∀ H', Same H H' → Q (.str t) H'
theorem call_reprV {X : Cx} {C f : Addr} {E : XK} (M : OwnM X.K C "__repr__" f) (R1 : RunsAt X f (spRepr C) E X.A.in1) (R2 : ∀ args, RunsAt X f (spRepr C) E (X.A.in1.under (.builtin "list.__repr__.loop" args))) (hu : X.A.units + 64 < cLine) (hg : NoG X.A) :
    CallR X (.builtin "repr") (rReprV X.K C) := by
  intro pins s σ H xs us Q I r h
  obtain ⟨v, t, rfl, hv, q⟩ := h
  cases hv with
  | sc e => exact call_reprSc pins s σ H _ us Q I r ⟨v, t, rfl, e, q _ (Same.refl _)⟩
  | dat h1 h2 h3 h4 h5 => exact call_reprDt hu hg pins s σ H _ us Q I r ⟨_, _, rfl, h1, h2, h3, h4, h5, q _ (Same.refl _)⟩
  | dic h1 h2 h3 => exact call_reprD1 hu hg pins s σ H _ us Q I r ⟨_, _, _, rfl, h1, h2, h3, q _ (Same.refl _)⟩
  | @rul a rt h1 h2 =>
    obtain ⟨op, nm, dx, t, f, b, ns, e1, _⟩ := h1.fields
    exact call_reprI M R1 hu pins s σ H _ us Q I r ⟨_, _, _, rfl, e1, a, rt, rfl, h1, by omega, _, rfl, q _ (Same.refl _)⟩
  | @rli l a rt h1 h2 h3 =>
    obtain ⟨op, nm, dx, t, f, b, ns, e1, _⟩ := h2.fields
    refine call_reprL1 M R2 hu hg pins s σ H _ us Q I r ⟨_, _, _, _, rfl, h1, e1, fun p np => ⟨a, rt, rfl, h2.same (Same.mk1 np), by omega, _, rfl, rfl, ?_, q _ (Same.mk1 np)⟩⟩
    have e1 : (("Rule(" : String) : Str).length = 5 := rfl
    have e3 : ((")" : String) : Str).length = 1 := rfl
    rw [strLen_append, strLen_append, e1, e3]
    omega
end PX
namespace PX
open PySem PySem.Spec PyProof.Rows L2
theorem FnOk.or {P : Program} {w : World} {K : PySem.W.Frag} {mg : Str → Option Value} {base : Heap} {CX : CXT} {k : Nat} {f : Addr} {fd : FuncData} {ps : List Str} {sp sp' : Sp} (F : FnOk P w K mg base CX k f fd ps sp) (F' : FnOk P w K mg base CX k f fd ps sp') : FnOk P w K mg base CX k f fd ps (fun vs H Q E => sp vs H Q E ∨ sp' vs H Q E) :=
  ⟨fun vs H Q E h => h.elim (F.len vs H Q E) (F'.len vs H Q E), fun A outer s H args us vs Q E hr e0 hb r h => h.elim (F.run A outer s H args us vs Q E hr e0 hb r) (F'.run A outer s H args us vs Q E hr e0 hb r)⟩
end PX
namespace PX
open PySem PySem.Spec PyProof.Rows L2
def top (i : Nat) : Stmt := PySem.Challenge.pw_dictorders_k02_names_of_bases.main.body.getD i (.Pass ⟨0, 0, 0, 0⟩)
abbrev s_BadName_init : Stmt := inClass (top 1) 0
abbrev N_BadName_init : List Str := ["self", "name"]
theorem sc_BadName_init : FnScope N_BadName_init ["self", "name"] (defScope s_BadName_init) := ⟨rfl, rfl, rfl, by decide +kernel, rfl, by decide +kernel, by decide +kernel⟩
abbrev s_is_name : Stmt := top 8
abbrev N_is_name : List Str := ["value", "letter"]
theorem sc_is_name : FnScope N_is_name ["value"] (defScope s_is_name) := ⟨rfl, rfl, rfl, by decide +kernel, rfl, by decide +kernel, by decide +kernel⟩
abbrev s_names_in : Stmt := top 13
abbrev N_names_in : List Str := ["rules", "rule", "name"]
theorem sc_names_in : FnScope N_names_in ["rules"] (defScope s_names_in) := ⟨rfl, rfl, rfl, by decide +kernel, rfl, by decide +kernel, by decide +kernel⟩
abbrev s_Rule_init : Stmt := inClass (top 14) 2
abbrev N_Rule_init : List Str := ["self", "operation", "name", "operands", "part", "word"]
theorem sc_Rule_init : FnScope N_Rule_init ["self", "operation", "name", "operands"] (defScope s_Rule_init) := ⟨rfl, rfl, rfl, by decide +kernel, rfl, by decide +kernel, by decide +kernel⟩
abbrev s_Rule_len : Stmt := inClass (top 14) 4
abbrev N_Rule_len : List Str := ["self"]
theorem sc_Rule_len : FnScope N_Rule_len ["self"] (defScope s_Rule_len) := ⟨rfl, rfl, rfl, by decide +kernel, rfl, by decide +kernel, by decide +kernel⟩
abbrev s_Rule_str : Stmt := inClass (top 14) 10
abbrev N_Rule_str : List Str := ["self"]
theorem sc_Rule_str : FnScope N_Rule_str ["self"] (defScope s_Rule_str) := ⟨rfl, rfl, rfl, by decide +kernel, rfl, by decide +kernel, by decide +kernel⟩
abbrev s_Rule_repr : Stmt := inClass (top 14) 11
abbrev N_Rule_repr : List Str := ["self"]
theorem sc_Rule_repr : FnScope N_Rule_repr ["self"] (defScope s_Rule_repr) := ⟨rfl, rfl, rfl, by decide +kernel, rfl, by decide +kernel, by decide +kernel⟩
abbrev s_Rule_word : Stmt := inClass (top 14) 12
abbrev N_Rule_word : List Str := ["self"]
theorem sc_Rule_word : FnScope N_Rule_word ["self"] (defScope s_Rule_word) := ⟨rfl, rfl, rfl, by decide +kernel, rfl, by decide +kernel, by decide +kernel⟩
abbrev s_Rule_names : Stmt := inClass (top 14) 13
abbrev N_Rule_names : List Str := ["self"]
theorem sc_Rule_names : FnScope N_Rule_names ["self"] (defScope s_Rule_names) := ⟨rfl, rfl, rfl, by decide +kernel, rfl, by decide +kernel, by decide +kernel⟩
abbrev s_Rule_parts : Stmt := inClass (top 14) 14
abbrev N_Rule_parts : List Str := ["self"]
theorem sc_Rule_parts : FnScope N_Rule_parts ["self"] (defScope s_Rule_parts) := ⟨rfl, rfl, rfl, by decide +kernel, rfl, by decide +kernel, by decide +kernel⟩
abbrev s_base : Stmt := top 16
abbrev N_base : List Str := ["name"]
theorem sc_base : FnScope N_base ["name"] (defScope s_base) := ⟨rfl, rfl, rfl, by decide +kernel, rfl, by decide +kernel, by decide +kernel⟩
abbrev s_law_bag : Stmt := top 29
abbrev N_law_bag : List Str := ["_law_script", "_law_at", "_law_cell", "_law_great"]
theorem sc_law_bag : FnScope N_law_bag ["_law_script", "_law_at"] (defScope s_law_bag) := ⟨rfl, rfl, rfl, by decide +kernel, rfl, by decide +kernel, by decide +kernel⟩
abbrev s_law_take : Stmt := top 30
abbrev N_law_take : List Str := ["_law_bag_here", "_law_many", "_law_digit", "_law_mixed"]
theorem sc_law_take : FnScope N_law_take ["_law_bag_here", "_law_many"] (defScope s_law_take) := ⟨rfl, rfl, rfl, by decide +kernel, rfl, by decide +kernel, by decide +kernel⟩
abbrev s_law_is_name : Stmt := top 31
abbrev N_law_is_name : List Str := ["_law_thing", "_law_sign"]
theorem sc_law_is_name : FnScope N_law_is_name ["_law_thing"] (defScope s_law_is_name) := ⟨rfl, rfl, rfl, by decide +kernel, rfl, by decide +kernel, by decide +kernel⟩
abbrev s_law_string : Stmt := top 32
abbrev N_law_string : List Str := ["_law_bag_here", "_law_signs", "_law_k"]
theorem sc_law_string : FnScope N_law_string ["_law_bag_here"] (defScope s_law_string) := ⟨rfl, rfl, rfl, by decide +kernel, rfl, by decide +kernel, by decide +kernel⟩
abbrev s_law_outcome : Stmt := top 33
abbrev N_law_outcome : List Str := ["_law_deed", "_law_found", "e", "_law_shown"]
theorem sc_law_outcome : FnScope N_law_outcome ["_law_deed"] (defScope s_law_outcome) := ⟨rfl, rfl, rfl, by decide +kernel, rfl, by decide +kernel, by decide +kernel⟩
abbrev s_law : Stmt := top 34
abbrev N_law : List Str := ["_law_script", "_law_things", "_law_at", "_law_bag_here", "_law_thing", "_law_turn", "_law_due"]
theorem sc_law : FnScope N_law ["_law_script"] (defScope s_law) := ⟨rfl, rfl, rfl, by decide +kernel, rfl, by decide +kernel, by decide +kernel⟩
/-- what the top has made, as far as it is asked -/
structure Txt (K : PySem.W.Frag) (mg : Str → Option Value) where
  f_BadName_init : Addr
  d_BadName_init : FuncData
  F_BadName_init : Fun K "__init__" "BadName.__init__" s_BadName_init f_BadName_init d_BadName_init
  b_BadName_init : Binds K d_BadName_init ["self", "name"] []
  f_is_name : Addr
  d_is_name : FuncData
  F_is_name : Fun K "is_name" "is_name" s_is_name f_is_name d_is_name
  m_is_name : mg "is_name" = some (.ref f_is_name)
  b_is_name : Binds K d_is_name ["value"] []
  f_names_in : Addr
  d_names_in : FuncData
  F_names_in : Fun K "names_in" "names_in" s_names_in f_names_in d_names_in
  m_names_in : mg "names_in" = some (.ref f_names_in)
  b_names_in : Binds K d_names_in ["rules"] []
  f_Rule_init : Addr
  d_Rule_init : FuncData
  F_Rule_init : Fun K "__init__" "Rule.__init__" s_Rule_init f_Rule_init d_Rule_init
  b_Rule_init : Binds K d_Rule_init ["self", "operation", "name", "operands"] []
  f_Rule_len : Addr
  d_Rule_len : FuncData
  F_Rule_len : Fun K "__len__" "Rule.__len__" s_Rule_len f_Rule_len d_Rule_len
  b_Rule_len : Binds K d_Rule_len ["self"] []
  f_Rule_str : Addr
  d_Rule_str : FuncData
  F_Rule_str : Fun K "__str__" "Rule.__str__" s_Rule_str f_Rule_str d_Rule_str
  b_Rule_str : Binds K d_Rule_str ["self"] []
  f_Rule_repr : Addr
  d_Rule_repr : FuncData
  F_Rule_repr : Fun K "__repr__" "Rule.__repr__" s_Rule_repr f_Rule_repr d_Rule_repr
  b_Rule_repr : Binds K d_Rule_repr ["self"] []
  f_Rule_word : Addr
  d_Rule_word : FuncData
  F_Rule_word : Fun K "word" "Rule.word" s_Rule_word f_Rule_word d_Rule_word
  b_Rule_word : Binds K d_Rule_word ["self"] []
  f_Rule_names : Addr
  d_Rule_names : FuncData
  F_Rule_names : Fun K "names" "Rule.names" s_Rule_names f_Rule_names d_Rule_names
  b_Rule_names : Binds K d_Rule_names ["self"] []
  f_Rule_parts : Addr
  d_Rule_parts : FuncData
  F_Rule_parts : Fun K "parts" "Rule.parts" s_Rule_parts f_Rule_parts d_Rule_parts
  b_Rule_parts : Binds K d_Rule_parts ["self"] []
  f_base : Addr
  d_base : FuncData
  F_base : Fun K "base" "base" s_base f_base d_base
  m_base : mg "base" = some (.ref f_base)
  b_base : Binds K d_base ["name"] []
  f_law_bag : Addr
  d_law_bag : FuncData
  F_law_bag : Fun K "_law_bag" "_law_bag" s_law_bag f_law_bag d_law_bag
  m_law_bag : mg "_law_bag" = some (.ref f_law_bag)
  b_law_bag : Binds K d_law_bag ["_law_script", "_law_at"] []
  f_law_take : Addr
  d_law_take : FuncData
  F_law_take : Fun K "_law_take" "_law_take" s_law_take f_law_take d_law_take
  m_law_take : mg "_law_take" = some (.ref f_law_take)
  b_law_take : Binds K d_law_take ["_law_bag_here", "_law_many"] []
  f_law_is_name : Addr
  d_law_is_name : FuncData
  F_law_is_name : Fun K "_law_is_name" "_law_is_name" s_law_is_name f_law_is_name d_law_is_name
  m_law_is_name : mg "_law_is_name" = some (.ref f_law_is_name)
  b_law_is_name : Binds K d_law_is_name ["_law_thing"] []
  f_law_string : Addr
  d_law_string : FuncData
  F_law_string : Fun K "_law_string" "_law_string" s_law_string f_law_string d_law_string
  m_law_string : mg "_law_string" = some (.ref f_law_string)
  b_law_string : Binds K d_law_string ["_law_bag_here"] []
  f_law_outcome : Addr
  d_law_outcome : FuncData
  F_law_outcome : Fun K "_law_outcome" "_law_outcome" s_law_outcome f_law_outcome d_law_outcome
  m_law_outcome : mg "_law_outcome" = some (.ref f_law_outcome)
  b_law_outcome : Binds K d_law_outcome ["_law_deed"] []
  f_law : Addr
  d_law : FuncData
  F_law : Fun K "law" "law" s_law f_law d_law
  m_law : mg "law" = some (.ref f_law)
  b_law : Binds K d_law ["_law_script"] []
  C_Rule : Addr
  cl_Rule : Cls K C_Rule
  m_Rule : mg "Rule" = some (.ref C_Rule)
  n_Rule_operation : NoAttr K C_Rule "operation"
  n_Rule_name : NoAttr K C_Rule "name"
  n_Rule_operands : NoAttr K C_Rule "operands"
  n_Rule_flat : NoAttr K C_Rule "flat"
  n_Rule_written : NoAttr K C_Rule "written"
  n_Rule_base_names : NoAttr K C_Rule "base_names"
  mk_Rule : Mk K C_Rule f_Rule_init
  p_Rule_word : Addr
  pr_Rule_word : PropOf K C_Rule "word" p_Rule_word f_Rule_word
  p_Rule_names : Addr
  pr_Rule_names : PropOf K C_Rule "names" p_Rule_names f_Rule_names
  p_Rule_parts : Addr
  pr_Rule_parts : PropOf K C_Rule "parts" p_Rule_parts f_Rule_parts
  ic_Rule : C8.InsC K C_Rule
  om_Rule_len : OwnM K C_Rule "__len__" f_Rule_len
  om_Rule_str : OwnM K C_Rule "__str__" f_Rule_str
  om_Rule_repr : OwnM K C_Rule "__repr__" f_Rule_repr
  ki_Rule_NoneType : PySem.W.kitOne K (.type "NoneType") (.ref C_Rule) = some false
  ki_Rule_bool : PySem.W.kitOne K (.type "bool") (.ref C_Rule) = some false
  ki_Rule_int : PySem.W.kitOne K (.type "int") (.ref C_Rule) = some false
  ki_Rule_str : PySem.W.kitOne K (.type "str") (.ref C_Rule) = some false
  ki_Rule_list : PySem.W.kitOne K (.type "list") (.ref C_Rule) = some false
  ki_Rule_tuple : PySem.W.kitOne K (.type "tuple") (.ref C_Rule) = some false
  ki_Rule_dict : PySem.W.kitOne K (.type "dict") (.ref C_Rule) = some false
  C_BadName : Addr
  m_BadName : mg "BadName" = some (.ref C_BadName)
  x_BadName : XOne K C_BadName f_BadName_init "ValueError" "ValueError.__new__" "ValueError.__init__" bmValue "name"
  C_BadRule : Addr
  m_BadRule : mg "BadRule" = some (.ref C_BadRule)
  C_BadText : Addr
  m_BadText : mg "BadText" = some (.ref C_BadText)
  ec_BadName : ExcC K C_BadName
  kx_BadName_ValueError : PySem.W.kitOne K (.ref C_BadName) (.type "ValueError") = some true
  kx_BadName_BadRule : PySem.W.kitOne K (.ref C_BadName) (.ref C_BadRule) = some false
  kx_BadName_BadText : PySem.W.kitOne K (.ref C_BadName) (.ref C_BadText) = some false
  kx_Rule_str : PySem.W.kitOne K (.ref C_Rule) (.type "str") = some false
  u_LETTERS : Value
  c_LETTERS : mg "LETTERS" = some u_LETTERS
  r_LETTERS : RelV (.str "abcdefghijklmnopqrstuvwxyz") u_LETTERS
  u_MOST_LETTERS : Value
  c_MOST_LETTERS : mg "MOST_LETTERS" = some u_MOST_LETTERS
  r_MOST_LETTERS : RelV (.int 6) u_MOST_LETTERS
  u_BASE : Value
  c_BASE : mg "BASE" = some u_BASE
  r_BASE : RelV (.str "base") u_BASE
  u_GAP : Value
  c_GAP : mg "GAP" = some u_GAP
  r_GAP : RelV (.str ", ") u_GAP
  kb_base_0_name : KBinds K d_base ["name"] ["name"] sw1 sw1
  z_ValueError : mg "ValueError" = none
  z_abs : mg "abs" = none
  z_all : mg "all" = none
  z_isinstance : mg "isinstance" = none
  z_len : mg "len" = none
  z_max : mg "max" = none
  z_min : mg "min" = none
  z_range : mg "range" = none
  z_repr : mg "repr" = none
  z_sorted : mg "sorted" = none
  z_str : mg "str" = none
  z_tuple : mg "tuple" = none
section
variable {P : Program} {w : World} {K : PySem.W.Frag} {mg : Str → Option Value} {base : Heap}
theorem ok_BadName_init (T : Txt K mg) : FnOk P w K mg base CX0 2 T.f_BadName_init T.d_BadName_init ["self", "name"] (spX1 T.C_BadName "name") := by
  refine T.F_BadName_init.ok sc_BadName_init (fun vs H Q E h => ?_) (fun cdv A outer s H vs Q E hr h => ?_)
  · obtain ⟨a, v, rfl, _⟩ := h
    rfl
  · obtain ⟨a, v, rfl, ha, kk⟩ := h
    refine ⟨_, (pss_cons (ps_expr (pe_initX baseValue rfl T.z_ValueError PyProof.Rows.Boot.«ValueError» T.x_BadName.vI (by decide +kernel) (pa_cons (pv 0) (pa_cons pe_str pa_nil))))
        (pss_one (ps_setX baseValue (pv 0) (pv 1)))), ?_⟩
    exact ⟨_, rfl, _, _, _, rfl, (by show 1 ≤ 1000; decide), T.x_BadName.own, ha, _, rfl, _, rfl, a, _, rfl, T.x_BadName.own, T.x_BadName.tk, .inl ⟨ha, fun dx nd ne => kk dx nd ne⟩⟩

/-- for every text -/
def sp_is_nameS : Sp := fun vs H Q _ => ∃ x : Str, vs = [.str x] ∧ x.length ≤ 100000 ∧ ∀ H', Same H H' → Q (.bl (nmB x)) H'
theorem abc_mem (c : Nat) : c ∈ (("abcdefghijklmnopqrstuvwxyz" : String) : Str).cps.toList ↔ 97 ≤ c ∧ c ≤ 122 := by
  have all : ∀ n ∈ List.range 26, (97 + n) ∈ (("abcdefghijklmnopqrstuvwxyz" : String) : Str).cps.toList := by decide +kernel
  have few : ∀ n ∈ (("abcdefghijklmnopqrstuvwxyz" : String) : Str).cps.toList, 97 ≤ n ∧ n ≤ 122 := by decide +kernel
  refine ⟨few c, fun h => ?_⟩
  have z := all (c - 97) (List.mem_range.mpr (by omega))
  rw [show 97 + (c - 97) = c by omega] at z
  exact z
theorem ok_is_nameS (T : Txt K mg) : FnOk P w K mg base CX0 1 T.f_is_name T.d_is_name ["value"] sp_is_nameS := by
  refine T.F_is_name.ok sc_is_name (fun vs H Q E h => ?_) (fun cdv A outer s H vs Q E hr h => ?_)
  · obtain ⟨x, rfl, _⟩ := h
    rfl
  · obtain ⟨x, rfl, hl, kk⟩ := h
    refine ⟨_, (pss_cons (ps_if (pt_cut (PW.pt (pw_or (pt_not (pt_val (pe_callB call_isi (by rfl) T.z_isinstance (by decide +kernel) (pa_cons (pv 0) (pa_cons (pe_bltn (v := .ty "str") (by rfl) T.z_str (by decide +kernel) rfl) pa_nil))))) (pw_or1 (pt_not (pt_chain op_le op_le pe_int (pe_callB call_len_str (by rfl) T.z_len (by decide +kernel) (pa_cons (pv 0) pa_nil)) (pe_glob rfl T.c_MOST_LETTERS T.r_MOST_LETTERS)))))))
          (pss_one (ps_ret pe_bl))
          pss_nil)
        (pss_one (ps_ret (pe_callB (cr_all rfl) (by rfl) T.z_all (by decide +kernel) (pa_cons (pe_lc (own := [("letter", 1)]) (g := (gName 1)) (tt := tYes) rfl sc_is_name.nd (pi_str (pv 0)) (blkOk_by (own := [("letter", 1)]) (N := N_is_name) (sc := defScope s_is_name) (by decide +kernel)) (fun _ _ _ _ _ => (pg_name (i := 1) sc_is_name.nd rfl (.inl rfl))) (fun _ _ _ _ _ => pts_nil) (fun _ _ _ _ _ => (pe_cmpR op_in_sign (pv 1) (pe_glob rfl T.c_LETTERS T.r_LETTERS) (by rfl)))) pa_nil))))), ?_⟩
    have e0 : x.cps.size = x.length := rfl
    refine ⟨fun b H' => b = !(decide (1 ≤ x.length) && decide (x.length ≤ 6)) ∧ H' = H, ?_, ?_⟩
    · refine ⟨_, rfl, .str x, .ty "str", .type "str", .type "str", true, rfl, .ty _, .base (.str x), rfl, true, rfl, ?_⟩
      refine iteF ?_
      refine ⟨_, rfl, x, rfl, by rw [sizeLine_eq]; omega, _, _, rfl, rfl, _, rfl, ?_⟩
      by_cases c1 : 1 ≤ x.length
      · rw [decide_eq_true (show (1 : Int) ≤ (x.length : Int) by omega)]
        refine iteT ⟨_, _, rfl, rfl, _, rfl, ?_⟩
        refine ⟨?_, rfl⟩
        rw [decide_eq_true c1]
        by_cases c2 : x.length ≤ 6
        · rw [decide_eq_true c2, decide_eq_true (show (x.length : Int) ≤ 6 by omega)]
          rfl
        · rw [decide_eq_false c2, decide_eq_false (show ¬ (x.length : Int) ≤ 6 by omega)]
          rfl
      · rw [decide_eq_false (show ¬ (1 : Int) ≤ (x.length : Int) by omega)]
        refine iteF ⟨_, rfl, ?_, rfl⟩
        rw [decide_eq_false c1]
        rfl
    · rintro b H' ⟨rfl, rfl⟩
      by_cases c : (decide (1 ≤ x.length) && decide (x.length ≤ 6)) = true
      · rw [c]
        refine iteF ?_
        rw [Bool.and_eq_true, decide_eq_true_eq, decide_eq_true_eq] at c
        obtain ⟨c1, c2⟩ := c
        refine ⟨_, rfl, x, rfl, fun D hD => ?_⟩
        refine lc_it (walk_str (z := x)) (fun i H2 => H2 D = some (.lst (((x.cps.toList.take i).map fun c => decide (97 ≤ c) && decide (c ≤ 122)).map V.bl)) ∧ Same H' H2) ⟨upd_same, Same.mk1 hD⟩ (fun _ _ _ _ => True.intro) ?_ ?_
        · rintro i y H2 H3 hi ⟨hD2, s2⟩ ⟨rfl, c, hc, rfl⟩
          have z : x.cps.toList[i]? = some c := by rw [Array.getElem?_toList]; exact hc
          refine ⟨rfl, _, rfl, c, "abcdefghijklmnopqrstuvwxyz", rfl, rfl, _, hD2, ?_, ?_, Same.put s2 hD⟩
          · rw [List.length_map, List.length_map, List.length_take, Array.length_toList, sizeLine_eq]
            omega
          · have ee : decide (c ∈ (("abcdefghijklmnopqrstuvwxyz" : String) : Str).cps.toList) = (decide (97 ≤ c) && decide (c ≤ 122)) := by
              rw [Bool.eq_iff_iff, decide_eq_true_eq, abc_mem, Bool.and_eq_true, decide_eq_true_eq, decide_eq_true_eq]
            rw [upd_same, ee, take_next z, List.map_append, List.map_append]
            rfl
        · rintro H2 ⟨hD2, s2⟩
          rw [← Array.length_toList, List.take_length] at hD2
          refine ⟨D, _, rfl, SqL.of hD2, ?_⟩
          have ee : ((x.cps.toList.map fun c => decide (97 ≤ c) && decide (c ≤ 122)).all id) = nmB x := by
            unfold nmB
            rw [decide_eq_true c1, decide_eq_true c2, List.all_map]
            rfl
          rw [ee]
          exact kk _ s2
      · have cf : (decide (1 ≤ x.length) && decide (x.length ≤ 6)) = false := Bool.eq_false_iff.mpr c
        rw [cf]
        refine iteT ?_
        have ee : nmB x = false := by
          unfold nmB
          rw [cf]
          rfl
        have := kk H' (Same.refl _)
        rw [ee] at this
        exact this

/-- a value that is no string -/
def NoStr (K : PySem.W.Frag) (H : Hp) (v : V) : Prop := ∃ t, TyX K H v t ∧ PySem.W.kitOne K t (.type "str") = some false
def sp_is_nameO (K : PySem.W.Frag) : Sp := fun vs H Q _ => ∃ v : V, vs = [v] ∧ NoStr K H v ∧ Q (.bl false) H
theorem ok_is_nameO (T : Txt K mg) : FnOk P w K mg base CX0 1 T.f_is_name T.d_is_name ["value"] (sp_is_nameO K) := by
  refine T.F_is_name.ok sc_is_name (fun vs H Q E h => ?_) (fun cdv A outer s H vs Q E hr h => ?_)
  · obtain ⟨v, rfl, _⟩ := h
    rfl
  · obtain ⟨v, rfl, ⟨t, ht, hk⟩, q⟩ := h
    refine ⟨_, (pss_cons (ps_if (pt_cut (PW.pt (pw_or (pt_not (pt_val (pe_callB call_isi (by rfl) T.z_isinstance (by decide +kernel) (pa_cons (pv 0) (pa_cons (pe_bltn (v := .ty "str") (by rfl) T.z_str (by decide +kernel) rfl) pa_nil))))) (pw_or1 (pt_not (pt_chain op_le op_le pe_int (pe_callB call_len_str (by rfl) T.z_len (by decide +kernel) (pa_cons (pv 0) pa_nil)) (pe_glob rfl T.c_MOST_LETTERS T.r_MOST_LETTERS)))))))
          (pss_one (ps_ret pe_bl))
          pss_nil)
        (pss_one (ps_ret (pe_callB (cr_all rfl) (by rfl) T.z_all (by decide +kernel) (pa_cons (pe_lc (own := [("letter", 1)]) (g := (gName 1)) (tt := tYes) rfl sc_is_name.nd (pi_str (pv 0)) (blkOk_by (own := [("letter", 1)]) (N := N_is_name) (sc := defScope s_is_name) (by decide +kernel)) (fun _ _ _ _ _ => (pg_name (i := 1) sc_is_name.nd rfl (.inl rfl))) (fun _ _ _ _ _ => pts_nil) (fun _ _ _ _ _ => (pe_cmpR op_in_sign (pv 1) (pe_glob rfl T.c_LETTERS T.r_LETTERS) (by rfl)))) pa_nil))))), ?_⟩
    refine ⟨fun b H' => b = true ∧ H' = H, ?_, ?_⟩
    · refine ⟨_, rfl, v, .ty "str", t, .type "str", false, rfl, .ty _, ht, hk, false, rfl, ?_⟩
      exact iteT ⟨rfl, rfl⟩
    · rintro b H' ⟨rfl, rfl⟩
      exact iteT q
theorem ok_is_name (T : Txt K mg) : FnOk P w K mg base CX0 1 T.f_is_name T.d_is_name ["value"] (fun vs H Q E => sp_is_nameS vs H Q E ∨ sp_is_nameO K vs H Q E) := FnOk.or (ok_is_nameS T) (ok_is_nameO T)

theorem ok_Rule_names (T : Txt K mg) : FnOk P w K mg base CX0 1 T.f_Rule_names T.d_Rule_names ["self"] (getSp T.C_Rule "base_names") := by
  refine T.F_Rule_names.ok sc_Rule_names (fun vs H Q E h => ?_) (fun cdv A outer s H vs Q E hr h => ?_)
  · obtain ⟨a, dx, fs, v, rfl, _⟩ := h
    rfl
  · obtain ⟨a, dx, fs, v, rfl, ea, l, q⟩ := h
    exact ⟨_, (pss_one (ps_ret (pe_fld (pv 0) rfl))), .ref a, rfl, a, T.C_Rule, dx, fs, v, rfl, ea, T.cl_Rule, T.n_Rule_base_names, l, q⟩

def sp_names_in (K : PySem.W.Frag) (C : Addr) : Sp := fun vs H Q _ => ∃ (t : Addr) (ls : List Addr) (ps : List RT), vs = [.ref t] ∧ SqT K H t (ls.map V.ref) ∧ RulesAt C H ps ls ∧ (∀ l : List Str, l.Nodup → (∀ x ∈ l, x ∈ basesL ps) → l.length ≤ 60) ∧
  ∀ (b : Addr) (ns : List Str) (H' : Hp), H b = none → Same H H' → H' b = some (.tup (ns.map V.str)) → NamesOk ns (basesL ps) → Q (.ref b) H'
/-- the names that were met: what the set holds -/
structure Met (P : Program) (w : World) (D : Addr) (H : Hp) (seen : List Str) (S : Str → Bool) : Prop where
  at_ : H D = some (SetSO P w D S seen.length)
  nd : seen.Nodup
  mem : ∀ x, S x = true ↔ x ∈ seen
theorem ok_names_in (T : Txt K mg) : FnOk P w K mg base CX0 3 T.f_names_in T.d_names_in ["rules"] (sp_names_in K T.C_Rule) := by
  refine T.F_names_in.ok sc_names_in (fun vs H Q E h => ?_) (fun cdv A outer s H vs Q E hr h => ?_)
  · obtain ⟨t, ls, ps, rfl, _⟩ := h
    rfl
  · obtain ⟨t, ls, ps, rfl, hT, hR, few, kk⟩ := h
    refine ⟨_, (pss_one (ps_ret (pe_callTy call_tuple_of (by rfl) T.z_tuple (by decide +kernel) (pa_cons (pe_callB (cr_sortedTS rfl) (by rfl) T.z_sorted (by decide +kernel) (pa_cons (pe_sc2 (own := [("rule", 1), ("name", 2)]) (vs1 := [2]) (g := (gName 1)) (g1 := (gName 2)) (tt := tYes) (tt1 := tYes) rfl sc_names_in.nd (pi_tup (pv 0)) (blkOk_by (own := [("rule", 1), ("name", 2)]) (N := N_names_in) (sc := defScope s_names_in) (by decide +kernel)) (by decide) (fun _ _ _ _ _ => (pg_name (i := 1) sc_names_in.nd rfl (.inl rfl))) (fun _ _ _ _ _ => pts_nil) (fun _ _ _ _ _ => (pi_tup (pe_prop (pv 1) T.cl_Rule T.pr_Rule_names (ok_Rule_names T) (hr.mono (by decide)) T.b_Rule_names .nil pass0 rfl) : PI _ _ _ (iTup K _))) (fun _ _ _ _ _ => (pg_name (i := 2) sc_names_in.nd rfl (.inl rfl))) (fun _ _ _ _ _ => pts_nil) (fun _ _ _ _ _ => (pv 2))) pa_nil)) pa_nil)))), ?_⟩
    refine ⟨_, rfl, t, rfl, ⟨_, hT⟩, fun D hD => ?_⟩
    have fresh : ∀ b o, H b = some o → b ≠ D := fun b o e => ne_of_none e hD
    refine it_walk (walk_tup (K := K) (a := t) (xs := ls.map V.ref)) (fun i H2 => ∃ (seen : List Str) (S : Str → Bool), Met P w D H2 seen S ∧ (∀ x, x ∈ seen ↔ x ∈ basesL (ps.take i)) ∧ Same H H2)
      ⟨[], fun _ => false, ⟨upd_same, List.nodup_nil, fun x => by simp⟩, fun x => by simp [basesL], Same.mk1 hD⟩ (fun i H2 _ ⟨_, _, _, _, s2⟩ => sqT_same s2 hT) ?_ ?_
    · rintro i x H2 H3 hi ⟨seen, S, M, hm, s2⟩ ⟨rfl, hx⟩
      obtain ⟨a, ha, rfl⟩ := getElem?_map' hx
      obtain ⟨r, hr2, hA⟩ := hR.get ha
      obtain ⟨op, nm, dx, tt, f, b, ns, h1, h2, h3, hN⟩ := hA.fields
      have hrm : r ∈ ps := List.mem_of_getElem? hr2
      refine ⟨rfl, _, rfl, a, dx, _, rfl, s2 _ _ h1, a, dx, _, .ref b, rfl, s2 _ _ h1, fR_base_names, b, rfl, ⟨_, SqT.of (s2 _ _ h3)⟩, ?_⟩
      refine it_walk (walk_tup (K := K) (a := b) (xs := ns.map V.str)) (fun j H4 => ∃ (seen : List Str) (S : Str → Bool), Met P w D H4 seen S ∧ (∀ x, x ∈ seen ↔ x ∈ basesL (ps.take i) ∨ x ∈ ns.take j) ∧ Same H H4)
        ⟨seen, S, M, fun x => by rw [hm x]; simp, s2⟩ (fun j H4 _ ⟨_, _, _, _, s4⟩ => SqT.of (s4 _ _ h3)) ?_ ?_
      · rintro j y H4 H5 hj ⟨seen2, S2, M2, hm2, s4⟩ ⟨rfl, hy⟩
        obtain ⟨nm2, hn2, rfl⟩ := getElem?_map' hy
        have sub : ∀ x ∈ seen2, x ∈ basesL ps := fun x hx2 => by
          rcases (hm2 x).mp hx2 with z | z
          · obtain ⟨p, hp, hb⟩ := basesL_mem.mp z
            exact basesL_mem.mpr ⟨p, List.mem_of_mem_take hp, hb⟩
          · exact basesL_mem.mpr ⟨r, hrm, (hN.mem x).mp (List.mem_of_mem_take z)⟩
        have len2 := few seen2 M2.nd sub
        refine ⟨rfl, _, rfl, nm2, S2, seen2.length, rfl, M2.at_, (by unfold scanBound; omega), ?_⟩
        have hmem : ∀ x, (x ∈ basesL (ps.take i) ∨ x ∈ ns.take (j + 1)) ↔ (x ∈ seen2 ∨ x = nm2) := fun x => by
          rw [take_next hn2, List.mem_append, List.mem_singleton, hm2 x, or_assoc]
        cases hS : S2 nm2 with
        | true =>
          have inS := (M2.mem nm2).mp hS
          refine ⟨seen2, _, ⟨upd_same, M2.nd, fun x => ?_⟩, fun x => ?_, Same.put s4 hD⟩
          · rw [Bool.or_eq_true, decide_eq_true_eq, M2.mem x]
            exact ⟨fun z => z.elim id fun e => e ▸ inS, .inl⟩
          · rw [hmem x]
            exact ⟨.inl, fun z => z.elim id fun e => e ▸ inS⟩
        | false =>
          have notS : nm2 ∉ seen2 := fun z => by
            rw [(M2.mem nm2).mpr z] at hS
            cases hS
          refine ⟨seen2 ++ [nm2], fun j => S2 j || decide (j = nm2), ⟨?_, ?_, fun x => ?_⟩, fun x => ?_, Same.put s4 hD⟩
          · rw [List.length_append]
            exact upd_same
          · rw [List.nodup_append]
            exact ⟨M2.nd, by simp, fun x hx2 y hy2 e => notS (by rw [List.mem_singleton] at hy2; rw [← hy2, ← e]; exact hx2)⟩
          · rw [Bool.or_eq_true, decide_eq_true_eq, M2.mem x, List.mem_append, List.mem_singleton]
          · rw [hmem x, List.mem_append, List.mem_singleton]
      · rintro H4 ⟨seen2, S2, M2, hm2, s4⟩
        rw [List.length_map, List.take_length] at hm2
        refine ⟨seen2, S2, M2, fun x => ?_, s4⟩
        rw [hm2 x, take_next hr2, basesL_mem, basesL_mem]
        constructor
        · rintro (⟨p, hp, hb⟩ | z)
          · exact ⟨p, List.mem_append_left _ hp, hb⟩
          · exact ⟨r, List.mem_append_right _ (List.mem_singleton.mpr rfl), (hN.mem x).mp z⟩
        · rintro ⟨p, hp, hb⟩
          rcases List.mem_append.mp hp with z | z
          · exact .inl ⟨p, z, hb⟩
          · cases List.mem_singleton.mp z
            exact .inr ((hN.mem x).mpr hb)
    · rintro H2 ⟨seen, S, M, hm, s2⟩
      rw [List.length_map, hR.len, List.take_length] at hm
      have len2 := few seen M.nd fun x hx => (hm x).mp hx
      refine ⟨D, S, seen.length, rfl, M.at_, by omega, fun ys p srt nd mem len np => ?_⟩
      refine ⟨p, _, rfl, .inl ⟨SqL.of upd_same, fun q nq => ?_⟩⟩
      have s3 := s2.trans ((Same.mk1 np).trans (Same.mk1 (o := .tup (ys.map V.str)) nq))
      exact kk q ys _ ((s2.trans (Same.mk1 (o := .lst (ys.map V.str)) np)).free nq) s3 upd_same ⟨srt, nd, fun x => by rw [mem x, M.mem x, hm x]⟩

def sp_Rule_init (C : Addr) : Sp := fun vs H Q _ => ∃ (H0 : Hp) (a dx t : Addr) (rt : RT) (op : Str) (nm : V), vs = [.ref a, .str op, nm, .ref t] ∧ Same H0 H ∧ H0 a = none ∧ H a = some (.ins C dx []) ∧
  ((∃ n, rt = .base n ∧ op = "base" ∧ nm = .str n ∧ H0 t = some (.tup [])) ∨
    ∃ ps ls, rt = .op op ps ∧ ¬ op = "base" ∧ nm = .non ∧ H0 t = some (.tup (ls.map V.ref)) ∧ RulesAt C H0 ps ls ∧ op.length ≤ 100 ∧ wts ps ≤ 100000 ∧ ∀ l : List Str, l.Nodup → (∀ x ∈ l, x ∈ basesL ps) → l.length ≤ 60) ∧
  ∀ H', Same H0 H' → RuleAt C H' rt a → Q .non H'
theorem ok_Rule_init (T : Txt K mg) : FnOk P w K mg base CX0 4 T.f_Rule_init T.d_Rule_init ["self", "operation", "name", "operands"] (sp_Rule_init T.C_Rule) := by
  refine T.F_Rule_init.ok sc_Rule_init (fun vs H Q E h => ?_) (fun cdv A outer s H vs Q E hr h => ?_)
  · obtain ⟨H0, a, dx, t, rt, op, nm, rfl, _⟩ := h
    rfl
  · obtain ⟨H0, a, dx, t, rt, op, nm, rfl, s0, h0, ha, hc, kk⟩ := h
    refine ⟨_, (pss_cons (ps_fld (pv 0) (pv 1) rfl)
        (pss_cons (ps_fld (pv 0) (pv 2) rfl)
        (pss_cons (ps_fld (pv 0) (pv 3) rfl)
        (pss_one (ps_if (pt_cmpR op_eq (pv 1) (pe_glob rfl T.c_BASE T.r_BASE) (nomark _))
          (pss_one (ps_asg (pe_tup (pa_cons (pe_tup (pa_cons (pv 2) pa_nil)) (pa_cons (pv 2) (pa_cons (pe_tup (pa_cons (pv 2) pa_nil)) pa_nil)))) (pg_tup rfl (pgs_cons (pg_fld (pv 0)) (pgs_cons (pg_fld (pv 0)) (pgs_cons (pg_fld (pv 0)) pgs_nil))))))
          (pss_cons (ps_fld (pv 0) (pe_tup (pa_cons (pv 1) (StX.pa_star (pe_lc2 (own := [("part", 4), ("word", 5)]) (vs1 := [5]) (g := (gName 4)) (g1 := (gName 5)) (tt := tYes) (tt1 := tYes) rfl sc_Rule_init.nd (pi_tup (pv 3)) (blkOk_by (own := [("part", 4), ("word", 5)]) (N := N_Rule_init) (sc := defScope s_Rule_init) (by decide +kernel)) (by decide) (fun _ _ _ _ _ => (pg_name (i := 4) sc_Rule_init.nd rfl (.inl rfl))) (fun _ _ _ _ _ => pts_nil) (fun _ _ _ _ _ => (pi_tup (pe_fld (pv 4) rfl : PE _ _ (tFld K _ _)) : PI _ _ _ (iTup K _))) (fun _ _ _ _ _ => (pg_name (i := 5) sc_Rule_init.nd rfl (.inl rfl))) (fun _ _ _ _ _ => pts_nil) (fun _ _ _ _ _ => (pv 5))) pa_nil))) rfl)
          (pss_cons (ps_fld (pv 0) (pe_op op_add_str (pe_op op_add_str (pe_op op_add_str (pv 1) pe_str) (pe_join (pe_glob rfl T.c_GAP T.r_GAP) (pe_lc (own := [("part", 4)]) (g := (gName 4)) (tt := tYes) rfl sc_Rule_init.nd (pi_tup (pv 3)) (blkOk_by (own := [("part", 4)]) (N := N_Rule_init) (sc := defScope s_Rule_init) (by decide +kernel)) (fun _ _ _ _ _ => (pg_name (i := 4) sc_Rule_init.nd rfl (.inl rfl))) (fun _ _ _ _ _ => pts_nil) (fun _ _ _ _ _ => (pe_fld (pv 4) rfl : PE _ _ (tFld K _ _)))))) pe_str) rfl)
          (pss_one (ps_fld (pv 0) (pe_call (ok_names_in T) (hr.mono (by decide)) rfl T.m_names_in T.F_names_in.kp T.b_names_in .nil pass0 (pa_cons (pv 3) pa_nil)) rfl))))))))), ?_⟩
    refine ⟨_, rfl, _, rfl, a, T.C_Rule, dx, [], rfl, ha, T.cl_Rule, T.n_Rule_operation, by decide, ?_⟩
    refine ⟨_, rfl, _, rfl, a, T.C_Rule, dx, _, rfl, upd_same, T.cl_Rule, T.n_Rule_name, (by show 1 < 1000; decide), ?_⟩
    refine ⟨_, rfl, _, rfl, a, T.C_Rule, dx, _, rfl, upd_same, T.cl_Rule, T.n_Rule_operands, (by show 2 < 1000; decide), ?_⟩
    have s1 : Same H0 (upd (upd (upd H a (.ins T.C_Rule dx (putF "operation" (.str op) []))) a (.ins T.C_Rule dx (putF "name" nm (putF "operation" (.str op) [])))) a (.ins T.C_Rule dx (putF "operands" (.ref t) (putF "name" nm (putF "operation" (.str op) []))))) := Same.put (Same.put (Same.put s0 h0) h0) h0
    have a1 : (upd (upd (upd H a (.ins T.C_Rule dx (putF "operation" (.str op) []))) a (.ins T.C_Rule dx (putF "name" nm (putF "operation" (.str op) [])))) a (.ins T.C_Rule dx (putF "operands" (.ref t) (putF "name" nm (putF "operation" (.str op) []))))) a = some (.ins T.C_Rule dx (putF "operands" (.ref t) (putF "name" nm (putF "operation" (.str op) [])))) := upd_same
    revert s1 a1
    generalize upd (upd (upd H a (.ins T.C_Rule dx (putF "operation" (.str op) []))) a (.ins T.C_Rule dx (putF "name" nm (putF "operation" (.str op) [])))) a (.ins T.C_Rule dx (putF "operands" (.ref t) (putF "name" nm (putF "operation" (.str op) [])))) = H1
    intro s1 a1
    refine ⟨_, rfl, rfl, _, rfl, ?_⟩
    rcases hc with ⟨n, rfl, rfl, rfl, ht⟩ | ⟨ps, ls, rfl, hop, rfl, ht, hR, hlo, hw, few⟩
    · rw [decide_eq_true rfl]
      refine iteT ?_
      refine ⟨_, rfl, (by show 1 ≤ sizeLine; decide), fun f nf => ⟨_, rfl, _, rfl, (by show 1 ≤ sizeLine; decide), fun b nb => ⟨(by show 3 ≤ sizeLine; decide), fun q nq => ?_⟩⟩⟩
      refine ⟨q, _, rfl, SqT.of upd_same, rfl, ?_⟩
      have af : a ≠ f := ne_of_none a1 nf
      have sf := Same.mk1 (o := .tup [.str n]) nf
      have ab : a ≠ b := ne_of_none (sf _ _ a1) nb
      have sb := Same.mk1 (o := .tup [.str n]) nb
      have aq : a ≠ q := ne_of_none (sb _ _ (sf _ _ a1)) nq
      have sq := Same.mk1 (o := .tup [.ref f, .str n, .ref b]) nq
      have hf := sq _ _ (sb _ _ (show (upd H1 f (.tup [.str n])) f = some (.tup [.str n]) from upd_same))
      have hb := sq _ _ (show (upd (upd H1 f (.tup [.str n])) b (.tup [.str n])) b = some (.tup [.str n]) from upd_same)
      have a2 := sq _ _ (sb _ _ (sf _ _ a1))
      have s2 := s1.trans (sf.trans (sb.trans sq))
      revert hf hb a2 s2
      clear sq sb sf nq nb nf a1 s1
      generalize upd (upd (upd H1 f (.tup [.str n])) b (.tup [.str n])) q (.tup [.ref f, .str n, .ref b]) = H2
      intro hf hb a2 s2
      refine ⟨_, _, rfl, _, rfl, a, T.C_Rule, dx, _, rfl, a2, T.cl_Rule, T.n_Rule_flat, (by show 3 < 1000; decide), ?_⟩
      refine ⟨_, _, rfl, _, rfl, a, T.C_Rule, dx, _, rfl, upd_same, T.cl_Rule, T.n_Rule_written, (by show 4 < 1000; decide), ?_⟩
      refine ⟨_, _, rfl, _, rfl, a, T.C_Rule, dx, _, rfl, upd_same, T.cl_Rule, T.n_Rule_base_names, (by show 5 < 1000; decide), ?_⟩
      have s3 := Same.put (o := .ins T.C_Rule dx (fR "base" (.str n) t f n b)) (Same.put (o := .ins T.C_Rule dx (putF "written" (.str n) (putF "flat" (.ref f) (putF "operands" (.ref t) (putF "name" (.str n) (putF "operation" (.str "base") [])))))) (Same.put (o := .ins T.C_Rule dx (putF "flat" (.ref f) (putF "operands" (.ref t) (putF "name" (.str n) (putF "operation" (.str "base") []))))) s2 h0) h0) h0
      exact ⟨rfl, kk _ s3 ⟨dx, t, f, b, upd_same, s3 _ _ ht, (upd_ne af.symm).trans ((upd_ne af.symm).trans ((upd_ne af.symm).trans hf)), (upd_ne ab.symm).trans ((upd_ne ab.symm).trans ((upd_ne ab.symm).trans hb))⟩⟩
    · rw [decide_eq_false (fun z => hop (V.str.inj z))]
      refine iteF ?_
      have hT1 : H1 t = some (.tup (ls.map V.ref)) := s1 _ _ ht
      have hR1 := RulesAt.same s1 ps ls hR
      -- flat
      refine ⟨_, rfl, _, rfl, t, rfl, ⟨_, SqT.of hT1⟩, fun D hD => ?_⟩
      refine it_walk (walk_tup (K := K) (a := t) (xs := ls.map V.ref)) (fun i H2 => H2 D = some (.lst ((flats (ps.take i)).map V.str)) ∧ Same H1 H2) ⟨upd_same, Same.mk1 hD⟩ (fun i H2 _ ⟨_, s2⟩ => SqT.of (s2 _ _ hT1)) ?_ ?_
      · rintro i x H2 H3 hi ⟨hD2, s2⟩ ⟨rfl, hx⟩
        obtain ⟨p, hp, rfl⟩ := getElem?_map' hx
        obtain ⟨r, hr2, hA⟩ := hR1.get hp
        obtain ⟨op', nm', dx', t', f', b', ns', h1, h2, h3, hN⟩ := hA.fields
        have len : (flats (ps.take i)).length + r.flat.length ≤ 100000 := by
          have e := flats_append (ps.take i) r
          rw [← take_next hr2] at e
          have e2 := congrArg List.length e
          rw [List.length_append] at e2
          have e3 := flats_le (ps.take (i + 1))
          have e4 := wts_take ps (i + 1)
          omega
        refine ⟨rfl, _, rfl, p, T.C_Rule, dx', _, .ref f', rfl, s2 _ _ h1, T.cl_Rule, T.n_Rule_flat, fR_flat, f', rfl, ⟨_, SqT.of (s2 _ _ h2)⟩, ?_⟩
        refine it_walk (walk_tup (K := K) (a := f') (xs := r.flat.map V.str)) (fun j H4 => H4 D = some (.lst ((flats (ps.take i) ++ r.flat.take j).map V.str)) ∧ Same H1 H4) ⟨by rw [List.take_zero, List.append_nil]; exact hD2, s2⟩ (fun j H4 _ ⟨_, s4⟩ => SqT.of (s4 _ _ h2)) ?_ ?_
        · rintro j y H4 H5 hj ⟨hD4, s4⟩ ⟨rfl, hy⟩
          obtain ⟨w2, hw2, rfl⟩ := getElem?_map' hy
          refine ⟨rfl, _, rfl, _, hD4, ?_, ?_, Same.put s4 hD⟩
          · rw [List.length_map, List.length_append, List.length_take, sizeLine_eq]
            omega
          · rw [upd_same, take_next hw2]
            simp only [List.map_append, List.append_assoc, List.map_cons, List.map_nil]
        · rintro H4 ⟨hD4, s4⟩
          rw [List.length_map, List.take_length] at hD4
          refine ⟨?_, s4⟩
          rw [take_next hr2, flats_append]
          exact hD4
      · rintro H2 ⟨hD2, s2⟩
        rw [List.length_map, hR.len, List.take_length] at hD2
        refine ⟨D, _, rfl, .inr (SqL.of hD2), ?_⟩
        have fl := flats_le ps
        refine ⟨by rw [List.append_nil, List.length_cons, List.length_map, sizeLine_eq]; omega, fun f nf => ?_⟩
        rw [List.append_nil]
        have sf := Same.mk1 (o := .tup (.str op :: (flats ps).map V.str)) nf
        have a2 := sf _ _ (s2 _ _ a1)
        have hf : (upd H2 f (.tup (.str op :: (flats ps).map V.str))) f = some (.tup (.str op :: (flats ps).map V.str)) := upd_same
        have s3 := s1.trans (s2.trans sf)
        revert a2 hf s3
        clear sf nf hD2 hD s2 hT1 hR1 a1 s1
        generalize upd H2 f (.tup (.str op :: (flats ps).map V.str)) = H3
        intro a2 hf s3
        refine ⟨_, rfl, a, T.C_Rule, dx, _, rfl, a2, T.cl_Rule, T.n_Rule_flat, (by show 3 < 1000; decide), ?_⟩
        have af : a ≠ f := fun z => by
          rw [z, hf] at a2
          cases a2
        have s4 := Same.put (o := .ins T.C_Rule dx (putF "flat" (.ref f) (putF "operands" (.ref t) (putF "name" .non (putF "operation" (.str op) []))))) s3 h0
        have a4 : (upd H3 a (.ins T.C_Rule dx (putF "flat" (.ref f) (putF "operands" (.ref t) (putF "name" .non (putF "operation" (.str op) [])))))) a = some (.ins T.C_Rule dx (putF "flat" (.ref f) (putF "operands" (.ref t) (putF "name" .non (putF "operation" (.str op) []))))) := upd_same
        have hf4 : (upd H3 a (.ins T.C_Rule dx (putF "flat" (.ref f) (putF "operands" (.ref t) (putF "name" .non (putF "operation" (.str op) [])))))) f = some (.tup (.str op :: (flats ps).map V.str)) := (upd_ne af.symm).trans hf
        revert s4 a4 hf4
        clear hf s3 a2
        generalize upd H3 a (.ins T.C_Rule dx (putF "flat" (.ref f) (putF "operands" (.ref t) (putF "name" .non (putF "operation" (.str op) []))))) = H4
        intro s4 a4 hf4
        -- written
        have hT4 : H4 t = some (.tup (ls.map V.ref)) := s4 _ _ ht
        have hR4 := RulesAt.same s4 ps ls hR
        have jl := join_le_wts ps
        have e1 : (("(" : String) : Str).length = 1 := rfl
        have e3 : ((")" : String) : Str).length = 1 := rfl
        refine ⟨_, rfl, op, "(", rfl, rfl, (by rw [e1, sizeLine_eq]; omega), ⟨_, rfl⟩, _, rfl, t, rfl, ⟨_, SqT.of hT4⟩, fun D2 hD2 => ?_⟩
        refine lc_it (walk_tup (K := K) (a := t) (xs := ls.map V.ref)) (fun i H5 => H5 D2 = some (.lst ((texts (ps.take i)).map V.str)) ∧ Same H4 H5) ⟨upd_same, Same.mk1 hD2⟩ (fun i H5 _ ⟨_, s5⟩ => SqT.of (s5 _ _ hT4)) ?_ ?_
        · rintro i x H5 H6 hi ⟨hD5, s5⟩ ⟨rfl, hx⟩
          obtain ⟨p, hp, rfl⟩ := getElem?_map' hx
          obtain ⟨r, hr2, hA⟩ := hR4.get hp
          obtain ⟨op', nm', dx', t', f', b', ns', h1, h2, h3, hN⟩ := hA.fields
          refine ⟨rfl, _, rfl, p, T.C_Rule, dx', _, _, rfl, s5 _ _ h1, T.cl_Rule, T.n_Rule_written, fR_written, _, hD5, ?_, ?_, Same.put s5 hD2⟩
          · have l1 := texts_len (ps.take i)
            have l2 := len_wts (ps.take i)
            have l3 := wts_take ps i
            rw [List.length_map, sizeLine_eq]
            omega
          · rw [upd_same, take_next hr2, texts_append, List.map_append]
            rfl
        · rintro H5 ⟨hD5, s5⟩
          rw [List.length_map, hR.len, List.take_length] at hD5
          have tl := texts_le ps
          refine ⟨", ", D2, texts ps, rfl, rfl, .inl (SqL.of hD5), (by have z : ((", " : String) : Str).length = 2 := rfl; rw [z]; omega), _, _, rfl, rfl, (by rw [strLen_append, e1, sizeLine_eq]; omega), _, _, rfl, rfl, (by rw [strLen_append, strLen_append, e1, e3, sizeLine_eq]; omega), ?_⟩
          refine ⟨_, rfl, a, T.C_Rule, dx, _, rfl, s5 _ _ a4, T.cl_Rule, T.n_Rule_written, (by show 4 < 1000; decide), ?_⟩
          have s6 := Same.put (o := .ins T.C_Rule dx (putF "written" (.str (RT.op op ps).text) (putF "flat" (.ref f) (putF "operands" (.ref t) (putF "name" .non (putF "operation" (.str op) [])))))) (s4.trans s5) h0
          have a6 : (upd H5 a (.ins T.C_Rule dx (putF "written" (.str (RT.op op ps).text) (putF "flat" (.ref f) (putF "operands" (.ref t) (putF "name" .non (putF "operation" (.str op) []))))))) a = some (.ins T.C_Rule dx (putF "written" (.str (RT.op op ps).text) (putF "flat" (.ref f) (putF "operands" (.ref t) (putF "name" .non (putF "operation" (.str op) [])))))) := upd_same
          have hf6 : (upd H5 a (.ins T.C_Rule dx (putF "written" (.str (RT.op op ps).text) (putF "flat" (.ref f) (putF "operands" (.ref t) (putF "name" .non (putF "operation" (.str op) []))))))) f = some (.tup (.str op :: (flats ps).map V.str)) := (upd_ne af.symm).trans (s5 _ _ hf4)
          show _
          revert s6 a6 hf6
          rw [show (op ++ ("(" : Str) ++ PySem.Txt.join ", " (texts ps) ++ (")" : Str)) = (RT.op op ps).text from rfl]
          clear hD5 s5 hT4 hR4 a4 hf4 s4 hD2
          generalize upd H5 a (.ins T.C_Rule dx (putF "written" (.str (RT.op op ps).text) (putF "flat" (.ref f) (putF "operands" (.ref t) (putF "name" .non (putF "operation" (.str op) [])))))) = H6
          intro s6 a6 hf6
          -- base_names
          refine ⟨_, rfl, t, ls, ps, rfl, SqT.of (s6 _ _ ht), RulesAt.same s6 ps ls hR, few, fun b ns H7 nb s7 hb hN => ?_⟩
          have ab : a ≠ b := ne_of_none a6 nb
          refine ⟨_, rfl, a, T.C_Rule, dx, _, rfl, s7 _ _ a6, T.cl_Rule, T.n_Rule_base_names, (by show 5 < 1000; decide), ?_⟩
          have s8 := Same.put (o := .ins T.C_Rule dx (fR op .non t f (RT.op op ps).text b)) (s6.trans s7) h0
          exact kk _ s8 ⟨dx, t, f, b, ls, ns, upd_same, s8 _ _ ht, RulesAt.same s8 ps ls hR, (upd_ne af.symm).trans (s7 _ _ hf6), (upd_ne ab.symm).trans hb, hN⟩

def sp_Rule_len (C : Addr) : Sp := fun vs H Q _ => ∃ (a : Addr) (r : RT), vs = [.ref a] ∧ RuleAt C H r a ∧ Q (.int (r.flat.length : Nat)) H
theorem ok_Rule_len (T : Txt K mg) : FnOk P w K mg base CX0 1 T.f_Rule_len T.d_Rule_len ["self"] (sp_Rule_len T.C_Rule) := by
  refine T.F_Rule_len.ok sc_Rule_len (fun vs H Q E h => ?_) (fun cdv A outer s H vs Q E hr h => ?_)
  · obtain ⟨a, r, rfl, _⟩ := h
    rfl
  · obtain ⟨a, r, rfl, hA, q⟩ := h
    obtain ⟨op, nm, dx, t, f, b, ns, h1, h2, _⟩ := hA.fields
    refine ⟨_, (pss_one (ps_ret (pe_callB call_len_seq (by rfl) T.z_len (by decide +kernel) (pa_cons (pe_fld (pv 0) rfl) pa_nil)))), ?_⟩
    refine ⟨.ref a, rfl, a, T.C_Rule, dx, _, .ref f, rfl, h1, T.cl_Rule, T.n_Rule_flat, fR_flat, ?_⟩
    refine ⟨f, _, rfl, .inr (SqT.of h2), ?_⟩
    rw [List.length_map]
    exact q

def sp_Rule_str (C : Addr) : Sp := fun vs H Q _ => ∃ (a : Addr) (r : RT), vs = [.ref a] ∧ RuleAt C H r a ∧ Q (.str r.text) H
theorem ok_Rule_str (T : Txt K mg) : FnOk P w K mg base CX0 1 T.f_Rule_str T.d_Rule_str ["self"] (sp_Rule_str T.C_Rule) := by
  refine T.F_Rule_str.ok sc_Rule_str (fun vs H Q E h => ?_) (fun cdv A outer s H vs Q E hr h => ?_)
  · obtain ⟨a, r, rfl, _⟩ := h
    rfl
  · obtain ⟨a, r, rfl, hA, q⟩ := h
    obtain ⟨op, nm, dx, t, f, b, ns, h1, h2, _⟩ := hA.fields
    refine ⟨_, (pss_one (ps_ret (pe_callTy SkE.call_str_str (by rfl) T.z_str (by decide +kernel) (pa_cons (pe_fld (pv 0) rfl) pa_nil)))), ?_⟩
    refine ⟨.ref a, rfl, a, T.C_Rule, dx, _, .str r.text, rfl, h1, T.cl_Rule, T.n_Rule_written, fR_written, ?_⟩
    exact ⟨_, rfl, q⟩

abbrev sp_Rule_repr (C : Addr) : Sp := spRepr C
theorem ok_Rule_repr (T : Txt K mg) : FnOk P w K mg base CX0 1 T.f_Rule_repr T.d_Rule_repr ["self"] (spRepr T.C_Rule) := by
  refine T.F_Rule_repr.ok sc_Rule_repr (fun vs H Q E h => ?_) (fun cdv A outer s H vs Q E hr h => ?_)
  · obtain ⟨a, r, rfl, _⟩ := h
    rfl
  · obtain ⟨a, r, rfl, hA, few, q⟩ := h
    obtain ⟨op, nm, dx, t, f, b, ns, h1, h2, _⟩ := hA.fields
    refine ⟨_, (pss_one (ps_ret (pe_joined (.cons pe_str (.cons (pe_fmt (pe_fld (pv 0) rfl)) (.cons pe_str .nil)))))), ?_⟩
    have e1 : (("Rule(" : String) : Str).length = 5 := rfl
    have e3 : ((")" : String) : Str).length = 1 := rfl
    have e0 : Str.empty ++ ("Rule(" : Str) = ("Rule(" : Str) := rfl
    refine ⟨"Rule(", rfl, (by rw [e0, e1, sizeLine_eq]; decide), ?_⟩
    refine ⟨.ref a, rfl, a, T.C_Rule, dx, _, .str r.text, rfl, h1, T.cl_Rule, T.n_Rule_written, fR_written, .inl ⟨r.text, rfl, by rw [sizeLine_eq]; omega, r.text, rfl, ?_, ")", rfl, ?_, ?_⟩⟩
    · rw [e0, strLen_append, e1, sizeLine_eq]
      omega
    · rw [e0, strLen_append, strLen_append, e1, e3, sizeLine_eq]
      omega
    · rw [e0]
      exact q
theorem okP_Rule_repr (T : Txt K mg) : FnP P w K mg base CX0 1 T.f_Rule_repr T.d_Rule_repr ["self"] (spRepr T.C_Rule) := by
  obtain ⟨oc, od, kV, doc, pm, an, cdv, ct, osl, ef, lk, hcd⟩ := T.F_Rule_repr.ex
  rw [ef] at lk ⊢
  refine fn_ofP lk hcd sc_Rule_repr (fun vs H Q E h => ?_) (fun A outer s H vs Q E p hr h => ?_)
  · obtain ⟨a, r, rfl, _⟩ := h
    rfl
  · obtain ⟨a, r, rfl, hA, few, q⟩ := h
    obtain ⟨op, nm, dx, t, f, b, ns, h1, h2, _⟩ := hA.fields
    refine ⟨_, (pss_one (ps_ret (pe_joined (.cons pe_str (.cons (pe_fmt (pe_fld (pv 0) rfl)) (.cons pe_str .nil)))))), ?_⟩
    have e1 : (("Rule(" : String) : Str).length = 5 := rfl
    have e3 : ((")" : String) : Str).length = 1 := rfl
    have e0 : Str.empty ++ ("Rule(" : Str) = ("Rule(" : Str) := rfl
    refine ⟨"Rule(", rfl, (by rw [e0, e1, sizeLine_eq]; decide), ?_⟩
    refine ⟨.ref a, rfl, a, T.C_Rule, dx, _, .str r.text, rfl, h1, T.cl_Rule, T.n_Rule_written, fR_written, .inl ⟨r.text, rfl, by rw [sizeLine_eq]; omega, r.text, rfl, ?_, ")", rfl, ?_, ?_⟩⟩
    · rw [e0, strLen_append, e1, sizeLine_eq]
      omega
    · rw [e0, strLen_append, strLen_append, e1, e3, sizeLine_eq]
      omega
    · rw [e0]
      exact q
theorem reprV_ok {X : Cx} (T : Txt X.K X.mg) {k : Nat} (hr : Room k X.A) (hg : NoG X.A) (hk : 3 ≤ k := by decide) : CallR X (.builtin "repr") (rReprV X.K T.C_Rule) := by
  have h3 := hr.mono hk
  exact call_reprV (E := fun _ _ _ => False) T.om_Rule_repr (RunsAt.ofOk (ok_Rule_repr T) (h3.in1.mono (by decide)) T.b_Rule_repr pass0) (fun args => RunsAt.ofOk (ok_Rule_repr T) (Room.loop h3.in1 args) T.b_Rule_repr pass0) hr.units hg
theorem reprV_hot {Y : Cx} {K : PySem.W.Frag} {mg : Str → Option Value} (T : Txt K mg) (eK : Y.K = K) (eM : Y.mg = mg) {k : Nat} {p : Addr × Obj} (hr : L2H.RoomH k Y.A) (hg : NoG Y.A) (hp : p ∈ Y.pn) (hk : 3 ≤ k := by decide) : CallR Y (.builtin "repr") (rReprV K T.C_Rule) := by
  subst eK eM
  have h3 : L2H.RoomH 3 Y.A := hr.mono hk
  have hu : Y.A.units + 64 < cLine := by have := h3.un; omega
  exact call_reprV (X := Y) (E := fun _ _ _ => False) T.om_Rule_repr (RunsAt.ofP (okP_Rule_repr T) hp ((RoomH.in1 h3).mono (by decide)) T.b_Rule_repr pass0)
    (fun args => RunsAt.ofP (okP_Rule_repr T) hp (RoomH.loop (RoomH.in1 h3) args) T.b_Rule_repr pass0) hu hg

theorem ok_Rule_word (T : Txt K mg) : FnOk P w K mg base CX0 1 T.f_Rule_word T.d_Rule_word ["self"] (getSp T.C_Rule "operation") := by
  refine T.F_Rule_word.ok sc_Rule_word (fun vs H Q E h => ?_) (fun cdv A outer s H vs Q E hr h => ?_)
  · obtain ⟨a, dx, fs, v, rfl, _⟩ := h
    rfl
  · obtain ⟨a, dx, fs, v, rfl, ea, l, q⟩ := h
    exact ⟨_, (pss_one (ps_ret (pe_fld (pv 0) rfl))), .ref a, rfl, a, T.C_Rule, dx, fs, v, rfl, ea, T.cl_Rule, T.n_Rule_operation, l, q⟩

theorem ok_Rule_parts (T : Txt K mg) : FnOk P w K mg base CX0 1 T.f_Rule_parts T.d_Rule_parts ["self"] (getSp T.C_Rule "operands") := by
  refine T.F_Rule_parts.ok sc_Rule_parts (fun vs H Q E h => ?_) (fun cdv A outer s H vs Q E hr h => ?_)
  · obtain ⟨a, dx, fs, v, rfl, _⟩ := h
    rfl
  · obtain ⟨a, dx, fs, v, rfl, ea, l, q⟩ := h
    exact ⟨_, (pss_one (ps_ret (pe_fld (pv 0) rfl))), .ref a, rfl, a, T.C_Rule, dx, fs, v, rfl, ea, T.cl_Rule, T.n_Rule_operands, l, q⟩

/-- a value that is no name -/
def NotNm (K : PySem.W.Frag) (H : Hp) (v : V) : Prop := (∃ x : Str, v = .str x ∧ x.length ≤ 1000 ∧ nmB x = false) ∨ NoStr K H v
def spNmT (C : Addr) : Sp := fun vs H Q _ => ∃ n : Str, vs = [.str n] ∧ nmB n = true ∧ ∀ (a : Addr) (H' : Hp), H a = none → Same H H' → RuleAt C H' (.base n) a → Q (.ref a) H'
def spNmF (K : PySem.W.Frag) (CB : Addr) : Sp := fun vs H Q E => ∃ v : V, vs = [v] ∧ NotNm K H v ∧ ∀ (d : Addr) (H' : Hp), H d = none → Same H H' → H' d = some (.xd [("name", v)]) → E (.ref CB) (some d) H'
def sp_base (K : PySem.W.Frag) (C CB : Addr) : Sp := fun vs H Q E => spNmT C vs H Q E ∨ spNmF K CB vs H Q E
theorem ok_base (T : Txt K mg) : FnOk P w K mg base (L2.CX P w) 6 T.f_base T.d_base ["name"] (sp_base K T.C_Rule T.C_BadName) := by
  refine T.F_base.okX sc_base (fun vs H Q E h => ?_) (fun cdv A outer s H vs Q E hr h => ?_)
  · rcases h with ⟨n, rfl, _⟩ | ⟨n, rfl, _⟩ <;> rfl
  · refine ⟨_, (pss_cons (ps_if (pt_not (pt_val (pe_call (ok_is_name T) (hr.mono (by decide)) rfl T.m_is_name T.F_is_name.kp T.b_is_name .nil pass0 (pa_cons (pv 0) pa_nil))))
          (pss_one (ps_raise rfl (takes_of rfl rfl rfl rfl) (pmk_x1 baseValue T.x_BadName.own T.x_BadName.iC T.x_BadName.tI (ok_BadName_init T) (hr.mono (by decide)) T.b_BadName_init pass0 rfl T.m_BadName (pa_cons (pv 0) pa_nil))))
          pss_nil)
        (pss_one (ps_ret (pe_make T.mk_Rule (ok_Rule_init T) (hr.mono (by decide)) rfl T.m_Rule T.b_Rule_init .nil pass0 (pa_cons (pe_glob rfl T.c_BASE T.r_BASE) (pa_cons (pv 0) (pa_cons (pe_tup pa_nil) pa_nil))))))), ?_⟩
    rcases h with ⟨n, rfl, hn, kk⟩ | ⟨v, rfl, hn, kk⟩
    · have hl : n.length ≤ 6 := by
        simp only [nmB, Bool.and_eq_true, decide_eq_true_eq] at hn
        exact hn.1.2
      refine ⟨_, rfl, .inl ⟨n, rfl, by omega, fun H1 s1 => ⟨nmB n, rfl, ?_⟩⟩⟩
      rw [hn]
      refine iteF ?_
      refine ⟨_, rfl, (by show 0 ≤ sizeLine; decide), fun t nt => ?_⟩
      intro x dx nx ndx nex
      have st := Same.mk1 (o := .tup []) nt
      refine ⟨upd H1 t (.tup []), x, dx, t, .base n, "base", .str n, rfl, Same.put (Same.mk1 ndx) nx, nx, upd_same, .inl ⟨n, rfl, rfl, rfl, upd_same⟩, fun H' s' hA' => ⟨rfl, kk x H' ((s1.trans st).free nx) ((s1.trans st).trans s') hA'⟩⟩
    · rcases hn with ⟨x, rfl, hl, hn⟩ | hn
      · refine ⟨_, rfl, .inl ⟨x, rfl, by omega, fun H1 s1 => ⟨nmB x, rfl, ?_⟩⟩⟩
        rw [hn]
        refine iteT ?_
        refine ⟨_, rfl, _, rfl, fun d nd => ?_⟩
        exact kk d _ (s1.free nd) (s1.trans (Same.mk1 nd)) upd_same
      · refine ⟨_, rfl, .inr ⟨v, rfl, hn, ⟨false, rfl, ?_⟩⟩⟩
        refine iteT ?_
        refine ⟨_, rfl, _, rfl, fun d nd => ?_⟩
        exact kk d _ nd (Same.mk1 nd) upd_same
/-- where the value is a name -/
theorem ok_base0 (T : Txt K mg) : FnOk P w K mg base CX0 6 T.f_base T.d_base ["name"] (spNmT T.C_Rule) :=
  FnOk.weaken (FnOk.calm (ok_base T)) fun vs H Q E h => .inl h

/-! ### the draws -/
/-- at p the bag of draws, at most b mixed numbers taken -/
structure Bag (H : Hp) (p : Addr) (b : Nat) : Prop where
  ex : ∃ g m n : Int, H p = some (.lst [.int g, .int m, .int n]) ∧ 0 ≤ m ∧ m < 2147483587 ∧ 0 ≤ n ∧ n ≤ (b : Int)
theorem Bag.mono {H : Hp} {p : Addr} {b c : Nat} (B : Bag H p b) (h : b ≤ c) : Bag H p c := by
  obtain ⟨g, m, n, h1, h2, h3, h4, h5⟩ := B.ex
  exact ⟨g, m, n, h1, h2, h3, h4, by omega⟩
theorem Bag.grow {H H' : Hp} {p : Addr} {b : Nat} (B : Bag H p b) (s : Same H H') : Bag H' p b := by
  obtain ⟨g, m, n, h, r⟩ := B.ex
  exact ⟨g, m, n, s p _ h, r⟩
theorem Bag.some {H : Hp} {p : Addr} {b : Nat} (B : Bag H p b) : H p ≠ none := by
  obtain ⟨g, m, n, h, r⟩ := B.ex
  rw [h]
  exact fun z => nomatch z
theorem Bag.ne {H : Hp} {p q : Addr} {b : Nat} (B : Bag H p b) (h : H q = none) : q ≠ p := fun z => B.some (z ▸ h)
def sp_law_bag (K : PySem.W.Frag) : Sp := fun vs H Q _ => ∃ (a : Addr) (ns : List Int) (i : Int), vs = [.ref a, .int i] ∧ SqL K H a (ns.map V.int) ∧ 0 ≤ i ∧ i ≤ 100 ∧
  ∀ (p : Addr) (H' : Hp), H p = none → Same H H' → Bag H' p 0 → Q (.ref p) H'
theorem ok_law_bag (T : Txt K mg) : FnOk P w K mg base CX0 1 T.f_law_bag T.d_law_bag ["_law_script", "_law_at"] (sp_law_bag K) := by
  refine T.F_law_bag.ok sc_law_bag (fun vs H Q E h => ?_) (fun cdv A outer s H vs Q E hr h => ?_)
  · obtain ⟨a, ns, i, rfl, _⟩ := h
    rfl
  · obtain ⟨a, ns, i, rfl, hS, i0, i1, kk⟩ := h
    refine ⟨_, (pss_cons (ps_set (i := 2) sc_law_bag.nd rfl (.inl rfl) (pe_cut (pe_ifExp (pt_cmpR op_lt (pv 1) (pe_callB call_len_seq (by rfl) T.z_len (by decide +kernel) (pa_cons (pv 0) pa_nil)) (nomark _)) (pe_ix (ix_list : IxR _ (rIxL K)) (pv 0) (pv 1) (fun _ _ => rfl)) pe_int)))
        (pss_cons (ps_set (i := 3) sc_law_bag.nd rfl (.inl rfl) (pe_cut (pe_ifExp (pt_cmpR op_ge (pe_callB call_abs (by rfl) T.z_abs (by decide +kernel) (pa_cons (pv 2) pa_nil)) (pe_op op_pow pe_int pe_int) (nomark _)) (pe_callB call_abs (by rfl) T.z_abs (by decide +kernel) (pa_cons (pv 2) pa_nil)) pe_int)))
        (pss_one (ps_ret (pe_lst (pa_cons (pv 3) (pa_cons (pe_op op_mod (pe_op op_add (pe_op op_add (pe_op op_mul (pe_op op_mod (pv 2) pe_int) pe_int) (pe_op op_mul pe_int (pv 1))) pe_int) pe_int) (pa_cons pe_int pa_nil)))))))), ?_⟩
    refine ⟨fun v H' => (∃ c : Int, v = .int c) ∧ H' = H, ⟨_, rfl, _, rfl, a, _, rfl, .inl hS, _, _, rfl, rfl, _, rfl, ite2 (fun hc => ?_) (fun _ => ⟨⟨0, rfl⟩, rfl⟩)⟩, ?_⟩
    · have hc' : i < ((ns.map V.int).length : Int) := of_decide_eq_true hc
      rw [List.length_map] at hc'
      have hl : i.toNat < ns.length := by omega
      exact ⟨_, rfl, _, rfl, a, _, i, .int ns[i.toNat], rfl, rfl, hS, at_of (j := i.toNat) (by omega) (by rw [List.getElem?_map, List.getElem?_eq_getElem hl] <;> rfl), ⟨_, rfl⟩, rfl⟩
    rintro v H' ⟨⟨c, rfl⟩, rfl⟩
    refine ⟨fun v H1 => (∃ g : Int, v = .int g) ∧ H1 = H', ⟨_, rfl, c, rfl, _, _, rfl, rfl, ⟨by decide, by decide, by decide⟩, _, _, rfl, rfl, _, rfl, ite2 (fun _ => ⟨_, rfl, c, rfl, ⟨_, rfl⟩, rfl⟩) (fun _ => ⟨⟨0, rfl⟩, rfl⟩)⟩, ?_⟩
    rintro v H1 ⟨⟨g, rfl⟩, rfl⟩
    refine ⟨_, rfl, _, rfl, _, _, rfl, rfl, (by decide : (0 : Int) < 2147483629), _, _, rfl, rfl, .inr ⟨by decide, by decide⟩, _, rfl, _, _, rfl, rfl, .inl ⟨by decide, by decide⟩, _, _, rfl, rfl, _, _, rfl, rfl, _, _, rfl, rfl, (by decide : (0 : Int) < 2147483587), by show 3 ≤ sizeLine; decide, fun p hp => ?_⟩
    refine kk p _ hp (fun b o e => by rw [upd_ne (ne_of_none e hp)]; exact e) ⟨g, _, 0, upd_same, Int.emod_nonneg _ (by decide), Int.emod_lt_of_pos _ (by decide), by decide, by decide⟩

def sp_law_take : Sp := fun vs H Q _ => ∃ (p : Addr) (k : Int) (b : Nat), vs = [.ref p, .int k] ∧ 0 < k ∧ k < 2 ^ 30 ∧ Bag H p b ∧ b ≤ 1000000000 ∧
  ∀ (r : Int) (H' : Hp), 0 ≤ r → r < k → Bag H' p (b + 1) → Gr p H H' → Q (.int r) H'
theorem ok_law_take (T : Txt K mg) : FnOk P w K mg base CX0 1 T.f_law_take T.d_law_take ["_law_bag_here", "_law_many"] sp_law_take := by
  refine T.F_law_take.ok sc_law_take (fun vs H Q E h => ?_) (fun cdv A outer s H vs Q E hr h => ?_)
  · obtain ⟨p, k, b, rfl, _⟩ := h
    rfl
  · obtain ⟨p, k, b, rfl, k0, k1, ⟨g, m, n, hp, m0, m1, n0, n1⟩, hb, kk⟩ := h
    have hkd : CDivW 0 k := ⟨k0, by
      have h2 : k.natAbs < 2 ^ 30 := by omega
      have := PySem.Flt.log2_lt_of (by decide) h2
      omega⟩
    refine ⟨_, (pss_cons (ps_if (pt_cmpR op_gt (pe_ix (ix_list : IxR _ (rIxL K)) (pv 0) pe_int (fun _ _ => rfl)) pe_int (nomark _))
          (pss_cons (ps_set (i := 2) sc_law_take.nd rfl (.inl rfl) (pe_op op_mod (pe_ix (ix_list : IxR _ (rIxL K)) (pv 0) pe_int (fun _ _ => rfl)) (pv 1)))
          (pss_cons (ps_asg (pe_op op_fdivW (pe_ix (ix_list : IxR _ (rIxL K)) (pv 0) pe_int (fun _ _ => rfl)) (pv 1)) (pg_sub (pv 0) pe_int set_list))
          (pss_one (ps_ret (pv 2)))))
          pss_nil)
        (pss_cons (ps_asg (pe_op op_add (pe_ix (ix_list : IxR _ (rIxL K)) (pv 0) pe_int (fun _ _ => rfl)) pe_int) (pg_sub (pv 0) pe_int set_list))
        (pss_cons (ps_set (i := 3) sc_law_take.nd rfl (.inl rfl) (pe_op op_mod (pe_op op_pow (pe_op op_add (pe_ix (ix_list : IxR _ (rIxL K)) (pv 0) pe_int (fun _ _ => rfl)) (pe_op op_mul pe_int (pe_ix (ix_list : IxR _ (rIxL K)) (pv 0) pe_int (fun _ _ => rfl)))) pe_int) pe_int))
        (pss_one (ps_ret (pe_op op_mod (pe_op op_fdivW (pe_op op_mod (pe_op op_add (pe_op op_mul (pv 3) pe_int) (pe_op op_mul pe_int (pe_ix (ix_list : IxR _ (rIxL K)) (pv 0) pe_int (fun _ _ => rfl)))) pe_int) pe_int) (pv 1))))))), ?_⟩
    refine ⟨_, rfl, p, _, 0, _, rfl, rfl, SqL.of hp, rfl, _, _, rfl, rfl, _, rfl, ite2 (fun hc => ?_) (fun hc => ?_)⟩
    · refine ⟨_, rfl, p, _, 0, _, rfl, rfl, SqL.of hp, rfl, _, rfl, _, _, rfl, rfl, k0, ?_⟩
      refine ⟨_, rfl, p, _, 0, _, rfl, rfl, SqL.of hp, rfl, _, rfl, _, _, rfl, rfl, hkd, _, rfl, ?_⟩
      refine ⟨p, _, 0, 0, rfl, rfl, hp, rfl, ?_⟩
      refine ⟨_, rfl, ?_⟩
      exact kk _ _ (Int.emod_nonneg _ (by omega)) (Int.emod_lt_of_pos _ k0) ⟨_, m, n, upd_same, m0, m1, n0, by omega⟩ fun q o hq e => by rw [upd_ne hq]; exact e
    · refine ⟨_, rfl, p, _, 2, _, rfl, rfl, SqL.of hp, rfl, _, _, rfl, rfl, _, rfl, ?_⟩
      refine ⟨p, _, 2, 2, rfl, rfl, hp, rfl, ?_⟩
      have small : CPow (m + 79190251 * (n + 1)) 3 := ⟨by decide, by decide, by omega⟩
      refine ⟨_, rfl, p, _, 1, _, rfl, rfl, SqL.of upd_same, rfl, _, rfl, p, _, 2, _, rfl, rfl, SqL.of upd_same, rfl, _, _, rfl, rfl, .inl ⟨by decide, by decide⟩, _, _, rfl, rfl, _, _, rfl, rfl, small, _, _, rfl, rfl, (by decide : (0 : Int) < 2305843009213693951), ?_⟩
      refine ⟨_, rfl, _, _, rfl, rfl, .inr ⟨by decide, by decide⟩, _, rfl, p, _, 2, _, rfl, rfl, SqL.of upd_same, rfl, _, _, rfl, rfl, .inl ⟨by decide, by decide⟩, _, _, rfl, rfl, _, _, rfl, rfl, (by decide : (0 : Int) < 2305843009213693921), _, _, rfl, rfl, (⟨by decide, by decide +kernel⟩ : CDivW 0 4096), _, rfl, _, _, rfl, rfl, k0, ?_⟩
      exact kk _ _ (Int.emod_nonneg _ (by omega)) (Int.emod_lt_of_pos _ k0) ⟨_, _, _, upd_same, m0, m1, by omega, by omega⟩ fun q o hq e => by rw [upd_ne hq]; exact e

def sp_law_is_nameS : Sp := fun vs H Q _ => ∃ x : Str, vs = [.str x] ∧ x.length ≤ 100000 ∧ lowS x ∧ ∀ H', Same H H' → Q (.bl (nmB x)) H'
/-- the signs that are no letters -/
def oddS (l : List Nat) : List Str := (l.filter fun c => !(decide (97 ≤ c) && decide (c ≤ 122))).map fun c => ⟨#[c]⟩
theorem ok_law_is_nameS (T : Txt K mg) : FnOk P w K mg base CX0 1 T.f_law_is_name T.d_law_is_name ["_law_thing"] sp_law_is_nameS := by
  refine T.F_law_is_name.ok sc_law_is_name (fun vs H Q E h => ?_) (fun cdv A outer s H vs Q E hr h => ?_)
  · obtain ⟨x, rfl, _⟩ := h
    rfl
  · obtain ⟨x, rfl, hl, hlow, kk⟩ := h
    refine ⟨_, (pss_cons (ps_if (pt_cut (PW.pt (pw_or (pt_not (pt_val (pe_callB call_isi (by rfl) T.z_isinstance (by decide +kernel) (pa_cons (pv 0) (pa_cons (pe_bltn (v := .ty "str") (by rfl) T.z_str (by decide +kernel) rfl) pa_nil))))) (pw_or1 (pt_not (pt_chain op_le op_le pe_int (pe_callB call_len_str (by rfl) T.z_len (by decide +kernel) (pa_cons (pv 0) pa_nil)) pe_int))))))
          (pss_one (ps_ret pe_bl))
          pss_nil)
        (pss_one (ps_ret (pe_cmpR (op_eqD hr.units : OpR _ _ (rEqD K)) (pe_lc (own := [("_law_sign", 1)]) (g := (gName 1)) rfl sc_law_is_name.nd (pi_str (pv 0)) (blkOk_by (own := [("_law_sign", 1)]) (N := N_law_is_name) (sc := defScope s_law_is_name) (by decide +kernel)) (fun _ _ _ _ _ => (pg_name (i := 1) sc_law_is_name.nd rfl (.inl rfl))) (fun _ _ _ _ _ => pts_one (pt_cmpR op_notIn_sign (pv 1) pe_str (by rfl))) (fun _ _ _ _ _ => (pv 1))) (pe_lst pa_nil) (nomark _))))), ?_⟩
    have e0 : x.cps.size = x.length := rfl
    refine ⟨fun b H' => b = !(decide (1 ≤ x.length) && decide (x.length ≤ 6)) ∧ H' = H, ?_, ?_⟩
    · refine ⟨_, rfl, .str x, .ty "str", .type "str", .type "str", true, rfl, .ty _, .base (.str x), rfl, true, rfl, ?_⟩
      refine iteF ?_
      refine ⟨_, rfl, x, rfl, by rw [sizeLine_eq]; omega, _, _, rfl, rfl, _, rfl, ?_⟩
      by_cases c1 : 1 ≤ x.length
      · rw [decide_eq_true (show (1 : Int) ≤ (x.length : Int) by omega)]
        refine iteT ⟨_, _, rfl, rfl, _, rfl, ?_⟩
        refine ⟨?_, rfl⟩
        rw [decide_eq_true c1]
        by_cases c2 : x.length ≤ 6
        · rw [decide_eq_true c2, decide_eq_true (show (x.length : Int) ≤ 6 by omega)]
          rfl
        · rw [decide_eq_false c2, decide_eq_false (show ¬ (x.length : Int) ≤ 6 by omega)]
          rfl
      · rw [decide_eq_false (show ¬ (1 : Int) ≤ (x.length : Int) by omega)]
        refine iteF ⟨_, rfl, ?_, rfl⟩
        rw [decide_eq_false c1]
        rfl
    · rintro b H' ⟨rfl, rfl⟩
      by_cases c : (decide (1 ≤ x.length) && decide (x.length ≤ 6)) = true
      · rw [c]
        refine iteF ?_
        have c' := c
        rw [Bool.and_eq_true, decide_eq_true_eq, decide_eq_true_eq] at c
        obtain ⟨c1, c2⟩ := c
        refine ⟨_, rfl, x, rfl, fun D hD => ?_⟩
        refine lc_it (walk_str (z := x)) (fun i H2 => H2 D = some (.lst ((oddS (x.cps.toList.take i)).map V.str)) ∧ Same H' H2) ⟨upd_same, Same.mk1 hD⟩ (fun _ _ _ _ => True.intro) ?_ ?_
        · rintro i y H2 H3 hi ⟨hD2, s2⟩ ⟨rfl, c, hc, rfl⟩
          have z : x.cps.toList[i]? = some c := by rw [Array.getElem?_toList]; exact hc
          have ee : decide (c ∈ (("abcdefghijklmnopqrstuvwxyz" : String) : Str).cps.toList) = (decide (97 ≤ c) && decide (c ≤ 122)) := by
            rw [Bool.eq_iff_iff, decide_eq_true_eq, abc_mem, Bool.and_eq_true, decide_eq_true_eq, decide_eq_true_eq]
          refine ⟨rfl, _, rfl, c, "abcdefghijklmnopqrstuvwxyz", rfl, rfl, _, rfl, ?_⟩
          rw [ee]
          have tk : oddS (x.cps.toList.take (i + 1)) = oddS (x.cps.toList.take i) ++ (if (!(decide (97 ≤ c) && decide (c ≤ 122))) = true then [⟨#[c]⟩] else []) := by
            unfold oddS
            rw [take_next z, List.filter_append, List.map_append]
            congr 1
            cases q : (!(decide (97 ≤ c) && decide (c ≤ 122))) with
            | true => rw [List.filter_cons, if_pos q, if_pos rfl]; rfl
            | false => rw [List.filter_cons, if_neg (by rw [q]; decide), if_neg (by decide)]; rfl
          have lt : (oddS (x.cps.toList.take i)).length ≤ 99999 := by
            unfold oddS
            rw [List.length_map]
            have := List.length_filter_le (fun c => !(decide (97 ≤ c) && decide (c ≤ 122))) (x.cps.toList.take i)
            rw [List.length_take] at this
            omega
          refine ite2 (fun hb => ?_) (fun hb => ?_)
          · refine ⟨_, rfl, _, hD2, by rw [List.length_map, sizeLine_eq]; omega, ?_, Same.put s2 hD⟩
            rw [upd_same, tk, if_pos hb, List.map_append]
            rfl
          · refine ⟨?_, s2⟩
            rw [tk, if_neg hb, List.append_nil]
            exact hD2
        · rintro H2 ⟨hD2, s2⟩
          rw [← Array.length_toList, List.take_length] at hD2
          have okl : ∀ y ∈ oddS x.cps.toList, PyData.strOk y = true := fun y hy => by
            obtain ⟨c, hc, rfl⟩ := List.mem_map.mp hy
            exact lowS.ok fun d hd => by
              cases List.mem_singleton.mp (show d ∈ [c] from hd)
              exact hlow c ((List.mem_filter.mp hc).1)
          refine ⟨by show 0 ≤ sizeLine; decide, fun e ne => ?_⟩
          have se := Same.mk1 (o := .lst []) ne
          refine ⟨strsL (oddS x.cps.toList), strsL [], strsL_dp (SqL.of (se _ _ hD2)), strsL_dp (SqL.of upd_same), strsL_shaped okl, strsL_shaped (fun _ z => nomatch z), ?_⟩
          rw [strsL_nil]
          have ee : decide (oddS x.cps.toList = []) = nmB x := by
            unfold nmB oddS
            rw [c', Bool.true_and, Bool.eq_iff_iff, decide_eq_true_eq, List.map_eq_nil_iff, List.filter_eq_nil_iff, List.all_eq_true]
            refine forall_congr' fun c => forall_congr' fun _ => ?_
            cases (decide (97 ≤ c) && decide (c ≤ 122)) <;> simp
          rw [ee]
          exact kk _ (s2.trans se)
      · have cf : (decide (1 ≤ x.length) && decide (x.length ≤ 6)) = false := Bool.eq_false_iff.mpr c
        rw [cf]
        refine iteT ?_
        have ee : nmB x = false := by
          unfold nmB
          rw [cf]
          rfl
        have := kk H' (Same.refl _)
        rw [ee] at this
        exact this

theorem ok_law_is_nameO (T : Txt K mg) : FnOk P w K mg base CX0 1 T.f_law_is_name T.d_law_is_name ["_law_thing"] (sp_is_nameO K) := by
  refine T.F_law_is_name.ok sc_law_is_name (fun vs H Q E h => ?_) (fun cdv A outer s H vs Q E hr h => ?_)
  · obtain ⟨v, rfl, _⟩ := h
    rfl
  · obtain ⟨v, rfl, ⟨t, ht, hk⟩, q⟩ := h
    refine ⟨_, (pss_cons (ps_if (pt_cut (PW.pt (pw_or (pt_not (pt_val (pe_callB call_isi (by rfl) T.z_isinstance (by decide +kernel) (pa_cons (pv 0) (pa_cons (pe_bltn (v := .ty "str") (by rfl) T.z_str (by decide +kernel) rfl) pa_nil))))) (pw_or1 (pt_not (pt_chain op_le op_le pe_int (pe_callB call_len_str (by rfl) T.z_len (by decide +kernel) (pa_cons (pv 0) pa_nil)) pe_int))))))
          (pss_one (ps_ret pe_bl))
          pss_nil)
        (pss_one (ps_ret (pe_cmpR (op_eqD hr.units : OpR _ _ (rEqD K)) (pe_lc (own := [("_law_sign", 1)]) (g := (gName 1)) rfl sc_law_is_name.nd (pi_str (pv 0)) (blkOk_by (own := [("_law_sign", 1)]) (N := N_law_is_name) (sc := defScope s_law_is_name) (by decide +kernel)) (fun _ _ _ _ _ => (pg_name (i := 1) sc_law_is_name.nd rfl (.inl rfl))) (fun _ _ _ _ _ => pts_one (pt_cmpR op_notIn_sign (pv 1) pe_str (by rfl))) (fun _ _ _ _ _ => (pv 1))) (pe_lst pa_nil) (nomark _))))), ?_⟩
    refine ⟨fun b H' => b = true ∧ H' = H, ?_, ?_⟩
    · refine ⟨_, rfl, v, .ty "str", t, .type "str", false, rfl, .ty _, ht, hk, false, rfl, ?_⟩
      exact iteT ⟨rfl, rfl⟩
    · rintro b H' ⟨rfl, rfl⟩
      exact iteT q
theorem ok_law_is_name (T : Txt K mg) : FnOk P w K mg base CX0 1 T.f_law_is_name T.d_law_is_name ["_law_thing"] (fun vs H Q E => sp_law_is_nameS vs H Q E ∨ sp_is_nameO K vs H Q E) := FnOk.or (ok_law_is_nameS T) (ok_law_is_nameO T)

abbrev cL (x : Str) : List Nat := x.cps.toList
theorem cL_len (z : Str) : (cL z).length = z.length := Array.length_toList ..
theorem low_app {x y : Str} (h1 : lowS x) (h2 : lowS y) : lowS (x ++ y) := fun c hc => by
  have hc : c ∈ (x.cps ++ y.cps).toList := hc
  rw [Array.toList_append] at hc
  rcases List.mem_append.mp hc with z | z
  · exact h1 c z
  · exact h2 c z
theorem join_low : ∀ ys : List Str, (∀ y ∈ ys, lowS y) → lowS (Str.join "" ys)
  | [], _ => fun c hc => nomatch hc
  | [x], h => h x List.mem_cons_self
  | x :: y :: r, h => low_app (low_app (h x List.mem_cons_self) (fun c hc => nomatch hc)) (join_low (y :: r) fun z hz => h z (List.mem_cons_of_mem _ hz))
theorem join_len1 : ∀ ys : List Str, (∀ y ∈ ys, y.length = 1) → (Str.join "" ys).length = ys.length
  | [], _ => rfl
  | [x], h => h x List.mem_cons_self
  | x :: y :: r, h => by
    have ih := join_len1 (y :: r) fun z hz => h z (List.mem_cons_of_mem _ hz)
    show (x ++ "" ++ Str.join "" (y :: r)).length = _
    rw [strLen_append, strLen_append, ih, h x List.mem_cons_self]
    have e : (("" : String) : Str).length = 0 := rfl
    rw [e]
    simp only [List.length_cons]
    omega
theorem sum_ones : ∀ ys : List Str, (∀ y ∈ ys, y.length = 1) → (ys.map (·.length)).sum = ys.length
  | [], _ => rfl
  | x :: r, h => by
    rw [List.map_cons, List.sum_cons, sum_ones r fun z hz => h z (List.mem_cons_of_mem _ hz), h x List.mem_cons_self, List.length_cons, Nat.add_comm]
theorem bag_put {H : Hp} {p c : Addr} {o : HO} {b : Nat} (B : Bag H p b) (h : p ≠ c) : Bag (upd H c o) p b := by
  obtain ⟨_, _, _, e, d⟩ := B.ex
  exact ⟨⟨_, _, _, by rw [upd_ne h]; exact e, d⟩⟩
def sp_law_string : Sp := fun vs H Q _ => ∃ (p : Addr) (b : Nat), vs = [.ref p] ∧ Bag H p b ∧ b ≤ 999999900 ∧ ∀ (x : Str) (H' : Hp), x.length ≤ 8 → lowS x → Gr p H H' → Bag H' p (b + 10) → Q (.str x) H'
theorem ok_law_string (T : Txt K mg) : FnOk P w K mg base CX0 2 T.f_law_string T.d_law_string ["_law_bag_here"] sp_law_string := by
  refine T.F_law_string.ok sc_law_string (fun vs H Q E h => ?_) (fun cdv A outer s H vs Q E hr h => ?_)
  · obtain ⟨p, b, rfl, _⟩ := h
    rfl
  · obtain ⟨p, b, rfl, B, hb, kk⟩ := h
    refine ⟨_, (pss_cons (ps_set (i := 1) sc_law_string.nd rfl (.inr rfl) pe_str)
        (pss_cons (ps_if (pt_cmpR op_eq (pe_call (ok_law_take T) (hr.mono (by decide)) rfl T.m_law_take T.F_law_take.kp T.b_law_take .nil pass0 (pa_cons (pv 0) (pa_cons pe_int pa_nil))) pe_int (nomark _))
          (pss_one (ps_set (i := 1) sc_law_string.nd rfl (.inr rfl) (pe_op op_add_str (pv 1) pe_str)))
          pss_nil)
        (pss_one (ps_ret (pe_join pe_str (pe_lc (own := [("_law_k", 2)]) (g := (gName 2)) (tt := tYes) rfl sc_law_string.nd (pi_range1 rfl T.z_range (pa_cons (pe_call (ok_law_take T) (hr.mono (by decide)) rfl T.m_law_take T.F_law_take.kp T.b_law_take .nil pass0 (pa_cons (pv 0) (pa_cons pe_int pa_nil))) pa_nil)) (blkOk_by (own := [("_law_k", 2)]) (N := N_law_string) (sc := defScope s_law_string) (by decide +kernel)) (fun _ _ _ _ _ => (pg_name (i := 2) sc_law_string.nd rfl (.inl rfl))) (fun _ _ _ _ _ => pts_nil) (fun _ _ _ _ _ => (pe_ix ix_str (pv 1) (pe_call (ok_law_take T) (hr.mono (by decide)) rfl T.m_law_take T.F_law_take.kp T.b_law_take .nil pass0 (pa_cons (pv 0) (pa_cons (pe_callB call_len_str (by rfl) T.z_len (by decide +kernel) (pa_cons (pv 1) pa_nil)) pa_nil))) (fun _ _ => rfl))))))))), ?_⟩
    refine ⟨_, rfl, p, 3, b, rfl, by decide, by decide, B, by omega, fun r H1 r0 r1 B1 g1 => ?_⟩
    have low1 : lowS ("abcdefghijklmnopqrstuvwxyz" : Str) := by unfold lowS; decide +kernel
    have low2 : lowS ("abcdefghijklmnopqrstuvwxyz" ++ "ABZ0_ (),.-" : Str) := low_app low1 (by unfold lowS; decide +kernel)
    have len1 : ("abcdefghijklmnopqrstuvwxyz" : Str).length = 26 := by decide +kernel
    have len2 : ("abcdefghijklmnopqrstuvwxyz" ++ "ABZ0_ (),.-" : Str).length = 37 := by decide +kernel
    refine ⟨rfl, _, rfl, ite2 (fun hc => ?_) (fun hc => ?_)⟩
    · refine ⟨_, rfl, _, _, rfl, rfl, by decide +kernel, ?_⟩
      revert low2 len2
      generalize ("abcdefghijklmnopqrstuvwxyz" ++ "ABZ0_ (),.-" : Str) = z
      intro lz hz
      have hz1 : 1 ≤ z.length := by omega
      have hz2 : z.length ≤ 60 := by omega
      refine ⟨⟨_, rfl⟩, _, rfl, p, 9, b + 1, rfl, by decide, by decide, B1, by omega, fun n H2 n0 n1 B2 g2 => ?_⟩
      have g12 := g1.trans g2
      obtain ⟨n, rfl⟩ := Int.eq_ofNat_of_zero_le n0
      refine ⟨_, rfl, by omega, by omega, fun D hD => ?_⟩
      have hDp := B2.ne hD
      refine lc_it (walk_range (lo := 0) (n := n)) (fun i H3 => ∃ ws : List Str, H3 D = some (.lst (ws.map V.str)) ∧ ws.length = i ∧ (∀ y ∈ ws, y.length = 1 ∧ lowS y) ∧ Gr p H2 H3 ∧ Bag H3 p (b + 2 + i)) ⟨[], upd_same, rfl, (fun _ h => nomatch h), Gr.same (Same.mk1 hD), (B2.grow (Same.mk1 hD)).mono (by omega)⟩ (fun _ _ _ _ => True.intro) ?_ ?_
      · rintro i y H3 H4 hi ⟨ws, hD3, hl, hw, g3, B3⟩ ⟨rfl, rfl⟩
        refine ⟨rfl, _, rfl, _, rfl, _, rfl, z, rfl, by rw [sizeLine_eq]; omega, p, (z.length : Nat), b + 2 + i, rfl, by omega, by omega, B3, by omega, fun sg H4 s0 s1 B4 g4 => ?_⟩
        obtain ⟨sg, rfl⟩ := Int.eq_ofNat_of_zero_le s0
        have hlt : sg < (cL z).length := by rw [cL_len]; omega
        have hD4 := g4 _ _ hDp hD3
        refine ⟨_, _, (cL z)[sg], rfl, rfl, by rw [sizeLine_eq]; omega, atI_nat (List.getElem?_eq_getElem hlt), _, hD4, by rw [List.length_map, hl, sizeLine_eq]; omega, ws ++ [⟨#[(cL z)[sg]]⟩], ?_, ?_, ?_, ?_, ?_⟩
        · rw [upd_same, List.map_append]
          rfl
        · rw [List.length_append, hl]
          rfl
        · intro y hy
          rcases List.mem_append.mp hy with h | h
          · exact hw y h
          · cases List.mem_singleton.mp h
            refine ⟨rfl, fun c hc => ?_⟩
            cases List.mem_singleton.mp (show c ∈ [(cL z)[sg]] from hc)
            exact lz _ (List.getElem_mem hlt)
        · exact (g3.trans g4).put hD
        · exact (bag_put B4 (Ne.symm hDp)).mono (by omega)
      · rintro H3 ⟨ws, hD3, hl, hw, g3, B3⟩
        refine ⟨_, D, ws, rfl, rfl, .inl (SqL.of hD3), ?_, ?_⟩
        · rw [sum_ones ws fun y hy => (hw y hy).1, hl]
          have e : (("" : String) : Str).length = 0 := rfl
          rw [e]
          omega
        · have ej : PySem.Txt.join "" ws = Str.join "" ws := StrLaws.glued_eq_join _ _
          rw [ej]
          exact kk _ _ (by rw [join_len1 ws fun y hy => (hw y hy).1, hl]; omega) (join_low ws fun y hy => (hw y hy).2) (g12.trans g3) (B3.mono (by omega))
    · revert low1 len1
      generalize ("abcdefghijklmnopqrstuvwxyz" : Str) = z
      intro lz hz
      have hz1 : 1 ≤ z.length := by omega
      have hz2 : z.length ≤ 60 := by omega
      refine ⟨⟨_, rfl⟩, _, rfl, p, 9, b + 1, rfl, by decide, by decide, B1, by omega, fun n H2 n0 n1 B2 g2 => ?_⟩
      have g12 := g1.trans g2
      obtain ⟨n, rfl⟩ := Int.eq_ofNat_of_zero_le n0
      refine ⟨_, rfl, by omega, by omega, fun D hD => ?_⟩
      have hDp := B2.ne hD
      refine lc_it (walk_range (lo := 0) (n := n)) (fun i H3 => ∃ ws : List Str, H3 D = some (.lst (ws.map V.str)) ∧ ws.length = i ∧ (∀ y ∈ ws, y.length = 1 ∧ lowS y) ∧ Gr p H2 H3 ∧ Bag H3 p (b + 2 + i)) ⟨[], upd_same, rfl, (fun _ h => nomatch h), Gr.same (Same.mk1 hD), (B2.grow (Same.mk1 hD)).mono (by omega)⟩ (fun _ _ _ _ => True.intro) ?_ ?_
      · rintro i y H3 H4 hi ⟨ws, hD3, hl, hw, g3, B3⟩ ⟨rfl, rfl⟩
        refine ⟨rfl, _, rfl, _, rfl, _, rfl, z, rfl, by rw [sizeLine_eq]; omega, p, (z.length : Nat), b + 2 + i, rfl, by omega, by omega, B3, by omega, fun sg H4 s0 s1 B4 g4 => ?_⟩
        obtain ⟨sg, rfl⟩ := Int.eq_ofNat_of_zero_le s0
        have hlt : sg < (cL z).length := by rw [cL_len]; omega
        have hD4 := g4 _ _ hDp hD3
        refine ⟨_, _, (cL z)[sg], rfl, rfl, by rw [sizeLine_eq]; omega, atI_nat (List.getElem?_eq_getElem hlt), _, hD4, by rw [List.length_map, hl, sizeLine_eq]; omega, ws ++ [⟨#[(cL z)[sg]]⟩], ?_, ?_, ?_, ?_, ?_⟩
        · rw [upd_same, List.map_append]
          rfl
        · rw [List.length_append, hl]
          rfl
        · intro y hy
          rcases List.mem_append.mp hy with h | h
          · exact hw y h
          · cases List.mem_singleton.mp h
            refine ⟨rfl, fun c hc => ?_⟩
            cases List.mem_singleton.mp (show c ∈ [(cL z)[sg]] from hc)
            exact lz _ (List.getElem_mem hlt)
        · exact (g3.trans g4).put hD
        · exact (bag_put B4 (Ne.symm hDp)).mono (by omega)
      · rintro H3 ⟨ws, hD3, hl, hw, g3, B3⟩
        refine ⟨_, D, ws, rfl, rfl, .inl (SqL.of hD3), ?_, ?_⟩
        · rw [sum_ones ws fun y hy => (hw y hy).1, hl]
          have e : (("" : String) : Str).length = 0 := rfl
          rw [e]
          omega
        · have ej : PySem.Txt.join "" ws = Str.join "" ws := StrLaws.glued_eq_join _ _
          rw [ej]
          exact kk _ _ (by rw [join_len1 ws fun y hy => (hw y hy).1, hl]; omega) (join_low ws fun y hy => (hw y hy).2) (g12.trans g3) (B3.mono (by omega))

open LamX hiding takes0
/-- what the law shows of the rule of a name -/
def nmD (n : Str) : PyData := .list [.str n, .str "base", .tuple [.str n], .tuple []]
theorem nm_signs {n : Str} (h : nmB n = true) : signsD (nmD n) = true ∧ costD (nmD n) ≤ 16000000 := by
  simp only [nmB, Bool.and_eq_true, List.all_eq_true, decide_eq_true_eq] at h
  obtain ⟨⟨h1, h2⟩, h3⟩ := h
  have s1 : signsD (.str n) = true := by
    show n.cps.toList.all _ = true
    rw [List.all_eq_true]
    intro c hc
    have := h3 c hc
    exact decide_eq_true (by omega)
  have s2 : signsD (.str "base") = true := by decide +kernel
  refine ⟨?_, ?_⟩
  · show (signsD (.str n) && (signsD (.str "base") && ((signsD (.str n) && true) && (true && true)))) = true
    rw [s1, s2]
    rfl
  · have e : (("base" : String) : Str).length = 4 := rfl
    simp only [nmD, costD, costL, e]
    omega
/-- the name's rule, or the value that is no name -/
def TTout (K : PySem.W.Frag) (C CB : Addr) : (XK → Hp → VK → Prop) → Hp → VK → Prop := fun tl H Q => ∀ G : VK, (∀ v H', (∃ (q : Addr) (n : Str), v = .ref q ∧ nmB n = true ∧ RuleAt C H' (.base n) q ∧ ∀ (l : Addr) (H2 : Hp), Same H' H2 → H2 l = some (.lst [.str "rule", .bl true, .str (nmD n).shown]) → Q (.ref l) H2) → G v H') →
  tl (fun cls d H' => ∃ (dx : Addr) (v : V) (t : Str), cls = .ref CB ∧ d = some dx ∧ H' dx = some (.xd [("name", v)]) ∧ ShV K C H' v t ∧ ∀ (l : Addr) (H2 : Hp), Same H' H2 → H2 l = some (.lst [.str "BadName", .bl true, .str t]) → Q (.ref l) H2) H G
theorem gives_law_outcome {X : Cx} (T : Txt X.K X.mg) (hr0 : Room 13 X.A) (hg0 : NoG X.A) {g : Addr} {cdg : Value} {q : Str} : GivesTo X N_law_outcome "_law_outcome" (defScope s_law_outcome) g cdg (defBody s_law_outcome) "_law_deed" q (TTout X.K T.C_Rule T.C_BadName) := by
  intro f c' s H Q tl act hc h
  have hr := hr0.deeper (envOfC "_law_outcome" (defScope s_law_outcome) s.heap.objs.size g cdg)
  have hg := hg0.dp (envOfC "_law_outcome" (defScope s_law_outcome) s.heap.objs.size g cdg)
  refine ⟨_, (pss_cons (ps_try_as (i := 2) (Wout := fun _ _ _ _ => False) rfl rfl sc_law_outcome.nd rfl rfl ⟨rfl, by decide, .inl T.m_BadName⟩ takes0
          (fun W pn xe tk _ => (pss_one (ps_set (i := 1) sc_law_outcome.nd rfl (.inl rfl) (pe_actW act tk))))
          (fun a oe cls d pn hz hf => (pss_one (ps_ret (pe_lst (pa_cons pe_str (pa_cons (pe_cut (pe_and (pe_callB (call_isED T.ec_BadName hz hf) (by rfl) T.z_isinstance (by decide +kernel) (pa_cons (pv 2) (pa_cons (pe_bltn (v := .ty "ValueError") (by rfl) T.z_ValueError (by decide +kernel) rfl) pa_nil))) (pe_one (pe_not (pe_callB (call_isEDT T.ec_BadName hz hf) (by rfl) T.z_isinstance (by decide +kernel) (pa_cons (pv 2) (pa_cons (pe_tup (pa_cons (pe_glob (v := .ref T.C_BadRule) rfl T.m_BadRule rfl) (pa_cons (pe_glob (v := .ref T.C_BadText) rfl T.m_BadText rfl) pa_nil))) pa_nil))))))) (pa_cons (pe_callB (reprV_hot (k := 12) T rfl rfl ⟨hr.dp, hr.un⟩ hg List.mem_cons_self) (by rfl) T.z_repr (by decide +kernel) (pa_cons (pe_xf T.x_BadName.xf T.x_BadName.nf hz hf (pv 2)) pa_nil)) pa_nil))))))))
        (pss_cons (ps_set (i := 3) sc_law_outcome.nd rfl (.inl rfl) (pe_callB (call_repr hr hg) (by rfl) T.z_repr (by decide +kernel) (pa_cons (pe_lst (pa_cons (pe_callTy (call_strC T.om_Rule_str (ok_Rule_str T) (hr.mono (by decide)) T.b_Rule_str pass0) (by rfl) T.z_str (by decide +kernel) (pa_cons (pv 1) pa_nil)) (pa_cons (pe_prop (pv 1) T.cl_Rule T.pr_Rule_word (ok_Rule_word T) (hr.mono (by decide)) T.b_Rule_word .nil pass0 rfl) (pa_cons (pe_prop (pv 1) T.cl_Rule T.pr_Rule_names (ok_Rule_names T) (hr.mono (by decide)) T.b_Rule_names .nil pass0 rfl) (pa_cons (pe_prop (pv 1) T.cl_Rule T.pr_Rule_parts (ok_Rule_parts T) (hr.mono (by decide)) T.b_Rule_parts .nil pass0 rfl) pa_nil))))) pa_nil)))
        (pss_one (ps_ret (pe_lst (pa_cons pe_str (pa_cons (pe_cut (pe_and (pe_callB call_isi (by rfl) T.z_isinstance (by decide +kernel) (pa_cons (pv 1) (pa_cons (pe_glob (v := .ref T.C_Rule) rfl T.m_Rule rfl) pa_nil))) (pe_one (pe_cmpR op_eq (pe_callB (call_lenC T.om_Rule_len (ok_Rule_len T) (hr.mono (by decide)) T.b_Rule_len pass0) (by rfl) T.z_len (by decide +kernel) (pa_cons (pv 1) pa_nil)) pe_int (nomark _))))) (pa_cons (pv 3) pa_nil)))))))), ?_⟩
  refine ⟨fun cls d H' => ∃ (dx : Addr) (v : V) (t : Str), cls = .ref T.C_BadName ∧ d = some dx ∧ H' dx = some (.xd [("name", v)]) ∧ ShV X.K T.C_Rule H' v t ∧ ∀ (l : Addr) (H2 : Hp), Same H' H2 → H2 l = some (.lst [.str "BadName", .bl true, .str t]) → Q (.ref l) H2, fun cls d σ' H' l2 e => ?_, rfl, hc, h _ fun v H' hgv => ?_⟩
  · obtain ⟨x0, x1, x2, x3, rfl⟩ : ∃ x0 x1 x2 x3, σ' = [x0, x1, x2, x3] := by
      match σ', l2 with
      | [x0, x1, x2, x3], _ => exact ⟨x0, x1, x2, x3, rfl⟩
    obtain ⟨dx, v, t, rfl, rfl, hd, hv, kk⟩ := e
    refine ⟨true, T.x_BadName.ex, fun _ a na => ?_, fun z => nomatch z⟩
    refine ⟨fun v H2 => v = .bl true ∧ Same H' H2, ?_, ?_⟩
    · refine ⟨_, rfl, .ty "ValueError", .type "ValueError", true, dx, _, rfl, rfl, rfl, hd, .ty _, T.kx_BadName_ValueError, true, rfl, iteT ?_⟩
      refine ⟨_, rfl, (by show 2 ≤ sizeLine; decide), fun tp ntp => ?_⟩
      have stp := Same.mk1 (o := .tup [.ref T.C_BadRule, .ref T.C_BadText]) ntp
      refine ⟨tp, [.ref T.C_BadRule, .ref T.C_BadText], [.ref T.C_BadRule, .ref T.C_BadText], false, dx, _, rfl, rfl, rfl, stp _ _ hd, upd_same, .cons (.own _) (.cons (.own _) .nil), ?_, false, rfl, rfl, stp⟩
      exact kitAny_cons T.kx_BadName_BadRule (fun _ => kitAny_cons T.kx_BadName_BadText (fun _ => kitAny_nil) (fun z => nomatch z)) (fun z => nomatch z)
    rintro v2 H2 ⟨rfl, s2⟩
    refine ⟨_, rfl, rfl, rfl, dx, _, v, rfl, s2 _ _ hd, rfl, v, t, rfl, hv.same s2, fun H3 s3 => ?_⟩
    refine ⟨by show 3 ≤ sizeLine; decide, fun l nl => ?_⟩
    exact kk l _ (s2.trans (s3.trans (Same.mk1 nl))) upd_same
  · obtain ⟨q, n, rfl, hn, hA, kk⟩ := hgv
    obtain ⟨dx, t, f, b, h1, h2, h3, h4⟩ := id hA
    refine ⟨_, rfl, q, dx, _, rfl, h1, q, .base n, rfl, hA, n, rfl, ?_⟩
    refine ⟨_, rfl, q, dx, _, rfl, h1, q, dx, _, _, rfl, h1, fR_operation, ?_⟩
    refine ⟨_, rfl, q, dx, _, rfl, h1, q, dx, _, _, rfl, h1, fR_base_names, ?_⟩
    refine ⟨_, rfl, q, dx, _, rfl, h1, q, dx, _, _, rfl, h1, fR_operands, ?_⟩
    refine ⟨by show 4 ≤ sizeLine; decide, fun l nl => ?_⟩
    have sl := Same.mk1 (o := .lst [.str n, .str "base", .ref b, .ref t]) nl
    have dp : Dp X.K (upd H' l (.lst [.str n, .str "base", .ref b, .ref t])) (.ref l) (nmD n) :=
      .lst (SqL.of upd_same) (.cons (.str n) (.cons (.str "base") (.cons (.tup (SqT.of (sl _ _ h4)) (.cons (.str n) .nil)) (.cons (.tup (SqT.of (sl _ _ h2)) .nil) .nil))))
    obtain ⟨n1, n2⟩ := nm_signs hn
    have sz : (nmD n).shown.length ≤ sizeLine := by
      have := shown_le (nmD n) rfl n1
      rw [sizeLine_eq]
      omega
    refine ⟨l, nmD n, rfl, dp, rfl, rfl, by show 2 ≤ 60; decide, sz, ?_⟩
    refine ⟨fun v H2 => v = .bl true ∧ H2 = upd H' l (.lst [.str n, .str "base", .ref b, .ref t]), ?_, ?_⟩
    · refine ⟨_, rfl, .ref q, .ref T.C_Rule, .ref T.C_Rule, .ref T.C_Rule, true, rfl, .own _, .base (.ins (sl _ _ h1) T.ic_Rule.cl T.ic_Rule.ha T.ic_Rule.hn T.ic_Rule.htk T.ic_Rule.hm), T.ic_Rule.me, true, rfl, iteT ?_⟩
      refine ⟨_, rfl, q, dx, _, rfl, sl _ _ h1, q, .base n, rfl, hA.same sl, 1, rfl, by decide, by decide, rfl, congrArg V.bl (decide_eq_true rfl), rfl⟩
    · rintro v H2 ⟨rfl, rfl⟩
      refine ⟨_, rfl, by show 3 ≤ sizeLine; decide, fun l2 nl2 => ?_⟩
      exact kk l2 _ (sl.trans (Same.mk1 nl2)) upd_same

open LamX hiding takes0
def sp_law (K : PySem.W.Frag) (P : Addr) : Sp := fun vs H Q _ => ∃ (a : Addr) (ns : List Int), vs = [.ref a] ∧ SqL K H a (ns.map V.int) ∧ ns.length ≤ 63 ∧ H P = some (.tbl #[]) ∧ ∀ H', Q (.bl true) H'
abbrev lamQ (f c : Addr) : Str := (envOfC "law" (defScope s_law) 0 f (.ref c)).qual ++ "<lambda>"
theorem ExtN.seq {H H' : Hp} {a : Addr} {xs : List V} (e : ExtN H H') (h : SqL K H a xs) : SqL K H' a xs := by
  rcases h with (z | ⟨o, z⟩) | z
  · exact .inl (.inl (e _ _ z fun _ y => nomatch y))
  · exact .inl (.inr ⟨o, e _ _ z fun _ y => nomatch y⟩)
  · exact .inr z
/-- nothing but a table stands at p -/
def NoN (H : Hp) (p : Addr) : Prop := ∀ o, H p = some o → (∀ ps, o ≠ .tbl ps) → False
theorem ExtN.grN {H H1 H2 : Hp} {p : Addr} (e : ExtN H H1) (g : Gr p H1 H2) (hp : NoN H p) : ExtN H H2 := fun b o h n => g _ _ (fun z => hp o (z ▸ h) n) (e b o h n)
theorem Bag.ext {H H' : Hp} {p : Addr} {b : Nat} (B : Bag H p b) (s : ExtN H H') : Bag H' p b := by
  obtain ⟨b1, b2, b3, b4, b5⟩ := B.ex
  exact ⟨⟨b1, b2, b3, s _ _ b4 (fun _ z => nomatch z), b5⟩⟩
theorem Bag.put {H : Hp} {p c : Addr} {o : HO} {b : Nat} (B : Bag H p b) (h : p ≠ c) : Bag (upd H c o) p b := bag_put B h
theorem bag_keep {H H' : Hp} {p : Addr} {b : Nat} (B : Bag H p b) (g : Gr p H H') : ∀ c o, H c = some o → (∀ xs, o ≠ .lst xs) → H' c = some o := fun c o e n => by
  obtain ⟨_, _, _, hp, _⟩ := B.ex
  exact g _ _ (fun z => by rw [z, hp] at e; exact n _ (Option.some.inj e).symm) e
def D3 (x y : Str) : PyData := .list [.str x, .bool true, .str y]
theorem d3_dp {H : Hp} {l : Addr} {x y : Str} (h : H l = some (.lst [.str x, .bl true, .str y])) : Dp K H (.ref l) (D3 x y) := .lst (SqL.of h) (.cons (.str _) (.cons (.bl _) (.cons (.str _) .nil)))
theorem d3_eqv (x y : Str) : PyData.eqv (D3 x y) (D3 x y) = true := by
  simp [D3, PyData.eqv, PyData.eqvAll]
theorem d3_shaped {x y : Str} (hx : PyData.strOk x = true) (hy : PyData.strOk y = true) : SeqAt.shaped (D3 x y) = true := by
  unfold SeqAt.shaped
  rw [Bool.and_eq_true]
  refine ⟨?_, decide_eq_true ?_⟩
  · simp [D3, PyData.canLay0, PyData.canLayAll0, hx, hy]
  · simp [D3, PyData.depth, PyData.depthAll]
/-- the texts of strings of low signs are of low signs -/
theorem char_low : ∀ q ∈ [34, 39], ∀ c ∈ List.range 128, (PySem.Builtin.Str.reprChar q c).all (fun d => decide (d ≤ 127)) = true := by decide +kernel
theorem repr_low {x : Str} (h : lowS x) : lowS (reprText x) := by
  have hq : reprQuote x ∈ [34, 39] := by
    unfold reprQuote
    split <;> simp
  have fold : ∀ (l : List Nat) (acc : Array Nat), (∀ c ∈ l, c ≤ 127) → (∀ c ∈ acc.toList, c ≤ 127) → ∀ c ∈ (l.foldl (fun out c => out ++ (PySem.Builtin.Str.reprChar (reprQuote x) c).toArray) acc).toList, c ≤ 127 := by
    intro l
    induction l with
    | nil => exact fun acc _ h => h
    | cons d r ih =>
      intro acc h1 h2
      refine ih _ (fun c hc => h1 c (List.mem_cons_of_mem _ hc)) fun c hc => ?_
      rw [Array.toList_append] at hc
      rcases List.mem_append.mp hc with z | z
      · exact h2 c z
      · have := char_low _ hq d (List.mem_range.mpr (Nat.lt_succ_of_le (h1 d List.mem_cons_self)))
        rw [List.all_eq_true] at this
        exact of_decide_eq_true (this c z)
  have q127 : reprQuote x ≤ 127 := by
    rcases List.mem_cons.mp hq with z | z
    · omega
    · have := List.mem_singleton.mp z
      omega
  intro c hc
  unfold reprText at hc
  rw [Array.toList_push, ← Array.foldl_toList] at hc
  rcases List.mem_append.mp hc with z | z
  · exact fold _ _ h (fun d hd => by
      cases List.mem_singleton.mp hd
      exact q127) c z
  · cases List.mem_singleton.mp z
    exact q127
theorem repr_few {x : Str} (h : lowS x) (hl : x.length ≤ 1000) : (reprText x).length ≤ sizeLine := by
  have := PySem.StrLaws.reprText_len x fun c hc => by
    have := h c hc
    omega
  rw [sizeLine_eq]
  omega
/-- a thing of the law's, and its text -/
inductive ThingV (C : Addr) (H : Hp) : V → Str → Prop
  | str {x : Str} : x.length ≤ 100 → lowS x → ThingV C H (.str x) (reprText x)
  | non : ThingV C H .non "None"
  | bl (b : Bool) : ThingV C H (.bl b) (if b then "True" else "False")
  | int (i : Int) : i.natAbs.log2 < 1920 → PyData.strOk (toString i : Str) = true → ThingV C H (.int i) (toString i)
  | lst {a : Addr} {b : Bool} : H a = some (.lst (if b then [.str "a"] else [])) → ThingV C H (.ref a) (PyData.list (if b then [.str "a"] else [])).shown
  | tup {a : Addr} {b : Bool} : H a = some (.tup (if b then [.str "a"] else [])) → ThingV C H (.ref a) (PyData.tuple (if b then [.str "a"] else [])).shown
  | dic {a : Addr} : H a = some (.dK [(Sum.inr "a", .int 1)]) → ThingV C H (.ref a) (PyData.dict [(.str "a", .int 1)]).shown
  | rul {a : Addr} : RuleAt C H (.base "a") a → ThingV C H (.ref a) ("Rule(" ++ (RT.base "a").text ++ ")")
  | rli {l a : Addr} : H l = some (.lst [.ref a]) → RuleAt C H (.base "a") a → ThingV C H (.ref l) (listText ["Rule(" ++ (RT.base "a").text ++ ")"])
theorem ThingV.ext {C : Addr} {H H' : Hp} {v : V} {t : Str} (s : ExtN H H') (h : ThingV C H v t) : ThingV C H' v t := by
  cases h with
  | str h1 h2 => exact .str h1 h2
  | non => exact .non
  | bl b => exact .bl b
  | int i h1 h2 => exact .int i h1 h2
  | lst h => exact .lst (s _ _ h (fun _ z => nomatch z))
  | tup h => exact .tup (s _ _ h (fun _ z => nomatch z))
  | dic h => exact .dic (s _ _ h (fun _ z => nomatch z))
  | rul h => exact .rul (RuleAt.keepN (ExtN.keepN s) _ _ h)
  | rli h1 h2 => exact .rli (s _ _ h1 (fun _ z => nomatch z)) (RuleAt.keepN (ExtN.keepN s) _ _ h2)
theorem ThingV.ok {C : Addr} {H : Hp} {v : V} {t : Str} (h : ThingV C H v t) : PyData.strOk t = true := by
  cases h with
  | str h1 h2 => exact lowS.ok (repr_low h2)
  | non => decide +kernel
  | bl b => cases b <;> decide +kernel
  | int i h1 h2 => exact h2
  | @lst a b h => cases b <;> decide +kernel
  | @tup a b h => cases b <;> decide +kernel
  | dic h => decide +kernel
  | rul h => decide +kernel
  | rli h1 h2 => decide +kernel
theorem ThingV.sh {C : Addr} {H : Hp} {v : V} {t : Str} (h : ThingV C H v t) : ShV K C H v t := by
  cases h with
  | @str x h1 h2 => exact .sc (if_pos (repr_few h2 (by omega)))
  | non => exact .sc rfl
  | bl b => exact .sc rfl
  | int i h1 h2 => exact .sc (if_pos h1)
  | @lst a b h =>
    cases b
    · exact .dat (.lst (SqL.of h) .nil) rfl rfl (by decide) (by decide +kernel)
    · exact .dat (.lst (SqL.of h) (.cons (.str "a") .nil)) rfl rfl (by decide) (by decide +kernel)
  | @tup a b h =>
    cases b
    · exact .dat (.tup (SqT.of h) .nil) rfl rfl (by decide) (by decide +kernel)
    · exact .dat (.tup (SqT.of h) (.cons (.str "a") .nil)) rfl rfl (by decide) (by decide +kernel)
  | dic h => exact .dic h rfl (by decide +kernel)
  | rul h => exact .rul h (by decide +kernel)
  | rli h1 h2 => exact .rli (SqL.of h1) h2 (by decide +kernel)
/-- what is no string -/
theorem ThingV.no (T : Txt K mg) {H : Hp} {v : V} {t : Str} (h : ThingV T.C_Rule H v t) : (∃ x : Str, v = .str x ∧ x.length ≤ 100 ∧ lowS x) ∨ (NoStr K H v ∧ ∀ n : Str, v ≠ .str n) := by
  cases h with
  | @str x h1 h2 => exact .inl ⟨x, rfl, h1, h2⟩
  | non => exact .inr ⟨⟨_, .base .non, rfl⟩, (fun _ z => nomatch z)⟩
  | bl b => exact .inr ⟨⟨_, .base (.bl b), rfl⟩, (fun _ z => nomatch z)⟩
  | int i h1 h2 => exact .inr ⟨⟨_, .base (.int i), rfl⟩, (fun _ z => nomatch z)⟩
  | lst h => exact .inr ⟨⟨_, .base (.lst h), rfl⟩, (fun _ z => nomatch z)⟩
  | tup h => exact .inr ⟨⟨_, .base (.tup h), rfl⟩, (fun _ z => nomatch z)⟩
  | dic h => exact .inr ⟨⟨_, .base (.dK h), rfl⟩, (fun _ z => nomatch z)⟩
  | rul h =>
    obtain ⟨dx, t, f, b, h1, _⟩ := h
    exact .inr ⟨⟨_, .base (.ins h1 T.ic_Rule.cl T.ic_Rule.ha T.ic_Rule.hn T.ic_Rule.htk T.ic_Rule.hm), T.kx_Rule_str⟩, (fun _ z => nomatch z)⟩
  | rli h1 h2 => exact .inr ⟨⟨_, .base (.lst h1), rfl⟩, (fun _ z => nomatch z)⟩
theorem from_low : ∀ (ts : List Str) (k : Nat) (acc : Str), lowS acc → (∀ t ∈ ts, lowS t) → lowS (textFrom k acc ts)
  | [], _, _, h, _ => h
  | t :: r, k, acc, h, ht => by
    unfold textFrom
    refine from_low r (k + 1) _ (low_app (low_app h ?_) (ht t List.mem_cons_self)) fun u hu => ht u (List.mem_cons_of_mem _ hu)
    split
    · exact fun c hc => (by decide +kernel : ∀ c ∈ ((", " : String) : Str).cps.toList, c ≤ 127) c hc
    · exact fun c hc => nomatch hc
theorem nmD_ok {n : Str} (h : nmB n = true) : PyData.strOk (nmD n).shown = true := by
  have hl : lowS n := fun c hc => by
    simp only [nmB, Bool.and_eq_true, List.all_eq_true, decide_eq_true_eq] at h
    have := h.2 c hc
    omega
  have hr := repr_low hl
  have l1 : lowS ("[" : Str) := fun c hc => (by decide +kernel : ∀ c ∈ (("[" : String) : Str).cps.toList, c ≤ 127) c hc
  have l2 : lowS ("]" : Str) := fun c hc => (by decide +kernel : ∀ c ∈ (("]" : String) : Str).cps.toList, c ≤ 127) c hc
  have l3 : lowS (reprText "base") := fun c hc => (by decide +kernel : ∀ c ∈ (reprText "base").cps.toList, c ≤ 127) c hc
  have l4 : lowS (tupleText []) := fun c hc => (by decide +kernel : ∀ c ∈ (tupleText []).cps.toList, c ≤ 127) c hc
  have l5 : lowS ("(" : Str) := fun c hc => (by decide +kernel : ∀ c ∈ (("(" : String) : Str).cps.toList, c ≤ 127) c hc
  have l6 : lowS (",)" : Str) := fun c hc => (by decide +kernel : ∀ c ∈ ((",)" : String) : Str).cps.toList, c ≤ 127) c hc
  refine lowS.ok ?_
  show lowS (textFrom 0 "[" [reprText n, reprText "base", tupleText [reprText n], tupleText []] ++ "]")
  refine low_app (from_low _ 0 _ l1 fun t ht => ?_) l2
  simp only [List.mem_cons, List.not_mem_nil, or_false] at ht
  rcases ht with rfl | rfl | rfl | rfl
  · exact hr
  · exact l3
  · show lowS ("(" ++ reprText n ++ ",)")
    exact low_app (low_app l5 hr) l6
  · exact l4
/-- each of some values is such a thing -/
def AllT (C : Addr) (H : Hp) (l : List V) : Prop := ∀ v ∈ l, ∃ t, ThingV C H v t
theorem AllT.nil {C : Addr} {H : Hp} : AllT C H [] := fun _ h => nomatch h
theorem AllT.cons {C : Addr} {H : Hp} {v : V} {t : Str} {l : List V} (h : ThingV C H v t) (r : AllT C H l) : AllT C H (v :: l) := fun u hu => by
  rcases List.mem_cons.mp hu with z | z
  · exact ⟨t, z ▸ h⟩
  · exact r u z
theorem AllT.app {C : Addr} {H : Hp} {l r : List V} (h : AllT C H l) (h2 : AllT C H r) : AllT C H (l ++ r) := fun u hu => (List.mem_append.mp hu).elim (h u) (h2 u)
theorem AllT.ext {C : Addr} {H H' : Hp} {l : List V} (h : AllT C H l) (s : ExtN H H') : AllT C H' l := fun u hu => by
  obtain ⟨t, ht⟩ := h u hu
  exact ⟨t, ht.ext s⟩
def lowB (x : Str) : Bool := decide (x.length ≤ 100) && x.cps.toList.all fun c => decide (c ≤ 127)
theorem strT {C : Addr} {H : Hp} (x : Str) (h : lowB x = true) : ThingV C H (.str x) (reprText x) := by
  unfold lowB at h
  rw [Bool.and_eq_true, decide_eq_true_eq, List.all_eq_true] at h
  exact .str h.1 fun c hc => of_decide_eq_true (h.2 c hc)
/-- what is due -/
def DueV (K : PySem.W.Frag) (C : Addr) (H : Hp) (v : V) (x y : Str) : Prop := (∃ n : Str, v = .str n ∧ nmB n = true ∧ x = "rule" ∧ y = (nmD n).shown) ∨ (NotNm K H v ∧ x = "BadName" ∧ ShV K C H v y)
def DueP (v : V) (t x y : Str) : Prop := (∃ n : Str, v = .str n ∧ nmB n = true ∧ x = "rule" ∧ y = (nmD n).shown) ∨ ((∀ n : Str, v = .str n → nmB n = false) ∧ x = "BadName" ∧ y = t)
theorem due_at (T : Txt K mg) {H : Hp} {v : V} {t x y : Str} (h : ThingV T.C_Rule H v t) (d : DueP v t x y) : DueV K T.C_Rule H v x y := by
  rcases d with ⟨n, e, hn, e1, e2⟩ | ⟨hn, e1, e2⟩
  · exact .inl ⟨n, e, hn, e1, e2⟩
  · refine .inr ⟨?_, e1, e2 ▸ h.sh⟩
    rcases h.no T with ⟨z, e, hz, _⟩ | ⟨hN, _⟩
    · exact .inl ⟨z, e, by omega, hn z e⟩
    · exact .inr hN
theorem out_by {C CB : Addr} {v : V} {x y : Str} {tl : XK → Hp → VK → Prop} {H : Hp} {Q : VK} (hd : DueV K C H v x y) (k : ∀ (G : VK) (E : XK), sp_base K C CB [v] H G E → tl E H G)
    (hQ : ∀ (l : Addr) (H2 : Hp), Same H H2 → H2 l = some (.lst [.str x, .bl true, .str y]) → Q (.ref l) H2) : TTout K C CB tl H Q := by
  intro G hG
  refine k G _ ?_
  rcases hd with ⟨n, rfl, hn, rfl, rfl⟩ | ⟨hn, rfl, hs⟩
  · exact .inl ⟨n, rfl, hn, fun a H' na s hA => hG _ _ ⟨a, n, rfl, hn, hA, fun l H2 s2 hl => hQ l H2 (s.trans s2) hl⟩⟩
  · exact .inr ⟨v, rfl, hn, fun d H' nd s hd => ⟨d, v, y, rfl, rfl, hd, hs.same s, fun l H2 s2 hl => hQ l H2 (s.trans s2) hl⟩⟩
abbrev X16 : List V := [.str "", .str "a", .str "abcdef", .str "abcdefg", .str "by_keys", .str "kept", .str "A", .str " a", .str "a ", .str "\n", .non, .bl true, .bl false, .int 0, .int 7, .int (-1)]
abbrev X10 (l1 l2 u1 u2 d a1 l3 : Addr) : List V := [.int ((10 : Int) ^ (39 : Int).toNat), .ref l1, .ref l2, .ref u1, .ref u2, .ref d, .ref a1, .ref l3, .str "merged(a)", .str "a, b"]
theorem ok_law_ {f_law c_law P_law : Addr} {d_law : FuncData} (F_law : FunC K "law" "law" s_law f_law c_law d_law) (T : Txt K mg) (TB : TabB base mg c_law P_law) : FnG P w K mg base CX0 14 f_law d_law ["_law_script"] (sp_law K P_law) := by
  refine okGC F_law sc_law (fun vs H Q E h => ?_) (fun A outer s H vs Q E hr hg h => ?_)
  · obtain ⟨a, ns, rfl, _⟩ := h
    rfl
  · obtain ⟨a, ns, rfl, hS, hl, hP, kk⟩ := h
    refine ⟨_, (pss_cons (ps_set (i := 1) sc_law.nd rfl (.inl rfl) (pe_lst (pa_cons pe_str (pa_cons pe_str (pa_cons pe_str (pa_cons pe_str (pa_cons pe_str (pa_cons pe_str (pa_cons pe_str (pa_cons pe_str (pa_cons pe_str (pa_cons pe_str (pa_cons pe_non (pa_cons pe_bl (pa_cons pe_bl (pa_cons pe_int (pa_cons pe_int (pa_cons (pe_un un_neg pe_int) pa_nil))))))))))))))))))
        (pss_cons (ps_set (i := 1) sc_law.nd rfl (.inl rfl) (pe_op op_cat (pv 1) (pe_lst (pa_cons (pe_op op_pow pe_int pe_int) (pa_cons (pe_lst pa_nil) (pa_cons (pe_lst (pa_cons pe_str pa_nil)) (pa_cons (pe_tup pa_nil) (pa_cons (pe_tup (pa_cons pe_str pa_nil)) (pa_cons (pe_disp (pps_cons pe_str pe_int pps_nil) (by rfl) (by rfl) (fun z => by cases z) (by decide)) (pa_cons (pe_call (ok_base0 T) (hr.mono (by decide)) rfl T.m_base T.F_base.kp T.b_base .nil pass0 (pa_cons pe_str pa_nil)) (pa_cons (pe_lst (pa_cons (pe_call (ok_base0 T) (hr.mono (by decide)) rfl T.m_base T.F_base.kp T.b_base .nil pass0 (pa_cons pe_str pa_nil)) pa_nil)) (pa_cons pe_str (pa_cons pe_str pa_nil)))))))))))))
        (pss_cons (ps_for PassesOwn.never rfl (pi_range1 rfl T.z_range (pa_cons (pe_callB (call_max2 rfl) (by rfl) T.z_max (by decide +kernel) (pa_cons pe_int (pa_cons (pe_callB (call_min2 rfl) (by rfl) T.z_min (by decide +kernel) (pa_cons pe_int (pa_cons (pe_callB call_len_seq (by rfl) T.z_len (by decide +kernel) (pa_cons (pv 0) pa_nil)) pa_nil))) pa_nil))) pa_nil)) (pg_name (i := 2) sc_law.nd rfl (.inl rfl))
          (pss_cons (ps_set (i := 3) sc_law.nd rfl (.inr rfl) (pe_call (ok_law_bag T) (hr.mono (by decide)) rfl T.m_law_bag T.F_law_bag.kp T.b_law_bag .nil pass0 (pa_cons (pv 0) (pa_cons (pv 2) pa_nil))))
          (pss_one (ps_for PassesOwn.never rfl (pi_list (pe_op op_cat (pv 1) (pe_lc (own := [("_law_turn", 5)]) (g := (gName 5)) (tt := tYes) rfl sc_law.nd (pi_range1 rfl T.z_range (pa_cons pe_int pa_nil)) (blkOk_by (own := [("_law_turn", 5)]) (N := N_law) (sc := defScope s_law) (by decide +kernel)) (fun _ _ _ _ _ => (pg_name (i := 5) sc_law.nd rfl (.inl rfl))) (fun _ _ _ _ _ => pts_nil) (fun _ _ _ _ _ => (pe_call (ok_law_string T) (hr.mono (by decide)) rfl T.m_law_string T.F_law_string.kp T.b_law_string .nil pass0 (pa_cons (pv 3) pa_nil)))))) (pg_name (i := 4) sc_law.nd rfl (.inr rfl))
            (pss_cons (ps_set (i := 6) sc_law.nd rfl (.inl rfl) (pe_lst (pa_cons pe_str (pa_cons pe_bl (pa_cons (pe_callB (reprV_ok T hr hg) (by rfl) T.z_repr (by decide +kernel) (pa_cons (pv 4) pa_nil)) pa_nil)))))
            (pss_cons (ps_cut (ps_if (pt_val (pe_call (ok_law_is_name T) (hr.mono (by decide)) rfl T.m_law_is_name T.F_law_is_name.kp T.b_law_is_name .nil pass0 (pa_cons (pv 4) pa_nil)))
              (pss_one (ps_set (i := 6) sc_law.nd rfl (.inl rfl) (pe_lst (pa_cons pe_str (pa_cons pe_bl (pa_cons (pe_callB (call_repr hr hg) (by rfl) T.z_repr (by decide +kernel) (pa_cons (pe_lst (pa_cons (pv 4) (pa_cons pe_str (pa_cons (pe_tup (pa_cons (pv 4) pa_nil)) (pa_cons (pe_tup pa_nil) pa_nil))))) pa_nil)) pa_nil))))))
              pss_nil))
            (pss_cons (ps_if (pt_cmpR (op_neD hr.units : OpR _ _ (rNeD K)) (pe_lamF (k := 11) T.F_law_outcome T.m_law_outcome T.b_law_outcome sc_law_outcome rfl (.inl rfl) (fun _ => gives_law_outcome (X := (cxOf CX0 P w K mg base N_law "law" (defScope s_law) f_law (.ref c_law) A outer s H E).nox) T hr hg) TB rfl rfl hr (lamS_by (sc := defScope s_law) (by decide +kernel)) rfl (fun _ _ _ _ _ => rfl) (fun _ _ _ _ _ _ _ hr => (pe_call (ok_base T) (hr.mono (by decide)) rfl T.m_base T.F_base.kp T.b_base .nil (passE rfl rfl rfl rfl) (pa_cons (pv 4) pa_nil)))) (pv 6) (nomark _))
              (pss_one (ps_ret pe_bl))
              pss_nil)
            (pss_one (ps_if (pt_cmpR (op_neD hr.units : OpR _ _ (rNeD K)) (pe_lamF (k := 11) T.F_law_outcome T.m_law_outcome T.b_law_outcome sc_law_outcome rfl (.inl rfl) (fun _ => gives_law_outcome (X := (cxOf CX0 P w K mg base N_law "law" (defScope s_law) f_law (.ref c_law) A outer s H E).nox) T hr hg) TB rfl rfl hr (lamS_by (sc := defScope s_law) (by decide +kernel)) rfl (fun _ _ _ _ _ => rfl) (fun _ _ _ _ _ _ _ hr => (pe_callKw (ok_base T) (hr.mono (by decide)) rfl T.m_base T.F_base.kp T.kb_base_0_name (passE rfl rfl rfl rfl) (pk_cons (pv 4) pk_nil)))) (pv 6) (nomark _))
              (pss_one (ps_ret pe_bl))
              pss_nil)))))))))
        (pss_one (ps_ret pe_bl))))), ?_⟩
    have hT0 : Tabs [(P_law, lamQ f_law c_law)] H := fun z hz => by
      rw [List.mem_singleton.mp hz]
      exact TabS.nil hP
    refine ⟨1, rfl, by show 16 ≤ sizeLine; decide, fun L1 nL1 => ?_⟩
    refine ⟨_, rfl, ⟨10, 39, rfl, rfl, ⟨by decide, by decide, by decide⟩, ?_⟩⟩
    refine ⟨by show 0 ≤ sizeLine; decide, fun l1 n1 => ?_⟩
    refine ⟨by show 1 ≤ sizeLine; decide, fun l2 n2 => ?_⟩
    refine ⟨by show 0 ≤ sizeLine; decide, fun u1 m1 => ?_⟩
    refine ⟨by show 1 ≤ sizeLine; decide, fun u2 m2 => ?_⟩
    intro d nd
    refine ⟨upd_same, [(Sum.inr "a", .int 1)], rfl, (by decide : 1 ≤ 15), ?_⟩
    refine ⟨"a", rfl, by decide +kernel, fun a1 H1 na1 s1 hA1 => ?_⟩
    refine ⟨"a", rfl, by decide +kernel, fun a2 H2 na2 s2 hA2 => ?_⟩
    refine ⟨by show 1 ≤ sizeLine; decide, fun l3 n3 => ?_⟩
    refine ⟨by show 10 ≤ sizeLine; decide, fun L2 nL2 => ?_⟩
    have X : ∀ {C : Addr} {H' : Hp} {i : Int}, (decide (i.natAbs.log2 < 1920) && PyData.strOk (toString i : Str)) = true → ThingV C H' (.int i) (toString i) := fun h => by
      rw [Bool.and_eq_true, decide_eq_true_eq] at h
      exact .int _ h.1 h.2
    have t1 := Same.mk1 (o := .lst []) n1
    have t2 := Same.mk1 (o := .lst [.str "a"]) n2
    have t3 := Same.mk1 (o := .tup []) m1
    have t4 := Same.mk1 (o := .tup [.str "a"]) m2
    have t5 := Same.put (o := .dK (mergeK [] [(Sum.inr "a", .int 1)])) (Same.mk1 (o := .dK []) nd) nd
    have t6 := Same.mk1 (o := .lst [.ref a2]) n3
    have t7 := Same.mk1 (o := .lst (X10 l1 l2 u1 u2 d a1 l3)) nL2
    have tL := Same.mk1 (o := .lst X16) nL1
    have hL1 := t7 _ _ (t6 _ _ (s2 _ _ (s1 _ _ (t5 _ _ (t4 _ _ (t3 _ _ (t2 _ _ (t1 _ _ (upd_same (H := H) (a := L1) (o := .lst X16))))))))))
    refine ⟨L1, L2, _, _, rfl, rfl, hL1, upd_same, by show 16 + 10 ≤ sizeLine; decide, fun L nL => ?_⟩
    have t8 := Same.mk1 (o := .lst (X16 ++ (X10 l1 l2 u1 u2 d a1 l3))) nL
    have sB := t6.trans (t7.trans t8)
    have sC := t5.trans (s1.trans (s2.trans sB))
    have hT9 : ExtN H (upd (upd (upd H2 l3 (.lst [.ref a2])) L2 (.lst (X10 l1 l2 u1 u2 d a1 l3))) L (.lst (X16 ++ X10 l1 l2 u1 u2 d a1 l3))) := ExtN.same (ExtN.refl H) (tL.trans (t1.trans (t2.trans (t3.trans (t4.trans sC)))))
    have hL : (upd (upd (upd H2 l3 (.lst [.ref a2])) L2 (.lst (X10 l1 l2 u1 u2 d a1 l3))) L (.lst (X16 ++ X10 l1 l2 u1 u2 d a1 l3))) L = some (.lst (X16 ++ X10 l1 l2 u1 u2 d a1 l3)) := upd_same
    have tt9 : Tabs [(P_law, lamQ f_law c_law)] (upd (upd (upd H2 l3 (.lst [.ref a2])) L2 (.lst (X10 l1 l2 u1 u2 d a1 l3))) L (.lst (X16 ++ X10 l1 l2 u1 u2 d a1 l3))) := Tabs.keep hT0 fun b o h _ => (tL.trans (t1.trans (t2.trans (t3.trans (t4.trans sC))))) b o h
    have all : AllT T.C_Rule (upd (upd (upd H2 l3 (.lst [.ref a2])) L2 (.lst (X10 l1 l2 u1 u2 d a1 l3))) L (.lst (X16 ++ X10 l1 l2 u1 u2 d a1 l3))) (X16 ++ X10 l1 l2 u1 u2 d a1 l3) := by
      refine AllT.app ?_ ?_
      · exact .cons (strT _ (by decide +kernel)) (.cons (strT _ (by decide +kernel)) (.cons (strT _ (by decide +kernel)) (.cons (strT _ (by decide +kernel)) (.cons (strT _ (by decide +kernel)) (.cons (strT _ (by decide +kernel)) (.cons (strT _ (by decide +kernel)) (.cons (strT _ (by decide +kernel)) (.cons (strT _ (by decide +kernel)) (.cons (strT _ (by decide +kernel))
          (.cons .non (.cons (.bl true) (.cons (.bl false) (.cons (X (by decide +kernel)) (.cons (X (by decide +kernel)) (.cons (X (by decide +kernel)) .nil)))))))))))))))
      · refine .cons (X (by decide +kernel)) (.cons (.lst (b := false) ?_) (.cons (.lst (b := true) ?_) (.cons (.tup (b := false) ?_) (.cons (.tup (b := true) ?_) (.cons (.dic ?_) (.cons (.rul ?_) (.cons (.rli (a := a2) ?_ ?_) (.cons (strT _ (by decide +kernel)) (.cons (strT _ (by decide +kernel)) .nil)))))))))
        · exact sC _ _ (t4 _ _ (t3 _ _ (t2 _ _ upd_same)))
        · exact sC _ _ (t4 _ _ (t3 _ _ upd_same))
        · exact sC _ _ (t4 _ _ upd_same)
        · exact sC _ _ upd_same
        · exact sB _ _ (s2 _ _ (s1 _ _ upd_same))
        · exact (hA1.same s2).same sB
        · exact t8 _ _ (t7 _ _ upd_same)
        · exact hA2.same sB
    have lenX : (X16 ++ X10 l1 l2 u1 u2 d a1 l3).length = 26 := rfl
    revert hT9 hL tt9 all lenX
    generalize upd (upd (upd H2 l3 (.lst [.ref a2])) L2 (.lst (X10 l1 l2 u1 u2 d a1 l3))) L (.lst (X16 ++ X10 l1 l2 u1 u2 d a1 l3)) = H9
    generalize X16 ++ X10 l1 l2 u1 u2 d a1 l3 = xs
    intro e9 hL T9 all lenX
    clear sC sB t8 nL hL1 tL t7 t6 t5 t4 t3 t2 t1 nL2 n3 hA2 s2 na2 hA1 s1 na1 nd m2 m1 n2 n1 nL1 hT0
    have yes : ∀ {c : Bool} {a b : Prop}, c = true → a → if c = true then a else b := fun h q => by rw [if_pos h]; exact q
    have no : ∀ {c : Bool} {a b : Prop}, c = false → b → if c = true then a else b := fun h q => by rw [h]; exact q
    have hS9 := ExtN.seq e9 hS
    obtain ⟨mx, hmx, m0, m1⟩ : ∃ mx : Int, mx = (if (if (((ns.map V.int).length : Nat) : Int) < 6 then (((ns.map V.int).length : Nat) : Int) else 6) > 2 then (if (((ns.map V.int).length : Nat) : Int) < 6 then (((ns.map V.int).length : Nat) : Int) else 6) else 2) ∧ 0 ≤ mx ∧ mx ≤ 6 := ⟨_, rfl, by split <;> split <;> omega, by split <;> split <;> omega⟩
    refine ⟨_, rfl, a, _, rfl, .inl hS9, _, _, rfl, _, _, rfl, ?_⟩
    rw [← hmx]
    refine ⟨mx, rfl, by omega, by omega, ?_⟩
    refine for_range (lo := 0) (n := mx.toNat) (fun i σ H2 => ∃ v2 v3 v4 v5 v6 : Option V, σ = [some (.ref a), some (.ref L), v2, v3, v4, v5, v6] ∧ ExtN H9 H2 ∧ Tabs [(P_law, lamQ f_law c_law)] H2)
      ⟨_, _, _, _, _, rfl, ExtN.refl H9, T9⟩ ?_ ?_
    · rintro ii σ H1 hii ⟨v2, v3, v4, v5, v6, rfl, e1, T1⟩
      refine ⟨_, rfl, _, rfl, a, ns, _, rfl, ExtN.seq e1 hS9, by omega, by omega, fun p H2 hp s2 B2 => ?_⟩
      have e2 : ExtN H9 H2 := ExtN.same e1 s2
      have T2 := Tabs.keep T1 fun b o h _ => s2 b o h
      have hp0 : NoN H9 p := fun o z n => by
        have := e1 _ _ z n
        rw [hp] at this
        cases this
      have hL2 := e2 _ _ hL (fun _ z => nomatch z)
      refine ⟨_, rfl, 12, rfl, by decide, by decide, fun D hD => ?_⟩
      have hDp := B2.ne hD
      have sD := Same.mk1 (o := .lst []) hD
      refine lc_it (walk_range (lo := 0) (n := 12)) (fun i H3 => ∃ ws : List Str, H3 D = some (.lst (ws.map V.str)) ∧ ws.length = i ∧ (∀ y ∈ ws, y.length ≤ 8 ∧ lowS y) ∧ Gr p H2 H3 ∧ Bag H3 p (0 + 10 * i)) ⟨[], upd_same, rfl, (fun _ h => nomatch h), Gr.same sD, B2.grow sD⟩ (fun _ _ _ _ => True.intro) ?_ ?_
      · rintro i y H3 H4 hi ⟨ws, hD3, hl, hw, g3, B3⟩ ⟨rfl, rfl⟩
        refine ⟨rfl, _, rfl, p, _, rfl, B3, by omega, fun x H4 hx lx g4 B4 => ?_⟩
        have hD4 := g4 _ _ hDp hD3
        refine ⟨_, hD4, by rw [List.length_map, hl, sizeLine_eq]; omega, ws ++ [x], ?_, ?_, ?_, ?_, ?_⟩
        · rw [upd_same, List.map_append]
          rfl
        · rw [List.length_append, hl]
          rfl
        · intro y hy
          rcases List.mem_append.mp hy with h | h
          · exact hw y h
          · cases List.mem_singleton.mp h
            exact ⟨hx, lx⟩
        · exact (g3.trans g4).put hD
        · exact (bag_put B4 (Ne.symm hDp)).mono (by omega)
      · rintro H3 ⟨ws, hD3, hl, hw, g3, B3⟩
        have e3 : ExtN H9 H3 := ExtN.grN e2 g3 hp0
        have T3 := Tabs.keep T2 (bag_keep B2 g3)
        have hL3 := e3 _ _ hL (fun _ z => nomatch z)
        have alls : AllT T.C_Rule H3 (xs ++ ws.map V.str) := AllT.app (all.ext e3) fun v hv => by
          obtain ⟨w, hw2, rfl⟩ := List.mem_map.mp hv
          exact ⟨_, .str (by have := (hw w hw2).1; omega) (hw w hw2).2⟩
        have lenS : (xs ++ ws.map V.str).length = 38 := by rw [List.length_append, List.length_map, lenX, hl]
        refine ⟨L, D, _, _, rfl, rfl, hL3, hD3, by rw [List.length_map, lenX, hl]; show 26 + 12 ≤ sizeLine; decide, fun M nM => ⟨M, rfl, ⟨_, SqL.of upd_same⟩, ?_⟩⟩
        have sM := Same.mk1 (o := .lst (xs ++ ws.map V.str)) nM
        have e4 := ExtN.same e3 sM
        have T4 := Tabs.keep T3 fun b o h _ => sM b o h
        have all4 := alls.ext (ExtN.same (ExtN.refl H3) sM)
        have hM : (upd H3 M (.lst (xs ++ ws.map V.str))) M = some (.lst (xs ++ ws.map V.str)) := upd_same
        revert e4 T4 all4 hM lenS
        generalize upd H3 M (.lst (xs ++ ws.map V.str)) = H4
        generalize xs ++ ws.map V.str = ys
        intro lenS e4 T4 all4 hM
        clear sM nM alls hL3 T3 e3 B3 g3 hw hD3 sD hD hL2 T2 e2 s2 B2
        refine for_it (walk_list (K := K) (a := M) (xs := ys)) (fun j σ H5 => ∃ v3 v4 v5 v6 : Option V, σ = [some (.ref a), some (.ref L), some (.int (0 + (ii : Int))), v3, v4, v5, v6] ∧ ExtN H4 H5 ∧ Tabs [(P_law, lamQ f_law c_law)] H5)
          ⟨_, _, _, _, rfl, ExtN.refl H4, T4⟩ (fun j σ H5 _ ⟨_, _, _, _, _, h, _⟩ => SqL.of (h _ _ hM (fun _ z => nomatch z))) ?_ ?_
        · rintro j x σ Hq H5 hj ⟨v3, v4, v5, v6, rfl, e5, T5⟩ ⟨rfl, hx⟩
          obtain ⟨t, hth⟩ := all4 x (List.mem_of_getElem? hx)
          replace hth := hth.ext e5
          refine ⟨_, rfl, x, t, rfl, hth.sh, fun H6 s6 => ⟨by show 3 ≤ sizeLine; decide, fun dl ndl => ?_⟩⟩
          have sd := s6.trans (Same.mk1 (o := .lst [.str "BadName", .bl true, .str t]) ndl)
          have hdl : (upd H6 dl (.lst [.str "BadName", .bl true, .str t])) dl = some (.lst [.str "BadName", .bl true, .str t]) := upd_same
          revert sd hdl
          generalize upd H6 dl (.lst [.str "BadName", .bl true, .str t]) = H7
          intro sd hdl
          clear s6 ndl
          have th7 := hth.ext (ExtN.same (ExtN.refl H5) sd)
          refine ⟨fun σ' H' => ∃ (l : Addr) (y z : Str), σ' = [some (.ref a), some (.ref L), some (.int (0 + (ii : Int))), v3, some x, v5, some (.ref l)] ∧ Same H5 H' ∧ H' l = some (.lst [.str y, .bl true, .str z]) ∧ PyData.strOk y = true ∧ PyData.strOk z = true ∧ DueP x t y z, ?_, ?_⟩
          · rcases th7.no T with ⟨z, rfl, hz, lz⟩ | ⟨hN, hNs⟩
            · refine ⟨_, rfl, .inl ⟨z, rfl, by omega, lz, fun H8 s8 => ⟨nmB z, rfl, ?_⟩⟩⟩
              refine ite2 (fun hb => ?_) (fun hb => ?_)
              · refine ⟨_, rfl, _, rfl, by show 1 ≤ sizeLine; decide, fun u nu => ⟨by show 0 ≤ sizeLine; decide, fun w nw => ⟨by show 4 ≤ sizeLine; decide, fun q nq => ?_⟩⟩⟩
                have su := Same.mk1 (o := .tup [.str z]) nu
                have sw := Same.mk1 (o := .tup []) nw
                have sq := Same.mk1 (o := .lst [.str z, .str "base", .ref u, .ref w]) nq
                obtain ⟨n1, n2⟩ := nm_signs hb
                have sz : (nmD z).shown.length ≤ sizeLine := by
                  have := shown_le (nmD z) rfl n1
                  rw [sizeLine_eq]
                  omega
                refine ⟨q, nmD z, rfl, .lst (SqL.of upd_same) (.cons (.str z) (.cons (.str "base") (.cons (.tup (SqT.of (sq _ _ (sw _ _ upd_same))) (.cons (.str z) .nil)) (.cons (.tup (SqT.of (sq _ _ upd_same)) .nil) .nil)))), rfl, rfl, by show 2 ≤ 60; decide, sz, ?_⟩
                refine ⟨by show 3 ≤ sizeLine; decide, fun l nl => ?_⟩
                exact ⟨l, _, _, rfl, sd.trans (s8.trans (su.trans (sw.trans (sq.trans (Same.mk1 nl))))), upd_same, by decide +kernel, nmD_ok hb, .inl ⟨z, rfl, hb, rfl, rfl⟩⟩
              · exact ⟨dl, _, _, rfl, sd.trans s8, s8 _ _ hdl, by decide +kernel, hth.ok, .inr ⟨fun n e => by cases e; exact Bool.eq_false_iff.mpr hb, rfl, rfl⟩⟩
            · refine ⟨_, rfl, .inr ⟨x, rfl, hN, ⟨false, rfl, iteF ?_⟩⟩⟩
              refine ⟨dl, _, _, rfl, sd, hdl, by decide +kernel, hth.ok, .inr ⟨fun n e => absurd e (hNs n), rfl, rfl⟩⟩
          · rintro σ' H8 ⟨l, y, z, rfl, s8, hl8, oy, oz, hdue⟩
            have T8 := Tabs.keep T5 fun b o h _ => s8 b o h
            have th8 := hth.ext (ExtN.same (ExtN.refl H5) s8)
            refine ⟨T8, fun H10 eN T10 => ?_⟩
            refine out_by (due_at T (th8.ext eN) hdue) (fun G E' he => ⟨_, rfl, he⟩) fun l2 H11 s11 hl2 => ?_
            have e11 := ExtN.same eN s11
            have T11 := Tabs.keep T10 fun b o h _ => s11 b o h
            refine ⟨_, rfl, D3 y z, D3 y z, d3_dp hl2, d3_dp (e11 _ _ hl8 (fun _ z => nomatch z)), d3_shaped oy oz, d3_shaped oy oz, _, rfl, ?_⟩
            rw [d3_eqv]
            refine iteF ?_
            refine ⟨T11, fun H12 eN2 T12 => ?_⟩
            have e12 := e11.trans eN2
            refine out_by (due_at T (th8.ext e12) hdue) (fun G E' he => ⟨_, rfl, he⟩) fun l3 H13 s13 hl3 => ?_
            have e13 := ExtN.same e12 s13
            have T13 := Tabs.keep T12 fun b o h _ => s13 b o h
            refine ⟨_, rfl, D3 y z, D3 y z, d3_dp hl3, d3_dp (e13 _ _ hl8 (fun _ z => nomatch z)), d3_shaped oy oz, d3_shaped oy oz, _, rfl, ?_⟩
            rw [d3_eqv]
            refine iteF ?_
            exact ⟨_, _, _, _, rfl, (ExtN.same e5 s8).trans e13, T13⟩
        · rintro σ H5 ⟨v3, v4, v5, v6, rfl, e5, T5⟩
          exact ⟨_, _, _, _, _, rfl, e4.trans e5, T5⟩
    · rintro σ H1 ⟨v2, v3, v4, v5, v6, rfl, e1, T1⟩
      exact kk _

end
theorem all_mk {l : PySem.W.OpenLaw} {w : World} {K : PySem.W.Frag} {h : Heap} {mg : Str → Option Value} {fa : Addr} (X : K.In h) (G : h.Ns mainGlobals mg) (hfa : mg "law" = some (.ref fa))
    {C_Rule : Addr} (a_Rule : PySem.W.nsIn K mainGlobals "Rule" = some (some (.ref C_Rule)))
    (pg_Rule : PySem.W.plainGet K C_Rule Str.empty = true) (hd_Rule : PySem.W.hasDictIn K C_Rule = true) (po_Rule : PySem.W.plainOver K C_Rule = true) (sa_Rule : PySem.W.findIn K (.ref C_Rule) "__setattr__" = some (some (.builtin "object.__setattr__"))) (mk_Rule : PySem.W.makesIn K C_Rule = true) (kc_Rule : PySem.W.keepIn K (.ref C_Rule) = true)
    (n_Rule_operation : PySem.W.findIn K (.ref C_Rule) "operation" = some none)
    (n_Rule_name : PySem.W.findIn K (.ref C_Rule) "name" = some none)
    (n_Rule_operands : PySem.W.findIn K (.ref C_Rule) "operands" = some none)
    (n_Rule_flat : PySem.W.findIn K (.ref C_Rule) "flat" = some none)
    (n_Rule_written : PySem.W.findIn K (.ref C_Rule) "written" = some none)
    (n_Rule_base_names : PySem.W.findIn K (.ref C_Rule) "base_names" = some none)
    (ha_Rule : PySem.W.findIn K (.ref C_Rule) "__class__" = some (some (.builtin "object.__class__"))) (hn_Rule : PySem.W.specialIn K (.builtin "object.__class__") "__get__" = some (some (.builtin "getset_descriptor.__get__"))) (ht_Rule : PySem.W.takesIn K (.builtin "object.__class__") = some true) (hm_Rule : PySem.W.mroIn K C_Rule (.type "object") = some true)
    (ki_Rule_NoneType : PySem.W.kitOne K (.type "NoneType") (.ref C_Rule) = some false)
    (ki_Rule_bool : PySem.W.kitOne K (.type "bool") (.ref C_Rule) = some false)
    (ki_Rule_int : PySem.W.kitOne K (.type "int") (.ref C_Rule) = some false)
    (ki_Rule_str : PySem.W.kitOne K (.type "str") (.ref C_Rule) = some false)
    (ki_Rule_list : PySem.W.kitOne K (.type "list") (.ref C_Rule) = some false)
    (ki_Rule_tuple : PySem.W.kitOne K (.type "tuple") (.ref C_Rule) = some false)
    (ki_Rule_dict : PySem.W.kitOne K (.type "dict") (.ref C_Rule) = some false)
    {C_BadName : Addr} (a_BadName : PySem.W.nsIn K mainGlobals "BadName" = some (some (.ref C_BadName)))
    (xi_BadName : PySem.W.excInitIn K C_BadName bmValue "ValueError.__new__" = true)
    (xo_BadName : PySem.W.excOver K C_BadName bmValue = true)
    (xh_BadName : PySem.W.hasDictIn K C_BadName = true)
    (xs_BadName : PySem.W.findIn K (.ref C_BadName) "__setattr__" = some (some (.builtin "object.__setattr__")))
    (xb_BadName : PySem.W.subIn K (.ref C_BadName) (.type "BaseException") = some true)
    (xt_BadName : PySem.W.typeIn K (.ref C_BadName) = some (.type "type"))
    (xk_BadName : PySem.W.keepIn K (.ref C_BadName) = true)
    (xm_BadName : PySem.W.takerIn K C_BadName "name" = some none)
    (xn_BadName : PySem.W.findIn K (.ref C_BadName) "name" = some none)
    (xv_BadName : PySem.W.findCls K (.type "ValueError") (.type "type") "__init__" = some (.val (.builtin "ValueError.__init__")))
    (xg_BadName : PySem.W.findIn K (.ref C_BadName) "__getattribute__" = some (some (.builtin "BaseException.__getattribute__")))
    (xa_BadName : PySem.W.findIn K (.ref C_BadName) "__getattr__" = some none)
    (xc_BadName : PySem.W.isClsIn K C_BadName = true)
    (xe_BadName : PySem.W.subIn K (.ref C_BadName) (.ref C_BadName) = some true)
    {C_BadRule : Addr} (a_BadRule : PySem.W.nsIn K mainGlobals "BadRule" = some (some (.ref C_BadRule)))
    {C_BadText : Addr} (a_BadText : PySem.W.nsIn K mainGlobals "BadText" = some (some (.ref C_BadText)))
    (xca_BadName : PySem.W.findIn K (.ref C_BadName) "__class__" = some (some (.builtin "object.__class__"))) (xcn_BadName : PySem.W.specialIn K (.builtin "object.__class__") "__get__" = some (some (.builtin "getset_descriptor.__get__"))) (xct_BadName : PySem.W.takesIn K (.builtin "object.__class__") = some true) (xcm_BadName : PySem.W.mroIn K C_BadName (.type "object") = some true)
    (kx_BadName_ValueError : PySem.W.kitOne K (.ref C_BadName) (.type "ValueError") = some true)
    (kx_BadName_BadRule : PySem.W.kitOne K (.ref C_BadName) (.ref C_BadRule) = some false)
    (kx_BadName_BadText : PySem.W.kitOne K (.ref C_BadName) (.ref C_BadText) = some false)
    (kx_Rule_str : PySem.W.kitOne K (.ref C_Rule) (.type "str") = some false)
    {tk_LETTERS : Tok} (a_LETTERS : PySem.W.nsIn K mainGlobals "LETTERS" = some (some (.str "abcdefghijklmnopqrstuvwxyz" tk_LETTERS)))
    {tk_MOST_LETTERS : Tok} (a_MOST_LETTERS : PySem.W.nsIn K mainGlobals "MOST_LETTERS" = some (some (.int 6 tk_MOST_LETTERS)))
    {tk_BASE : Tok} (a_BASE : PySem.W.nsIn K mainGlobals "BASE" = some (some (.str "base" tk_BASE)))
    {tk_GAP : Tok} (a_GAP : PySem.W.nsIn K mainGlobals "GAP" = some (some (.str ", " tk_GAP)))
    {f_BadName_init : Addr} {od_BadName_init an_BadName_init : Option Addr} {sl_BadName_init : Array (Option Value)} {oc_BadName_init kV_BadName_init dc_BadName_init pm_BadName_init cd_BadName_init ct_BadName_init : Value}
    (a_BadName_init : PySem.W.findIn K (.ref C_BadName) "__init__" = some (some (.ref f_BadName_init))) (i_BadName_init : PySem.W.isFn K (.ref f_BadName_init) = true)
    (l_BadName_init : K.lookup f_BadName_init = some ⟨oc_BadName_init, od_BadName_init, .func (PySem.W.fnOf "__init__" "BadName.__init__" (defArgs s_BadName_init) (defBody s_BadName_init) (defScope s_BadName_init) .none kV_BadName_init dc_BadName_init pm_BadName_init an_BadName_init cd_BadName_init ct_BadName_init), sl_BadName_init⟩)
    (c_BadName_init : PySem.W.codeIn K cd_BadName_init "BadName.__init__" = true) (k_BadName_init : PySem.W.keepIn K (.ref f_BadName_init) = true)
    (ti_BadName_init : PySem.W.typeIn K (.ref f_BadName_init) = some (.type "function"))
    {f_is_name : Addr} {od_is_name an_is_name : Option Addr} {sl_is_name : Array (Option Value)} {oc_is_name kV_is_name dc_is_name pm_is_name cd_is_name ct_is_name : Value}
    (a_is_name : PySem.W.nsIn K mainGlobals "is_name" = some (some (.ref f_is_name)))
    (l_is_name : K.lookup f_is_name = some ⟨oc_is_name, od_is_name, .func (PySem.W.fnOf "is_name" "is_name" (defArgs s_is_name) (defBody s_is_name) (defScope s_is_name) .none kV_is_name dc_is_name pm_is_name an_is_name cd_is_name ct_is_name), sl_is_name⟩)
    (c_is_name : PySem.W.codeIn K cd_is_name "is_name" = true) (k_is_name : PySem.W.keepIn K (.ref f_is_name) = true)
    {f_names_in : Addr} {od_names_in an_names_in : Option Addr} {sl_names_in : Array (Option Value)} {oc_names_in kV_names_in dc_names_in pm_names_in cd_names_in ct_names_in : Value}
    (a_names_in : PySem.W.nsIn K mainGlobals "names_in" = some (some (.ref f_names_in)))
    (l_names_in : K.lookup f_names_in = some ⟨oc_names_in, od_names_in, .func (PySem.W.fnOf "names_in" "names_in" (defArgs s_names_in) (defBody s_names_in) (defScope s_names_in) .none kV_names_in dc_names_in pm_names_in an_names_in cd_names_in ct_names_in), sl_names_in⟩)
    (c_names_in : PySem.W.codeIn K cd_names_in "names_in" = true) (k_names_in : PySem.W.keepIn K (.ref f_names_in) = true)
    {f_Rule_init : Addr} {od_Rule_init an_Rule_init : Option Addr} {sl_Rule_init : Array (Option Value)} {oc_Rule_init kV_Rule_init dc_Rule_init pm_Rule_init cd_Rule_init ct_Rule_init : Value}
    (a_Rule_init : PySem.W.findIn K (.ref C_Rule) "__init__" = some (some (.ref f_Rule_init))) (i_Rule_init : PySem.W.isFn K (.ref f_Rule_init) = true)
    (l_Rule_init : K.lookup f_Rule_init = some ⟨oc_Rule_init, od_Rule_init, .func (PySem.W.fnOf "__init__" "Rule.__init__" (defArgs s_Rule_init) (defBody s_Rule_init) (defScope s_Rule_init) .none kV_Rule_init dc_Rule_init pm_Rule_init an_Rule_init cd_Rule_init ct_Rule_init), sl_Rule_init⟩)
    (c_Rule_init : PySem.W.codeIn K cd_Rule_init "Rule.__init__" = true) (k_Rule_init : PySem.W.keepIn K (.ref f_Rule_init) = true)
    {f_Rule_len : Addr} {od_Rule_len an_Rule_len : Option Addr} {sl_Rule_len : Array (Option Value)} {oc_Rule_len kV_Rule_len dc_Rule_len pm_Rule_len cd_Rule_len ct_Rule_len : Value}
    (a_Rule_len : PySem.W.findIn K (.ref C_Rule) "__len__" = some (some (.ref f_Rule_len))) (i_Rule_len : PySem.W.isFn K (.ref f_Rule_len) = true)
    (l_Rule_len : K.lookup f_Rule_len = some ⟨oc_Rule_len, od_Rule_len, .func (PySem.W.fnOf "__len__" "Rule.__len__" (defArgs s_Rule_len) (defBody s_Rule_len) (defScope s_Rule_len) .none kV_Rule_len dc_Rule_len pm_Rule_len an_Rule_len cd_Rule_len ct_Rule_len), sl_Rule_len⟩)
    (c_Rule_len : PySem.W.codeIn K cd_Rule_len "Rule.__len__" = true) (k_Rule_len : PySem.W.keepIn K (.ref f_Rule_len) = true)
    {f_Rule_str : Addr} {od_Rule_str an_Rule_str : Option Addr} {sl_Rule_str : Array (Option Value)} {oc_Rule_str kV_Rule_str dc_Rule_str pm_Rule_str cd_Rule_str ct_Rule_str : Value}
    (a_Rule_str : PySem.W.findIn K (.ref C_Rule) "__str__" = some (some (.ref f_Rule_str))) (i_Rule_str : PySem.W.isFn K (.ref f_Rule_str) = true)
    (l_Rule_str : K.lookup f_Rule_str = some ⟨oc_Rule_str, od_Rule_str, .func (PySem.W.fnOf "__str__" "Rule.__str__" (defArgs s_Rule_str) (defBody s_Rule_str) (defScope s_Rule_str) .none kV_Rule_str dc_Rule_str pm_Rule_str an_Rule_str cd_Rule_str ct_Rule_str), sl_Rule_str⟩)
    (c_Rule_str : PySem.W.codeIn K cd_Rule_str "Rule.__str__" = true) (k_Rule_str : PySem.W.keepIn K (.ref f_Rule_str) = true)
    {f_Rule_repr : Addr} {od_Rule_repr an_Rule_repr : Option Addr} {sl_Rule_repr : Array (Option Value)} {oc_Rule_repr kV_Rule_repr dc_Rule_repr pm_Rule_repr cd_Rule_repr ct_Rule_repr : Value}
    (a_Rule_repr : PySem.W.findIn K (.ref C_Rule) "__repr__" = some (some (.ref f_Rule_repr))) (i_Rule_repr : PySem.W.isFn K (.ref f_Rule_repr) = true)
    (l_Rule_repr : K.lookup f_Rule_repr = some ⟨oc_Rule_repr, od_Rule_repr, .func (PySem.W.fnOf "__repr__" "Rule.__repr__" (defArgs s_Rule_repr) (defBody s_Rule_repr) (defScope s_Rule_repr) .none kV_Rule_repr dc_Rule_repr pm_Rule_repr an_Rule_repr cd_Rule_repr ct_Rule_repr), sl_Rule_repr⟩)
    (c_Rule_repr : PySem.W.codeIn K cd_Rule_repr "Rule.__repr__" = true) (k_Rule_repr : PySem.W.keepIn K (.ref f_Rule_repr) = true)
    {p_Rule_word : Addr} {re_Rule_word : List Value}
    {f_Rule_word : Addr} {od_Rule_word an_Rule_word : Option Addr} {sl_Rule_word : Array (Option Value)} {oc_Rule_word kV_Rule_word dc_Rule_word pm_Rule_word cd_Rule_word ct_Rule_word : Value}
    (a_Rule_word : PySem.W.findIn K (.ref C_Rule) "word" = some (some (.ref p_Rule_word))) (g_Rule_word : PySem.W.specialIn K (.ref p_Rule_word) "__get__" = some (some (.builtin "property.__get__"))) (t_Rule_word : PySem.W.takesIn K (.ref p_Rule_word) = some true) (r_Rule_word : PySem.W.recIn K p_Rule_word "property" = some (.ref f_Rule_word :: re_Rule_word))
    (l_Rule_word : K.lookup f_Rule_word = some ⟨oc_Rule_word, od_Rule_word, .func (PySem.W.fnOf "word" "Rule.word" (defArgs s_Rule_word) (defBody s_Rule_word) (defScope s_Rule_word) .none kV_Rule_word dc_Rule_word pm_Rule_word an_Rule_word cd_Rule_word ct_Rule_word), sl_Rule_word⟩)
    (c_Rule_word : PySem.W.codeIn K cd_Rule_word "Rule.word" = true) (k_Rule_word : PySem.W.keepIn K (.ref f_Rule_word) = true)
    {p_Rule_names : Addr} {re_Rule_names : List Value}
    {f_Rule_names : Addr} {od_Rule_names an_Rule_names : Option Addr} {sl_Rule_names : Array (Option Value)} {oc_Rule_names kV_Rule_names dc_Rule_names pm_Rule_names cd_Rule_names ct_Rule_names : Value}
    (a_Rule_names : PySem.W.findIn K (.ref C_Rule) "names" = some (some (.ref p_Rule_names))) (g_Rule_names : PySem.W.specialIn K (.ref p_Rule_names) "__get__" = some (some (.builtin "property.__get__"))) (t_Rule_names : PySem.W.takesIn K (.ref p_Rule_names) = some true) (r_Rule_names : PySem.W.recIn K p_Rule_names "property" = some (.ref f_Rule_names :: re_Rule_names))
    (l_Rule_names : K.lookup f_Rule_names = some ⟨oc_Rule_names, od_Rule_names, .func (PySem.W.fnOf "names" "Rule.names" (defArgs s_Rule_names) (defBody s_Rule_names) (defScope s_Rule_names) .none kV_Rule_names dc_Rule_names pm_Rule_names an_Rule_names cd_Rule_names ct_Rule_names), sl_Rule_names⟩)
    (c_Rule_names : PySem.W.codeIn K cd_Rule_names "Rule.names" = true) (k_Rule_names : PySem.W.keepIn K (.ref f_Rule_names) = true)
    {p_Rule_parts : Addr} {re_Rule_parts : List Value}
    {f_Rule_parts : Addr} {od_Rule_parts an_Rule_parts : Option Addr} {sl_Rule_parts : Array (Option Value)} {oc_Rule_parts kV_Rule_parts dc_Rule_parts pm_Rule_parts cd_Rule_parts ct_Rule_parts : Value}
    (a_Rule_parts : PySem.W.findIn K (.ref C_Rule) "parts" = some (some (.ref p_Rule_parts))) (g_Rule_parts : PySem.W.specialIn K (.ref p_Rule_parts) "__get__" = some (some (.builtin "property.__get__"))) (t_Rule_parts : PySem.W.takesIn K (.ref p_Rule_parts) = some true) (r_Rule_parts : PySem.W.recIn K p_Rule_parts "property" = some (.ref f_Rule_parts :: re_Rule_parts))
    (l_Rule_parts : K.lookup f_Rule_parts = some ⟨oc_Rule_parts, od_Rule_parts, .func (PySem.W.fnOf "parts" "Rule.parts" (defArgs s_Rule_parts) (defBody s_Rule_parts) (defScope s_Rule_parts) .none kV_Rule_parts dc_Rule_parts pm_Rule_parts an_Rule_parts cd_Rule_parts ct_Rule_parts), sl_Rule_parts⟩)
    (c_Rule_parts : PySem.W.codeIn K cd_Rule_parts "Rule.parts" = true) (k_Rule_parts : PySem.W.keepIn K (.ref f_Rule_parts) = true)
    {f_base : Addr} {od_base an_base : Option Addr} {sl_base : Array (Option Value)} {oc_base kV_base dc_base pm_base cd_base ct_base : Value}
    (a_base : PySem.W.nsIn K mainGlobals "base" = some (some (.ref f_base)))
    (l_base : K.lookup f_base = some ⟨oc_base, od_base, .func (PySem.W.fnOf "base" "base" (defArgs s_base) (defBody s_base) (defScope s_base) .none kV_base dc_base pm_base an_base cd_base ct_base), sl_base⟩)
    (c_base : PySem.W.codeIn K cd_base "base" = true) (k_base : PySem.W.keepIn K (.ref f_base) = true)
    {f_law_bag : Addr} {od_law_bag an_law_bag : Option Addr} {sl_law_bag : Array (Option Value)} {oc_law_bag kV_law_bag dc_law_bag pm_law_bag cd_law_bag ct_law_bag : Value}
    (a_law_bag : PySem.W.nsIn K mainGlobals "_law_bag" = some (some (.ref f_law_bag)))
    (l_law_bag : K.lookup f_law_bag = some ⟨oc_law_bag, od_law_bag, .func (PySem.W.fnOf "_law_bag" "_law_bag" (defArgs s_law_bag) (defBody s_law_bag) (defScope s_law_bag) .none kV_law_bag dc_law_bag pm_law_bag an_law_bag cd_law_bag ct_law_bag), sl_law_bag⟩)
    (c_law_bag : PySem.W.codeIn K cd_law_bag "_law_bag" = true) (k_law_bag : PySem.W.keepIn K (.ref f_law_bag) = true)
    {f_law_take : Addr} {od_law_take an_law_take : Option Addr} {sl_law_take : Array (Option Value)} {oc_law_take kV_law_take dc_law_take pm_law_take cd_law_take ct_law_take : Value}
    (a_law_take : PySem.W.nsIn K mainGlobals "_law_take" = some (some (.ref f_law_take)))
    (l_law_take : K.lookup f_law_take = some ⟨oc_law_take, od_law_take, .func (PySem.W.fnOf "_law_take" "_law_take" (defArgs s_law_take) (defBody s_law_take) (defScope s_law_take) .none kV_law_take dc_law_take pm_law_take an_law_take cd_law_take ct_law_take), sl_law_take⟩)
    (c_law_take : PySem.W.codeIn K cd_law_take "_law_take" = true) (k_law_take : PySem.W.keepIn K (.ref f_law_take) = true)
    {f_law_is_name : Addr} {od_law_is_name an_law_is_name : Option Addr} {sl_law_is_name : Array (Option Value)} {oc_law_is_name kV_law_is_name dc_law_is_name pm_law_is_name cd_law_is_name ct_law_is_name : Value}
    (a_law_is_name : PySem.W.nsIn K mainGlobals "_law_is_name" = some (some (.ref f_law_is_name)))
    (l_law_is_name : K.lookup f_law_is_name = some ⟨oc_law_is_name, od_law_is_name, .func (PySem.W.fnOf "_law_is_name" "_law_is_name" (defArgs s_law_is_name) (defBody s_law_is_name) (defScope s_law_is_name) .none kV_law_is_name dc_law_is_name pm_law_is_name an_law_is_name cd_law_is_name ct_law_is_name), sl_law_is_name⟩)
    (c_law_is_name : PySem.W.codeIn K cd_law_is_name "_law_is_name" = true) (k_law_is_name : PySem.W.keepIn K (.ref f_law_is_name) = true)
    {f_law_string : Addr} {od_law_string an_law_string : Option Addr} {sl_law_string : Array (Option Value)} {oc_law_string kV_law_string dc_law_string pm_law_string cd_law_string ct_law_string : Value}
    (a_law_string : PySem.W.nsIn K mainGlobals "_law_string" = some (some (.ref f_law_string)))
    (l_law_string : K.lookup f_law_string = some ⟨oc_law_string, od_law_string, .func (PySem.W.fnOf "_law_string" "_law_string" (defArgs s_law_string) (defBody s_law_string) (defScope s_law_string) .none kV_law_string dc_law_string pm_law_string an_law_string cd_law_string ct_law_string), sl_law_string⟩)
    (c_law_string : PySem.W.codeIn K cd_law_string "_law_string" = true) (k_law_string : PySem.W.keepIn K (.ref f_law_string) = true)
    {f_law_outcome : Addr} {od_law_outcome an_law_outcome : Option Addr} {sl_law_outcome : Array (Option Value)} {oc_law_outcome kV_law_outcome dc_law_outcome pm_law_outcome cd_law_outcome ct_law_outcome : Value}
    (a_law_outcome : PySem.W.nsIn K mainGlobals "_law_outcome" = some (some (.ref f_law_outcome)))
    (l_law_outcome : K.lookup f_law_outcome = some ⟨oc_law_outcome, od_law_outcome, .func (PySem.W.fnOf "_law_outcome" "_law_outcome" (defArgs s_law_outcome) (defBody s_law_outcome) (defScope s_law_outcome) .none kV_law_outcome dc_law_outcome pm_law_outcome an_law_outcome cd_law_outcome ct_law_outcome), sl_law_outcome⟩)
    (c_law_outcome : PySem.W.codeIn K cd_law_outcome "_law_outcome" = true) (k_law_outcome : PySem.W.keepIn K (.ref f_law_outcome) = true)
    {f_law : Addr} {od_law an_law : Option Addr} {sl_law : Array (Option Value)} {oc_law kV_law dc_law pm_law cd_law ct_law : Value}
    (a_law : PySem.W.nsIn K mainGlobals "law" = some (some (.ref f_law)))
    (l_law : K.lookup f_law = some ⟨oc_law, od_law, .func (PySem.W.fnOf "law" "law" (defArgs s_law) (defBody s_law) (defScope s_law) .none kV_law dc_law pm_law an_law cd_law ct_law), sl_law⟩)
    (c_law : PySem.W.codeIn K cd_law "law" = true) (k_law : PySem.W.keepIn K (.ref f_law) = true)
    (z_ValueError : PySem.W.nsIn K mainGlobals "ValueError" = some none)
    (z_abs : PySem.W.nsIn K mainGlobals "abs" = some none)
    (z_all : PySem.W.nsIn K mainGlobals "all" = some none)
    (z_isinstance : PySem.W.nsIn K mainGlobals "isinstance" = some none)
    (z_len : PySem.W.nsIn K mainGlobals "len" = some none)
    (z_max : PySem.W.nsIn K mainGlobals "max" = some none)
    (z_min : PySem.W.nsIn K mainGlobals "min" = some none)
    (z_range : PySem.W.nsIn K mainGlobals "range" = some none)
    (z_repr : PySem.W.nsIn K mainGlobals "repr" = some none)
    (z_sorted : PySem.W.nsIn K mainGlobals "sorted" = some none)
    (z_str : PySem.W.nsIn K mainGlobals "str" = some none)
    (z_tuple : PySem.W.nsIn K mainGlobals "tuple" = some none)
    {ca_law pt_law : Addr} {ce_law : Option Addr} {cv_law : Array Value} {cs_law : Array (Option Value)} (cq_law : cd_law = .ref ca_law) (ck_law : K.lookup ca_law = some ⟨.type "code", ce_law, .fields cv_law, cs_law⟩)
    (cp_law : cv_law[11]? = some (.ref pt_law)) (ch_law : PySem.W.codeHdIn [(ca_law, ⟨.type "code", ce_law, .fields cv_law, cs_law⟩)] ca_law pt_law = true) (cn_law : K.lookup pt_law = none)
    : ∃ (fd : FuncData) (c T : Addr) (e : Value) (dd : Option Addr) (sl : Array (Option Value)), (∀ (s : Shared) (u : Value), BindsTo s fd ⟨[u], []⟩ [("_law_script", u)]) ∧ K.lookup fa = some ⟨e, dd, .func fd, sl⟩ ∧ fd.code = .ref c ∧ PySem.W.codeHdIn K c T = true ∧ K.lookup T = none ∧
      ∀ base : Heap, K.In base → base.Ns mainGlobals mg → LamX.TabB base mg c T → FnG l.prog w K mg base CX0 14 fa fd ["_law_script"] (sp_law K T) := by
  subst cq_law
  have e := hfa.symm.trans (PySem.W.mg_of X G a_law)
  cases e
  have F_BadName_init := fun_mk (st := s_BadName_init) l_BadName_init c_BadName_init k_BadName_init
  have b_BadName_init := F_BadName_init.binds (ps := ["self", "name"]) fun _ _ _ _ _ _ us hl => match us, hl with | [_, _], _ => rfl
  have F_is_name := fun_mk (st := s_is_name) l_is_name c_is_name k_is_name
  have b_is_name := F_is_name.binds (ps := ["value"]) fun _ _ _ _ _ _ us hl => match us, hl with | [_], _ => rfl
  have F_names_in := fun_mk (st := s_names_in) l_names_in c_names_in k_names_in
  have b_names_in := F_names_in.binds (ps := ["rules"]) fun _ _ _ _ _ _ us hl => match us, hl with | [_], _ => rfl
  have F_Rule_init := fun_mk (st := s_Rule_init) l_Rule_init c_Rule_init k_Rule_init
  have b_Rule_init := F_Rule_init.binds (ps := ["self", "operation", "name", "operands"]) fun _ _ _ _ _ _ us hl => match us, hl with | [_, _, _, _], _ => rfl
  have F_Rule_len := fun_mk (st := s_Rule_len) l_Rule_len c_Rule_len k_Rule_len
  have b_Rule_len := F_Rule_len.binds (ps := ["self"]) fun _ _ _ _ _ _ us hl => match us, hl with | [_], _ => rfl
  have F_Rule_str := fun_mk (st := s_Rule_str) l_Rule_str c_Rule_str k_Rule_str
  have b_Rule_str := F_Rule_str.binds (ps := ["self"]) fun _ _ _ _ _ _ us hl => match us, hl with | [_], _ => rfl
  have F_Rule_repr := fun_mk (st := s_Rule_repr) l_Rule_repr c_Rule_repr k_Rule_repr
  have b_Rule_repr := F_Rule_repr.binds (ps := ["self"]) fun _ _ _ _ _ _ us hl => match us, hl with | [_], _ => rfl
  have F_Rule_word := fun_mk (st := s_Rule_word) l_Rule_word c_Rule_word k_Rule_word
  have b_Rule_word := F_Rule_word.binds (ps := ["self"]) fun _ _ _ _ _ _ us hl => match us, hl with | [_], _ => rfl
  have F_Rule_names := fun_mk (st := s_Rule_names) l_Rule_names c_Rule_names k_Rule_names
  have b_Rule_names := F_Rule_names.binds (ps := ["self"]) fun _ _ _ _ _ _ us hl => match us, hl with | [_], _ => rfl
  have F_Rule_parts := fun_mk (st := s_Rule_parts) l_Rule_parts c_Rule_parts k_Rule_parts
  have b_Rule_parts := F_Rule_parts.binds (ps := ["self"]) fun _ _ _ _ _ _ us hl => match us, hl with | [_], _ => rfl
  have F_base := fun_mk (st := s_base) l_base c_base k_base
  have b_base := F_base.binds (ps := ["name"]) fun _ _ _ _ _ _ us hl => match us, hl with | [_], _ => rfl
  have F_law_bag := fun_mk (st := s_law_bag) l_law_bag c_law_bag k_law_bag
  have b_law_bag := F_law_bag.binds (ps := ["_law_script", "_law_at"]) fun _ _ _ _ _ _ us hl => match us, hl with | [_, _], _ => rfl
  have F_law_take := fun_mk (st := s_law_take) l_law_take c_law_take k_law_take
  have b_law_take := F_law_take.binds (ps := ["_law_bag_here", "_law_many"]) fun _ _ _ _ _ _ us hl => match us, hl with | [_, _], _ => rfl
  have F_law_is_name := fun_mk (st := s_law_is_name) l_law_is_name c_law_is_name k_law_is_name
  have b_law_is_name := F_law_is_name.binds (ps := ["_law_thing"]) fun _ _ _ _ _ _ us hl => match us, hl with | [_], _ => rfl
  have F_law_string := fun_mk (st := s_law_string) l_law_string c_law_string k_law_string
  have b_law_string := F_law_string.binds (ps := ["_law_bag_here"]) fun _ _ _ _ _ _ us hl => match us, hl with | [_], _ => rfl
  have F_law_outcome := fun_mk (st := s_law_outcome) l_law_outcome c_law_outcome k_law_outcome
  have b_law_outcome := F_law_outcome.binds (ps := ["_law_deed"]) fun _ _ _ _ _ _ us hl => match us, hl with | [_], _ => rfl
  have F_law := fun_mk (st := s_law) l_law c_law k_law
  have b_law := F_law.binds (ps := ["_law_script"]) fun _ _ _ _ _ _ us hl => match us, hl with | [_], _ => rfl
  have T : Txt K mg := {
    f_BadName_init := _,
    d_BadName_init := _,
    F_BadName_init := F_BadName_init,
    b_BadName_init := b_BadName_init,
    f_is_name := _,
    d_is_name := _,
    F_is_name := F_is_name,
    m_is_name := PySem.W.mg_of X G a_is_name,
    b_is_name := b_is_name,
    f_names_in := _,
    d_names_in := _,
    F_names_in := F_names_in,
    m_names_in := PySem.W.mg_of X G a_names_in,
    b_names_in := b_names_in,
    f_Rule_init := _,
    d_Rule_init := _,
    F_Rule_init := F_Rule_init,
    b_Rule_init := b_Rule_init,
    f_Rule_len := _,
    d_Rule_len := _,
    F_Rule_len := F_Rule_len,
    b_Rule_len := b_Rule_len,
    f_Rule_str := _,
    d_Rule_str := _,
    F_Rule_str := F_Rule_str,
    b_Rule_str := b_Rule_str,
    f_Rule_repr := _,
    d_Rule_repr := _,
    F_Rule_repr := F_Rule_repr,
    b_Rule_repr := b_Rule_repr,
    f_Rule_word := _,
    d_Rule_word := _,
    F_Rule_word := F_Rule_word,
    b_Rule_word := b_Rule_word,
    f_Rule_names := _,
    d_Rule_names := _,
    F_Rule_names := F_Rule_names,
    b_Rule_names := b_Rule_names,
    f_Rule_parts := _,
    d_Rule_parts := _,
    F_Rule_parts := F_Rule_parts,
    b_Rule_parts := b_Rule_parts,
    f_base := _,
    d_base := _,
    F_base := F_base,
    m_base := PySem.W.mg_of X G a_base,
    b_base := b_base,
    f_law_bag := _,
    d_law_bag := _,
    F_law_bag := F_law_bag,
    m_law_bag := PySem.W.mg_of X G a_law_bag,
    b_law_bag := b_law_bag,
    f_law_take := _,
    d_law_take := _,
    F_law_take := F_law_take,
    m_law_take := PySem.W.mg_of X G a_law_take,
    b_law_take := b_law_take,
    f_law_is_name := _,
    d_law_is_name := _,
    F_law_is_name := F_law_is_name,
    m_law_is_name := PySem.W.mg_of X G a_law_is_name,
    b_law_is_name := b_law_is_name,
    f_law_string := _,
    d_law_string := _,
    F_law_string := F_law_string,
    m_law_string := PySem.W.mg_of X G a_law_string,
    b_law_string := b_law_string,
    f_law_outcome := _,
    d_law_outcome := _,
    F_law_outcome := F_law_outcome,
    m_law_outcome := PySem.W.mg_of X G a_law_outcome,
    b_law_outcome := b_law_outcome,
    f_law := _,
    d_law := _,
    F_law := F_law,
    m_law := PySem.W.mg_of X G a_law,
    b_law := b_law,
    C_Rule := _,
    cl_Rule := ⟨pg_Rule, hd_Rule, po_Rule, sa_Rule⟩,
    m_Rule := PySem.W.mg_of X G a_Rule,
    n_Rule_operation := n_Rule_operation,
    n_Rule_name := n_Rule_name,
    n_Rule_operands := n_Rule_operands,
    n_Rule_flat := n_Rule_flat,
    n_Rule_written := n_Rule_written,
    n_Rule_base_names := n_Rule_base_names,
    mk_Rule := ⟨mk_Rule, a_Rule_init, i_Rule_init, kc_Rule⟩,
    p_Rule_word := _,
    pr_Rule_word := ⟨a_Rule_word, g_Rule_word, t_Rule_word, ⟨_, r_Rule_word⟩⟩,
    p_Rule_names := _,
    pr_Rule_names := ⟨a_Rule_names, g_Rule_names, t_Rule_names, ⟨_, r_Rule_names⟩⟩,
    p_Rule_parts := _,
    pr_Rule_parts := ⟨a_Rule_parts, g_Rule_parts, t_Rule_parts, ⟨_, r_Rule_parts⟩⟩,
    om_Rule_len := ⟨a_Rule_len, i_Rule_len⟩,
    om_Rule_str := ⟨a_Rule_str, i_Rule_str⟩,
    om_Rule_repr := ⟨a_Rule_repr, i_Rule_repr⟩,
    ic_Rule := ⟨⟨pg_Rule, hd_Rule, po_Rule, sa_Rule⟩, ha_Rule, hn_Rule, ht_Rule, hm_Rule, if_pos (beq_self_eq_true _)⟩,
    ki_Rule_NoneType := ki_Rule_NoneType,
    ki_Rule_bool := ki_Rule_bool,
    ki_Rule_int := ki_Rule_int,
    ki_Rule_str := ki_Rule_str,
    ki_Rule_list := ki_Rule_list,
    ki_Rule_tuple := ki_Rule_tuple,
    ki_Rule_dict := ki_Rule_dict,
    C_BadName := _,
    m_BadName := PySem.W.mg_of X G a_BadName,
    x_BadName := ⟨⟨xi_BadName, xo_BadName, xh_BadName, xs_BadName, xb_BadName, xt_BadName, xk_BadName⟩, a_BadName_init, ti_BadName_init, xm_BadName, xn_BadName, xv_BadName, ⟨xg_BadName, xa_BadName, xb_BadName, xh_BadName⟩, exm_self xb_BadName xc_BadName xt_BadName xe_BadName⟩,
    C_BadRule := _,
    m_BadRule := PySem.W.mg_of X G a_BadRule,
    C_BadText := _,
    m_BadText := PySem.W.mg_of X G a_BadText,
    ec_BadName := ⟨xg_BadName, xa_BadName, xb_BadName, xh_BadName, xca_BadName, xcn_BadName, xct_BadName, xcm_BadName⟩,
    kx_BadName_ValueError := kx_BadName_ValueError,
    kx_BadName_BadRule := kx_BadName_BadRule,
    kx_BadName_BadText := kx_BadName_BadText,
    kx_Rule_str := kx_Rule_str,
    u_LETTERS := _,
    c_LETTERS := PySem.W.mg_of X G a_LETTERS,
    r_LETTERS := ⟨_, rfl⟩,
    u_MOST_LETTERS := _,
    c_MOST_LETTERS := PySem.W.mg_of X G a_MOST_LETTERS,
    r_MOST_LETTERS := ⟨_, rfl⟩,
    u_BASE := _,
    c_BASE := PySem.W.mg_of X G a_BASE,
    r_BASE := ⟨_, rfl⟩,
    u_GAP := _,
    c_GAP := PySem.W.mg_of X G a_GAP,
    r_GAP := ⟨_, rfl⟩,
    kb_base_0_name := kb_one F_base fun _ _ _ _ _ _ _ => rfl,
    z_ValueError := PySem.W.mg_none_of X G z_ValueError,
    z_abs := PySem.W.mg_none_of X G z_abs,
    z_all := PySem.W.mg_none_of X G z_all,
    z_isinstance := PySem.W.mg_none_of X G z_isinstance,
    z_len := PySem.W.mg_none_of X G z_len,
    z_max := PySem.W.mg_none_of X G z_max,
    z_min := PySem.W.mg_none_of X G z_min,
    z_range := PySem.W.mg_none_of X G z_range,
    z_repr := PySem.W.mg_none_of X G z_repr,
    z_sorted := PySem.W.mg_none_of X G z_sorted,
    z_str := PySem.W.mg_none_of X G z_str,
    z_tuple := PySem.W.mg_none_of X G z_tuple }
  have FC_law : FunC K "law" "law" s_law _ ca_law _ := ⟨⟨_, _, _, _, _, _, _, _, rfl, l_law, c_law⟩⟩
  exact ⟨PySem.W.fnOf "law" "law" (defArgs s_law) (defBody s_law) (defScope s_law) .none kV_law dc_law pm_law an_law (.ref ca_law) ct_law, ca_law, pt_law, _, _, _, fun s v => .of_eq rfl, l_law, rfl, codeHd_by ck_law ch_law, cn_law, fun base _ _ TB => ok_law_ FC_law T TB⟩
theorem walk {l : PySem.W.OpenLaw} {q : Program} {loose : List Str} {XP : (Str → Option Value) → Heap → Prop} {YP : World → Heap → Prop} {d : DefRec} {K : Params → PySem.W.Frag} (hn : l.most = some 63) (hdf : d.params.defaults = []) (hrec : ((recsOf q).any fun e => e.name == d.name) = true)
    (hY : ∀ (w : World) (h : Heap), YP w h → (K w.params).In h)
    (F : ∀ (w : World) (mg : Str → Option Value) (fa : Addr) (h : Heap), (K w.params).In h → h.Ns mainGlobals mg → mg d.name = some (.ref fa) →
      ∃ (fd : FuncData) (c T : Addr) (e : Value) (dd : Option Addr) (sl : Array (Option Value)), (∀ (s : Shared) (u : Value), BindsTo s fd ⟨[u], []⟩ [("_law_script", u)]) ∧ (K w.params).lookup fa = some ⟨e, dd, .func fd, sl⟩ ∧ fd.code = .ref c ∧ PySem.W.codeHdIn (K w.params) c T = true ∧ (K w.params).lookup T = none ∧
        ∀ base : Heap, (K w.params).In base → base.Ns mainGlobals mg → LamX.TabB base mg c T → FnG l.prog w (K w.params) mg base CX0 14 fa fd ["_law_script"] (sp_law (K w.params) T)) :
    PySem.W.WalkO q loose XP YP l.row.toRowW d [] (fun f vs => PySem.call f vs) :=
  walkT (n := 63) (k := 14) (x := "_law_script") (CX := fun _ => CX0) (sp := fun w T => sp_law (K w.params) T) hn (by decide) hdf ⟨rfl, by decide, by decide⟩ hrec hY F (fun _ _ _ a ns hl hT hS => ⟨a, ns, rfl, hS, hl, hT, fun _ => rfl⟩) fun _ _ _ _ _ z => z
end PX
open PySem PySem.W PyProof.Rows
set_option maxRecDepth 100000 in
set_option maxHeartbeats 0 in
theorem PySem.Challenge.cw_dictorders_k02_names_of_bases_holds : PySem.Challenge.rw_dictorders_k02_names_of_bases.Holds := by
  w_on; o_law; k_head; (case hw => w_witness2)
  k_fill
  refine PX.walk (l := PySem.Challenge.rw_dictorders_k02_names_of_bases) rfl rfl (by kernel_rfl) (fun w h Y => PySem.W.km_in_of Y) ?F
  case F =>
    intro w mg fa h KX G hmg
    refine' PX.all_mk KX G hmg ?a_Rule ?pg_Rule ?hd_Rule ?po_Rule ?sa_Rule ?mk_Rule ?kc_Rule ?n_Rule_operation ?n_Rule_name ?n_Rule_operands ?n_Rule_flat ?n_Rule_written ?n_Rule_base_names ?ha_Rule ?hn_Rule ?ht_Rule ?hm_Rule ?ki_Rule_NoneType ?ki_Rule_bool ?ki_Rule_int ?ki_Rule_str ?ki_Rule_list ?ki_Rule_tuple ?ki_Rule_dict ?a_BadName ?xi_BadName ?xo_BadName ?xh_BadName ?xs_BadName ?xb_BadName ?xt_BadName ?xk_BadName ?xm_BadName ?xn_BadName ?xv_BadName ?xg_BadName ?xa_BadName ?xc_BadName ?xe_BadName ?a_BadRule ?a_BadText ?xca_BadName ?xcn_BadName ?xct_BadName ?xcm_BadName ?kx_BadName_ValueError ?kx_BadName_BadRule ?kx_BadName_BadText ?kx_Rule_str ?a_LETTERS ?a_MOST_LETTERS ?a_BASE ?a_GAP ?a_BadName_init ?i_BadName_init ?l_BadName_init ?c_BadName_init ?k_BadName_init ?ti_BadName_init ?a_is_name ?l_is_name ?c_is_name ?k_is_name ?a_names_in ?l_names_in ?c_names_in ?k_names_in ?a_Rule_init ?i_Rule_init ?l_Rule_init ?c_Rule_init ?k_Rule_init ?a_Rule_len ?i_Rule_len ?l_Rule_len ?c_Rule_len ?k_Rule_len ?a_Rule_str ?i_Rule_str ?l_Rule_str ?c_Rule_str ?k_Rule_str ?a_Rule_repr ?i_Rule_repr ?l_Rule_repr ?c_Rule_repr ?k_Rule_repr ?a_Rule_word ?g_Rule_word ?t_Rule_word ?r_Rule_word ?l_Rule_word ?c_Rule_word ?k_Rule_word ?a_Rule_names ?g_Rule_names ?t_Rule_names ?r_Rule_names ?l_Rule_names ?c_Rule_names ?k_Rule_names ?a_Rule_parts ?g_Rule_parts ?t_Rule_parts ?r_Rule_parts ?l_Rule_parts ?c_Rule_parts ?k_Rule_parts ?a_base ?l_base ?c_base ?k_base ?a_law_bag ?l_law_bag ?c_law_bag ?k_law_bag ?a_law_take ?l_law_take ?c_law_take ?k_law_take ?a_law_is_name ?l_law_is_name ?c_law_is_name ?k_law_is_name ?a_law_string ?l_law_string ?c_law_string ?k_law_string ?a_law_outcome ?l_law_outcome ?c_law_outcome ?k_law_outcome ?a_law ?l_law ?c_law ?k_law ?z_ValueError ?z_abs ?z_all ?z_isinstance ?z_len ?z_max ?z_min ?z_range ?z_repr ?z_sorted ?z_str ?z_tuple ?cq_law ?ck_law ?cp_law ?ch_law ?cn_law
    (case a_Rule => k_is); (case pg_Rule => k_is); (case hd_Rule => k_is); (case po_Rule => k_is); (case sa_Rule => k_is); (case mk_Rule => k_is)
    (case kc_Rule => k_is); (case n_Rule_operation => k_is); (case n_Rule_name => k_is); (case n_Rule_operands => k_is); (case n_Rule_flat => k_is); (case n_Rule_written => k_is)
    (case n_Rule_base_names => k_is); (case ha_Rule => k_is); (case hn_Rule => k_is); (case ht_Rule => k_is); (case hm_Rule => k_is); (case ki_Rule_NoneType => kit_is)
    (case ki_Rule_bool => kit_is); (case ki_Rule_int => kit_is); (case ki_Rule_str => kit_is); (case ki_Rule_list => kit_is); (case ki_Rule_tuple => kit_is); (case ki_Rule_dict => kit_is)
    (case a_BadName => k_is); (case xi_BadName => kx_is); (case xo_BadName => kx_is); (case xh_BadName => k_is); (case xs_BadName => k_is); (case xb_BadName => k_is)
    (case xt_BadName => k_is); (case xk_BadName => k_is); (case xm_BadName => k_is); (case xn_BadName => k_is); (case xv_BadName => k_is); (case xg_BadName => k_is)
    (case xa_BadName => k_is); (case xc_BadName => k_is); (case xe_BadName => k_is); (case a_BadRule => k_is); (case a_BadText => k_is); (case xca_BadName => k_is)
    (case xcn_BadName => k_is); (case xct_BadName => k_is); (case xcm_BadName => k_is); (case kx_BadName_ValueError => kit_is); (case kx_BadName_BadRule => kit_is); (case kx_BadName_BadText => kit_is)
    (case kx_Rule_str => kit_is); (case a_LETTERS => k_is); (case a_MOST_LETTERS => k_is); (case a_BASE => k_is); (case a_GAP => k_is); (case a_BadName_init => k_is)
    (case i_BadName_init => k_is); (case l_BadName_init => k_is); (case c_BadName_init => k_is); (case k_BadName_init => k_is); (case ti_BadName_init => k_is); (case a_is_name => k_is)
    (case l_is_name => k_is); (case c_is_name => k_is); (case k_is_name => k_is); (case a_names_in => k_is); (case l_names_in => k_is); (case c_names_in => k_is)
    (case k_names_in => k_is); (case a_Rule_init => k_is); (case i_Rule_init => k_is); (case l_Rule_init => k_is); (case c_Rule_init => k_is); (case k_Rule_init => k_is)
    (case a_Rule_len => k_is); (case i_Rule_len => k_is); (case l_Rule_len => k_is); (case c_Rule_len => k_is); (case k_Rule_len => k_is); (case a_Rule_str => k_is)
    (case i_Rule_str => k_is); (case l_Rule_str => k_is); (case c_Rule_str => k_is); (case k_Rule_str => k_is); (case a_Rule_repr => k_is); (case i_Rule_repr => k_is)
    (case l_Rule_repr => k_is); (case c_Rule_repr => k_is); (case k_Rule_repr => k_is); (case a_Rule_word => k_is); (case g_Rule_word => k_is); (case t_Rule_word => k_is)
    (case r_Rule_word => k_is); (case l_Rule_word => k_is); (case c_Rule_word => k_is); (case k_Rule_word => k_is); (case a_Rule_names => k_is); (case g_Rule_names => k_is)
    (case t_Rule_names => k_is); (case r_Rule_names => k_is); (case l_Rule_names => k_is); (case c_Rule_names => k_is); (case k_Rule_names => k_is); (case a_Rule_parts => k_is)
    (case g_Rule_parts => k_is); (case t_Rule_parts => k_is); (case r_Rule_parts => k_is); (case l_Rule_parts => k_is); (case c_Rule_parts => k_is); (case k_Rule_parts => k_is)
    (case a_base => k_is); (case l_base => k_is); (case c_base => k_is); (case k_base => k_is); (case a_law_bag => k_is); (case l_law_bag => k_is)
    (case c_law_bag => k_is); (case k_law_bag => k_is); (case a_law_take => k_is); (case l_law_take => k_is); (case c_law_take => k_is); (case k_law_take => k_is)
    (case a_law_is_name => k_is); (case l_law_is_name => k_is); (case c_law_is_name => k_is); (case k_law_is_name => k_is); (case a_law_string => k_is); (case l_law_string => k_is)
    (case c_law_string => k_is); (case k_law_string => k_is); (case a_law_outcome => k_is); (case l_law_outcome => k_is); (case c_law_outcome => k_is); (case k_law_outcome => k_is)
    (case a_law => k_is); (case l_law => k_is); (case c_law => k_is); (case k_law => k_is); (case z_ValueError => k_is); (case z_abs => k_is)
    (case z_all => k_is); (case z_isinstance => k_is); (case z_len => k_is); (case z_max => k_is); (case z_min => k_is); (case z_range => k_is)
    (case z_repr => k_is); (case z_sorted => k_is); (case z_str => k_is); (case z_tuple => k_is); (case cq_law => rfl); (case ck_law => k_is)
    (case cp_law => rfl); (case ch_law => kernel_rfl); (case cn_law => kernel_rfl)
#print axioms PySem.Challenge.cw_dictorders_k02_names_of_bases_holds
